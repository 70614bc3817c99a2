import PyProof.Rows.All
import Wide.All
import OpenK.AllK
import Wide.FinOn
import HandS.ForMost
import HandS.IsInst
import HandS.TupAny
import HandS.Wide
import HandS.Deep
import HandS.SetKeys
import HandS.Style
import HandS.Conv
import PyProof.ReprRoads
import HandS.SetFor
import HandS.Strs
import HandS.Walk
import HandS.Sort
import HandS.TupLe
import PyProof.NeKinds
import PyProof.EqAt
import HandS.Evl
import PyProof.Draws
import PyProof.EnumMake
import HandS.Slots
import KE.KDictOf
import HandS.More
import HandS.ExcOwn
import HandS.DictTup
import HandS.ListItems
import HandS.SortOrd
import PyProof.Rows.SortKeyStr
import HandS.SortInts
import HandS.SortKw
import HandS.SlotsOwn
import KE.KSortKey
import PyProof.Rows.SortStr
import PyProof.TupleOfSeq
import HandS.DictComp
import HandS.SortRule
import HandS.ForExc
import HandS.ExcField
import HandS.ExcIs
import KE.KExcSuper
import KE.KExcIs
import HandS.Exc
import HandS.WordsExc
import PyProof.InstNe
import OpenK.KOps
import HandS.ClsMeth
import HandS.FStr
import HandS.TupMul
import HandS.Small
import PyProof.ConsumeS
import PySem.Challenge.RW_framemoves_k82_loops_unrolled
import HandS.OwnEq
import KE.KEqDict
import HandS.SuiteRaise
import HandS.RaiseFrom
import HandS.ExcCtx
import KE.KDictPairs
import HandS.Zip
import KE.GoesMore
import KE.GoesEnum
import KE.GoesZip
import PyProof.ListNew
import PyProof.ListRange
set_option Elab.async false
set_option linter.all false
set_option maxRecDepth 100000
set_option maxHeartbeats 8000000
namespace Fm
open PySem PySem.Spec PyProof.Rows L2
theorem bt_len : bootBuiltins "len" = some (.builtin "len") := by decide +kernel
theorem bt_abs : bootBuiltins "abs" = some (.builtin "abs") := by decide +kernel
theorem bt_isinstance : bootBuiltins "isinstance" = some (.builtin "isinstance") := by decide +kernel
theorem bt_repr : bootBuiltins "repr" = some (.builtin "repr") := by decide +kernel
theorem bt_sorted : bootBuiltins "sorted" = some (.builtin "sorted") := by decide +kernel
theorem bt_all : bootBuiltins "all" = some (.builtin "all") := by decide +kernel
theorem bt_int : bootBuiltins "int" = some (.type "int") := by decide +kernel
theorem bt_tuple : bootBuiltins "tuple" = some (.type "tuple") := by decide +kernel
theorem bt_list : bootBuiltins "list" = some (.type "list") := by decide +kernel
theorem bt_dict : bootBuiltins "dict" = some (.type "dict") := by decide +kernel
theorem bt_set : bootBuiltins "set" = some (.type "set") := by decide +kernel
theorem bt_str : bootBuiltins "str" = some (.type "str") := by decide +kernel
theorem bt_bool : bootBuiltins "bool" = some (.type "bool") := by decide +kernel

section
variable {X : Cx} {e l : Expr} {pos : Pos}
theorem pe_ty {x : Str} {n : String} (hm : X.mg x = none) (hv : bootBuiltins x = some (.type n)) (hg : Gl X x := by rfl)
    (h1 : x ≠ "__name__" := by decide) (h2 : (x == ("__debug__" : Str)) = false := by decide) : PE X (.Name x pos) (tC (.ty n)) :=
  pe_bltn hg hm hv rfl h1 h2
theorem pe_or2 {t u : TE} (h : PE X e t) (k : PE X e u) : PE X e (fun σ H Q => t σ H Q ∨ u σ H Q) :=
  ⟨fun pins s σ H Q I q => q.elim (h.run pins s σ H Q I) (k.run pins s σ H Q I)⟩
def iSeq (K : PySem.W.Frag) (tl : TE) : TI := fun σ H R => tl σ H fun x H1 => ∃ a, x = .ref a ∧
  (((∃ xs, SqL K H1 a xs) ∧ R (Itl K a) H1) ∨ ((∃ xs, SqT K H1 a xs) ∧ R (Itt K a) H1))
theorem pi_seq {tg : Expr} {tl : TE} (hl : PE X l tl) : PI X tg l (iSeq X.K tl) := by
  refine ⟨fun pins s σ H R I h => thn (hl.run pins s σ H _ I h) ?_⟩
  rintro v s1 ⟨x, H1, I1, r1, a, rfl, q⟩
  cases r1
  have fp : ∀ b ∈ [s1.heap.objs.size], FpOk X pins H1 b := fun b hb => by
    rw [List.mem_singleton.mp hb]
    exact I1.fpOk (Nat.le_refl _) (I1.hok.fresh (Nat.le_refl _))
  rcases q with ⟨⟨xs, hq⟩, q⟩ | ⟨⟨xs, hq⟩, q⟩
  · obtain ⟨its, rv, p, hz⟩ := I1.list hq
    exact wpAny_pyIter_list p.isList ⟨_, _, _, _, H1, rfl, I1.kept (t' := s1.toks) fun b o e => Heap.get?_push_of_some _ e, turn_list a _,
      ⟨_, Heap.get?_push_size _ rfl, rfl, rfl⟩, fp, q⟩
  · obtain ⟨its, rv, p, hz⟩ := I1.tuple hq
    exact wpAny_pyIter_tuple (show s1.heap.IsTuple a its.toArray from p) ⟨_, _, _, _, H1, rfl, I1.kept (t' := s1.toks) fun b o e => Heap.get?_push_of_some _ e, turn_tuple a _,
      ⟨_, Heap.get?_push_size _ rfl, rfl, rfl⟩, fp, q⟩
def rAddS : R2 := fun x y H Q => ∃ i j, x = .str i ∧ y = .str j ∧ i.length + j.length ≤ sizeLine ∧ Q (.str (i ++ j)) H
def rAddG (K : PySem.W.Frag) : R2 := fun x y H Q => rI0 (fun i j => .int (i + j)) x y H Q ∨ (rAddS x y H Q ∨ (rCatA K x y H Q ∨ rCat x y H Q))
theorem op_addG : OpR X (binaryOp .Add) (rAddG X.K) := OpR.or op_add (OpR.or op_add_str (OpR.or op_catA op_cat))
def rMulG : R2 := fun x y H Q => rI CMul (fun i j => .int (i * j)) x y H Q ∨ rRep x y H Q
theorem op_mulG : OpR X (binaryOp .Mult) rMulG := OpR.or op_mul op_rep
def rEqG (K : PySem.W.Frag) : R2 := fun x y H Q => rEq x y H Q ∨ rEqD K x y H Q
theorem op_eqG (hu : X.A.units + 64 < cLine) : OpR X (compareOp .Eq) (rEqG X.K) := OpR.or op_eq (op_eqD hu)
def rNeG (K : PySem.W.Frag) : R2 := fun x y H Q => rNe x y H Q ∨ rNeD K x y H Q
theorem op_neG (hu : X.A.units + 64 < cLine) : OpR X (compareOp .NotEq) (rNeG X.K) := OpR.or op_ne (op_neD hu)
def rInSig : R2 := fun x y H Q => ∃ (c : Nat) (z : Str), x = .str ⟨#[c]⟩ ∧ y = .str z ∧ Q (.bl (decide (c ∈ z.cps.toList))) H
def rInG (K : PySem.W.Frag) : R2 := fun x y H Q => rInD K x y H Q ∨ rInSig x y H Q
theorem op_inG (hu : X.A.units + 65 < cLine) : OpR X (compareOp .In) (rInG X.K) := OpR.or (op_inD hu) op_in_sign
def rNotInSig : R2 := fun x y H Q => ∃ (c : Nat) (z : Str), x = .str ⟨#[c]⟩ ∧ y = .str z ∧ Q (.bl (!decide (c ∈ z.cps.toList))) H
def rNotInG (K : PySem.W.Frag) : R2 := fun x y H Q => rNotInD K x y H Q ∨ rNotInSig x y H Q
theorem op_notInG (hu : X.A.units + 65 < cLine) : OpR X (compareOp .NotIn) (rNotInG X.K) := OpR.or (op_notInD hu) op_notIn_sign
def rLenG (K : PySem.W.Frag) : List V → Hp → VK → Prop := fun xs H Q =>
  (∃ p ys, xs = [.ref p] ∧ (SqL K H p ys ∨ SqT K H p ys) ∧ Q (.int ys.length) H) ∨ ((∃ z : Str, xs = [.str z] ∧ z.length ≤ sizeLine ∧ Q (.int z.length) H) ∨
    (∃ a kvs, xs = [V.ref a] ∧ H a = some (.dK kvs) ∧ Q (.int kvs.length) H))
theorem call_lenG : CallR X (.builtin "len") (rLenG X.K) := CallR.or call_len_seq (CallR.or call_len_str call_lenD)
def rTupOf (K : PySem.W.Frag) : List V → Hp → VK → Prop := fun xs H Q => ∃ p ys, xs = [.ref p] ∧ ((SqL K H p ys ∧ ∀ l, H l = none → Q (.ref l) (upd H l (.tup ys))) ∨ (SqT K H p ys ∧ Q (.ref p) H))
theorem call_tupG : CallR X (.type "tuple") (rTupOf X.K) := call_tuple_of
def rListOf (K : PySem.W.Frag) : List V → Hp → VK → Prop := fun xs H Q => ∃ p ys, xs = [.ref p] ∧ (SqL K H p ys ∨ SqT K H p ys) ∧ ∀ l, H l = none → Q (.ref l) (upd H l (.lst ys))
theorem call_listG : CallR X (.type "list") (rListOf X.K) := call_list_of
def rSlG (K : PySem.W.Frag) : V → Option Int → Option Int → Hp → VK → Prop := fun x lo hi H Q => rSlL K x lo hi H Q ∨ (rSlA K x lo hi H Q ∨ rSlS x lo hi H Q)
theorem sl_G : SlR X (rSlG X.K) := SlR.or sl_list (SlR.or sl_tupA sl_str)
end
end Fm
namespace Fm
open PySem PySem.Spec PyProof.Rows L2
theorem ext_tup (l b : Addr) (as bs : Array Value) (n m : Nat) (dd : Option Addr) (sl : Array (Option Value))
    (h0 : ¬(!as.isEmpty && Builtin.List.listTooLong (as.size + bs.size)) = true) (h1 : as.size ≤ sizeLine) (h2 : as.size + bs.size ≤ sizeLine + 1) :
    Meets (Builtin.«list.extend» ⟨[.ref l, .ref b], []⟩) (fun _ R s =>
      s.heap.get? l = some { cls := .type "list", dict := none, data := .seq as n, slots := #[] } ∧
      s.heap.get? b = some { cls := .type "tuple", dict := dd, data := .seq bs m, slots := sl } ∧
      R (.ok (.ret Value.none)) { s with heap := s.heap.update l (Obj.mapSeq fun x => x ++ bs), toks := s.toks }) := by
  refine .of_wp fun prog w A R s h => ?_
  obtain ⟨hp, g, d, tk, os⟩ := s
  obtain ⟨ha, hb, hr⟩ := h
  have q1 := AutoSeq1.idx_int
  have q2 := AutoSeq1.sub_tuple_tuple
  have q3 := AutoSeq1.sub_list_list
  have q4 := AutoSeq1.sub_tuple_list
  have q5 := AutoSeq1.sub_list_tuple
  have hz : (as ++ bs).size ≤ sizeLine + 1 := by
    rw [Array.size_append]
    exact h2
  wp_walk using (wpAny_updateSeq ha rfl (hz := h1) (_hz' := hz)), AutoSeq1.wpAny_loadPart' ha, AutoSeq1.wpAny_loadPart' hb
  exact ⟨_, rfl, hr⟩
section
variable {X : Cx}
def rExtT (K : PySem.W.Frag) : V → List V → Hp → VK → Prop := fun x vs H Q => ∃ l b xs zs, x = .ref l ∧ vs = [.ref b] ∧ H l = some (.lst xs) ∧ SqT K H b zs ∧
  xs.length + zs.length ≤ sizeLine ∧ Q .non (upd H l (.lst (xs ++ zs)))
theorem mt_extT : MtR X "list.extend" (rExtT X.K) := by
  intro pins s σ H x vs v us Q I rx rv h
  obtain ⟨l, b, xs, zs, rfl, rfl, hH, hB, hz, q⟩ := h
  cases rx
  obtain ⟨u, rfl, ru⟩ := rv.one
  cases ru
  obtain ⟨z, its, n, r, hl, e⟩ := I.lstM hH
  obtain ⟨its2, r2, ⟨⟨cls, dd, data, sl⟩, ho, hc, m, hd⟩, hz2⟩ := I.tuple hB
  simp only at hc hd
  subst hc hd
  have e1 := r.length
  have e2 := r2.length
  have hs : its.toArray.size + its2.toArray.size ≤ sizeLine := by
    rw [List.size_toArray, List.size_toArray]
    omega
  have hlong : ¬ (!its.toArray.isEmpty && Builtin.List.listTooLong (its.toArray.size + its2.toArray.size)) = true := by
    rw [notLongL hs, Bool.and_false]
    exact Bool.false_ne_true
  refine call_meets PySem.F.slot_list_extend ⟨_, e, rfl⟩ PySem.F.entry_list_extend (PySem.F.args_list_extend_2 _ _)
    (ext_tup l b its.toArray its2.toArray n m dd sl hlong (by rw [List.size_toArray]; omega) (by omega)) ⟨e, ho, ?_⟩
  refine ⟨.non, _, I.lset (its' := its ++ its2) hH e (by simp) (r.append r2) ?_, rfl, q⟩
  rw [List.length_append]
  omega
def rExtG (K : PySem.W.Frag) : V → List V → Hp → VK → Prop := fun x vs H Q => rExtend x vs H Q ∨ rExtT K x vs H Q
theorem mt_extendG : MtR X "list.extend" (rExtG X.K) := MtR.or mt_extend mt_extT
def rReprG (K : PySem.W.Frag) : List V → Hp → VK → Prop := fun xs H Q => ∃ (x : V) (d : PyData), xs = [x] ∧ Dp K H x d ∧ d.showable = true ∧ d.hasDict = false ∧ d.depth ≤ 60 ∧ d.shown.length ≤ sizeLine ∧ Q (.str d.shown) H
theorem call_reprG (hg : X.A.guards = some []) (hu : X.A.units + 64 < cLine) : CallR X (.builtin "repr") (rReprG X.K) := by
  intro pins s σ H xs us Q I rv h
  obtain ⟨x, d, rfl, hd, hs, hn, hdp, hz, q⟩ := h
  obtain ⟨u, rfl, ru⟩ := rv.one
  obtain ⟨as, R⟩ := Dp.reads I d x u hd ru
  have fin : ∀ h' (t : Tok) tk, (∀ b o, s.heap.get? b = some o → h'.get? b = some o) → EP X pins σ Q (.str d.shown t) { s with heap := h', toks := tk } := fun h' t tk hk =>
    ⟨.str d.shown, H, I.kept (h' := h') (t' := tk) hk, ⟨t, rfl⟩, q⟩
  cases hd with
  | non =>
    cases ru
    exact PySem.P.repr_of_none (fin s.heap _ _ fun _ _ e => e)
  | bl b =>
    cases ru
    exact PySem.P.repr_of_bool (fin s.heap _ _ fun _ _ e => e)
  | int i =>
    obtain ⟨t, rfl⟩ := ru
    exact PySem.P.repr_of_int (by simpa [PyData.showable] using hs) (fin s.heap _ _ fun _ _ e => e)
  | str y =>
    obtain ⟨t, rfl⟩ := ru
    exact PySem.P.repr_of_str (fin s.heap _ _ fun _ _ e => e) hz
  | lst h1 h2 =>
    cases ru
    exact PySem.repr_of_reads' R hs (fun c => by rw [hn] at c; cases c) hg (by omega) (fun _ _ e => e) (fun h' t tk hk => fin h' t tk hk) hz
  | tup h1 h2 =>
    cases ru
    exact PySem.repr_of_reads' R hs (fun c => by rw [hn] at c; cases c) hg (by omega) (fun _ _ e => e) (fun h' t tk hk => fin h' t tk hk) hz
end
structure FnOkG (P : Program) (w : World) (K : PySem.W.Frag) (mg : Str → Option Value) (base : Heap) (CX : CXT) (k : Nat) (f : Addr) (fd : FuncData) (ps : List Str) (sp : Sp) : Prop where
  len : ∀ vs H Q E, sp vs H Q E → vs.length = ps.length
  run : ∀ (A : Around) (outer : List Env) (s : Shared) (H : Hp) (args : Args) (us : List Value) (vs : List V) (Q : VK) (E : XK), A.guards = some [] → Room k A →
    Env0 P w K mg base A outer s H → BindsTo s fd args (ps.zip us) → Vals vs us → sp vs H Q E → codeAny (model P w) A (.call (.ref f) args) (CR CX outer P w H s Q E) s
section
variable {P : Program} {w : World} {K : PySem.W.Frag} {mg : Str → Option Value} {base : Heap} {CX : CXT}
theorem FnOkG.mono {j k : Nat} {f : Addr} {fd : FuncData} {ps : List Str} {sp : Sp} (F : FnOkG P w K mg base CX j f fd ps sp) (h : j ≤ k) : FnOkG P w K mg base CX k f fd ps sp :=
  ⟨F.len, fun A outer s H args us vs Q E hg hr => F.run A outer s H args us vs Q E hg (hr.mono h)⟩
theorem guards_deeper (A : Around) (env : Env) (h : A.guards = some []) : (A.deeper env).guards = some [] := by
  first | exact h | simpa [Around.deeper] using h
theorem okG {x qual : Str} {st : Stmt} {f : Addr} {fd : FuncData} {N ps : List Str} {k : Nat} {sp : Sp} (F : Fun K x qual st f fd) (S : FnScope N ps (defScope st))
    (len : ∀ vs H Q E, sp vs H Q E → vs.length = ps.length)
    (body : ∀ (cdv : Value) (A : Around) (outer : List Env) (s : Shared) (H : Hp) (vs : List V) (Q : VK) (E : XK),
      (A.deeper (envOfC qual (defScope st) s.heap.objs.size f cdv)).guards = some [] → Room k (A.deeper (envOfC qual (defScope st) s.heap.objs.size f cdv)) → sp vs H Q E →
      ∃ t, PSs (cxOf CX0 P w K mg base N qual (defScope st) f cdv A outer s H E).nox (defBody st) t ∧ t { nx := fun _ H' => Q .non H', rt := Q } (start N vs) H) :
    FnOkG P w K mg base CX0 (k + 1) f fd ps sp := by
  obtain ⟨oc, od, kV, doc, pm, an, cdv, ct, osl, rfl, lk, hcd⟩ := F.ex
  refine ⟨len, fun A outer s H args us vs Q E hg hr e0 hb rv hsp => ?_⟩
  have KX : K.In s.heap := e0.mod.kin.keeps fun b o e => (e0.bs b o e).1
  have lim : s.heap.NoLimit := e0.mod.nolimit.keeps fun b o e => (e0.bs b o e).1
  refine codeAny_call_function hr.depth (KX _ _ lk) rfl S.co S.gen rfl (PySem.W.codeRec_of KX hcd) (hb _ _ _ _ ?_)
  refine wpAny_newFunctionEnv_cells S.kind (fun y hy => ?_) fun env he s1 ic => ?_
  · rcases S.par y.1 (List.of_mem_zip (show (y.1, y.2) ∈ ps.zip us from hy)).1 with q | q
    · exact .inl q
    · exact .inr ⟨q, PySem.W.cellsFrom_some _ _ _ (.inl q)⟩
  · subst he
    refine ⟨lim.keeps ic.toInCall.keep, codeAny_func ?_⟩
    obtain ⟨t, ht, hq⟩ := body cdv A outer s H vs Q E (guards_deeper A _ hg) (hr.deeper _) hsp
    have I := inv_start (CX := CX0) (N := N) (E := E) S hr.hd e0 (len _ _ _ _ hsp) rv ic
    refine wpAny_mono (ht.nox.run [] s1 (start N vs) H _ I hq) (fun fl s' hs => ?_) fun e s' hs => hs
    cases fl with
    | ret u =>
      obtain ⟨v, σ', H', J, r', q⟩ := hs
      exact ⟨v, H', J.os, J.bare, J.base, J.hok, r', q⟩
    | next =>
      obtain ⟨σ', H', J, q⟩ := hs
      exact ⟨.non, H', J.os, J.bare, J.base, J.hok, rfl, q⟩
    | brk =>
      obtain ⟨_, _, _, q⟩ := hs
      exact q.elim
    | cont =>
      obtain ⟨_, _, _, q⟩ := hs
      exact q.elim
end
section
variable {X : Cx} {CX : CXT} {k : Nat} {f : Addr} {fd : FuncData} {ps : List Str} {sp : Sp} {dvs : List V} {ds : List Value} {E : XK} {x : Str} {p pos : Pos} {e : Expr} {es : List Expr} {t : TA}
theorem pe_callG (F : FnOkG X.prog X.w X.K X.mg X.base CX k f fd ps sp) (hgd : X.A.guards = some []) (hr : Room k X.A) (hg : Gl X x) (hm : X.mg x = some (.ref f))
    (hk : PySem.W.keepIn X.K (.ref f) = true) (hb : Binds X.K fd ps ds) (hd : Vals dvs ds) (hx : Passes CX X E) (ha : PA X (e :: es) t) (hdb : (x == ("__debug__" : Str)) = false := by decide)
    (he : starEach (e :: es) X.env = (false, eval e X.env) :: starEach es X.env := by rfl) (hpl : (backTo pos (starEach es X.env)).any (·.1) = false := by rfl) :
    PE X (.Call (.Name x p) (e :: es) [] pos) (tCall sp dvs E t) := by
  refine ⟨fun pins s σ H Q I h => wpAny_Call_Name_kw (ld_glob I hg hm ?_ hdb)⟩
  refine PySem.W.callWith_K (h₀ := X.base) I.ok.mod.kin hk (thn (ha.run pos pins s σ H _ I h) ?_) he hpl
  rintro us s1 ⟨vs, H1, I1, rv, q⟩
  refine ⟨I1.kIn, ?_⟩
  have r2 := rv.append hd
  have hl : (us ++ ds).length = ps.length := by
    rw [← r2.length]
    exact F.len _ _ _ _ q
  refine wpAny_call (codeAny_mono (F.run X.A X.stack s1 H1 ⟨us, []⟩ _ _ Q E hgd hr I1.env0 (hb s1 us I1.kIn hl) r2 q) fun r s' hq => ?_)
  match r, hq with
  | .error e, hq => exact hx pins σ H1 s1 e s' I1 hq
  | .ok (.ret u), hq => exact I1.after hq
end
end Fm
namespace Fm
open PySem PySem.Spec PyProof.Rows L2
structure Mv (S : List Addr) (H H' : Hp) : Prop where
  tk : ∀ a xs, Rd H a (.tup xs) → Rd H' a (.tup xs)
  keep : ∀ a o, a ∉ S → H a = some o → H' a = some o
section
variable {S T : List Addr} {H H1 H2 : Hp} {p : Addr} {o : HO}
theorem Mv.refl : Mv S H H := ⟨fun _ _ h => h, fun _ _ _ h => h⟩
theorem Mv.trans (a : Mv S H H1) (b : Mv S H1 H2) : Mv S H H2 := ⟨fun c xs h => b.tk c xs (a.tk c xs h), fun c u n h => b.keep c u n (a.keep c u n h)⟩
theorem Mv.mono (a : Mv S H H1) (h : ∀ x ∈ S, x ∈ T) : Mv T H H1 := ⟨a.tk, fun c u n e => a.keep c u (fun z => n (h c z)) e⟩
theorem Mv.of_same (h : Same H H1) : Mv S H H1 := ⟨fun a xs r => r.elim (fun r => .inl (h _ _ r)) fun ⟨o, r⟩ => .inr ⟨o, h _ _ r⟩, fun a o _ e => h a o e⟩
theorem same_new (h : H p = none) : Same H (upd H p o) := fun a u e => by
  rw [upd_ne (ne_of_none e h)]
  exact e
theorem Mv.new (h : H p = none) : Mv S H (upd H p o) := .of_same (same_new h)
theorem Mv.free (a : Mv [] H H1) (h : H1 p = none) : H p = none := by
  cases q : H p with
  | none => rfl
  | some u =>
    rw [a.keep p u (List.not_mem_nil) q] at h
    cases h
theorem Mv.same (a : Mv [] H H1) : Same H H1 := fun c u e => a.keep c u List.not_mem_nil e
theorem Mv.wr (a : Mv S H H1) (h : H p = none) : Mv S H (upd H1 p o) := by
  refine ⟨fun c xs r => ?_, fun c u n e => ?_⟩
  · have hc : c ≠ p := by
      rintro rfl
      rcases r with r | ⟨u, r⟩ <;> (rw [h] at r; cases r)
    rcases a.tk c xs r with r | ⟨u, r⟩
    · exact .inl (by rw [upd_ne hc]; exact r)
    · exact .inr ⟨u, by rw [upd_ne hc]; exact r⟩
  · rw [upd_ne (ne_of_none e h)]
    exact a.keep c u n e
theorem Mv.set {xs : List V} (h : H p = some (.lst xs)) (hp : p ∈ S) : Mv S H (upd H p o) := by
  refine ⟨fun c ys r => ?_, fun c u n e => ?_⟩
  · have hc : c ≠ p := by
      rintro rfl
      rcases r with r | ⟨u, r⟩ <;> (rw [h] at r; cases r)
    rcases r with r | ⟨u, r⟩
    · exact .inl (by rw [upd_ne hc]; exact r)
    · exact .inr ⟨u, by rw [upd_ne hc]; exact r⟩
  · have hc : c ≠ p := fun z => n (by rw [z]; exact hp)
    rw [upd_ne hc]
    exact e
theorem Mv.sqT {K : PySem.W.Frag} {a : Addr} {xs : List V} (m : Mv S H H1) (h : SqT K H a xs) : SqT K H1 a xs := h.elim (fun h => .inl (m.tk a xs h)) .inr
end
mutual
def imm : PyData → Bool
  | .none | .bool _ | .int _ | .str _ => true
  | .tuple xs => immAll xs
  | .list _ => false
  | .dict _ => false
def immAll : List PyData → Bool
  | [] => true
  | x :: xs => imm x && immAll xs
end
structure Im (K : PySem.W.Frag) (H : Hp) (v : V) (d : PyData) : Prop where
  dp : Dp K H v d
  im : imm d = true
structure Ims (K : PySem.W.Frag) (H : Hp) (vs : List V) (ds : List PyData) : Prop where
  dp : DpAll K H vs ds
  im : immAll ds = true
section
variable {K : PySem.W.Frag} {S : List Addr} {H H' : Hp}
mutual
theorem dp_mv (m : Mv S H H') : ∀ (d : PyData) (v : V), imm d = true → Dp K H v d → Dp K H' v d
  | .none, _, _, h => by cases h; exact .non
  | .bool b, _, _, h => by cases h; exact .bl b
  | .int i, _, _, h => by cases h; exact .int i
  | .str x, _, _, h => by cases h; exact .str x
  | .tuple ds, _, i, h => by
    cases h with
    | tup hs ha => exact .tup (m.sqT hs) (dps_mv m ds _ (by simpa [imm] using i) ha)
  | .list ds, _, i, _ => by simp [imm] at i
  | .dict _, _, _, h => by cases h
theorem dps_mv (m : Mv S H H') : ∀ (ds : List PyData) (vs : List V), immAll ds = true → DpAll K H vs ds → DpAll K H' vs ds
  | [], _, _, h => by cases h; exact .nil
  | d :: ds, _, i, h => by
    cases h with
    | cons h1 h2 =>
      have i' : imm d = true ∧ immAll ds = true := by simpa [immAll] using i
      exact .cons (dp_mv m d _ i'.1 h1) (dps_mv m ds _ i'.2 h2)
end
theorem Im.mv {v : V} {d : PyData} (h : Im K H v d) (m : Mv S H H') : Im K H' v d := ⟨dp_mv m d v h.im h.dp, h.im⟩
theorem Ims.mv {vs : List V} {ds : List PyData} (h : Ims K H vs ds) (m : Mv S H H') : Ims K H' vs ds := ⟨dps_mv m ds vs h.im h.dp, h.im⟩
theorem Ims.nil : Ims K H [] [] := ⟨.nil, rfl⟩
theorem Ims.cons {v : V} {vs : List V} {d : PyData} {ds : List PyData} (h : Im K H v d) (k : Ims K H vs ds) : Ims K H (v :: vs) (d :: ds) := ⟨.cons h.dp k.dp, by simp [immAll, h.im, k.im]⟩
theorem Ims.inv {v : V} {vs : List V} {ds : List PyData} (h : Ims K H (v :: vs) ds) : ∃ d ds', ds = d :: ds' ∧ Im K H v d ∧ Ims K H vs ds' := by
  obtain ⟨h, i⟩ := h
  cases h with
  | cons h1 h2 =>
    simp only [immAll, Bool.and_eq_true] at i
    exact ⟨_, _, rfl, ⟨h1, i.1⟩, h2, i.2⟩
theorem Ims.invD {vs : List V} {d : PyData} {ds : List PyData} (h : Ims K H vs (d :: ds)) : ∃ v vs', vs = v :: vs' ∧ Im K H v d ∧ Ims K H vs' ds := by
  obtain ⟨h, i⟩ := h
  cases h with
  | cons h1 h2 =>
    simp only [immAll, Bool.and_eq_true] at i
    exact ⟨_, _, rfl, ⟨h1, i.1⟩, h2, i.2⟩
theorem Ims.nilD {vs : List V} (h : Ims K H vs []) : vs = [] := by
  obtain ⟨h, i⟩ := h
  cases h
  rfl
theorem Ims.length : ∀ {ds : List PyData} {vs : List V}, Ims K H vs ds → vs.length = ds.length
  | [], _, h => by rw [h.nilD]; rfl
  | d :: ds, _, h => by
    obtain ⟨v, vs', rfl, _, k⟩ := h.invD
    simp [k.length]
theorem Ims.append : ∀ {ds es : List PyData} {vs us : List V}, Ims K H vs ds → Ims K H us es → Ims K H (vs ++ us) (ds ++ es)
  | [], _, _, _, h, k => by rw [h.nilD]; exact k
  | d :: ds, _, _, _, h, k => by
    obtain ⟨v, vs', rfl, h1, h2⟩ := h.invD
    exact .cons h1 (h2.append k)
theorem Ims.get : ∀ {ds : List PyData} {vs : List V} {i : Nat} {v : V}, Ims K H vs ds → vs[i]? = some v → ∃ d, ds[i]? = some d ∧ Im K H v d
  | [], _, _, _, h, e => by rw [h.nilD] at e; simp at e
  | d :: ds, _, 0, _, h, e => by
    obtain ⟨v, vs', rfl, h1, h2⟩ := h.invD
    simp at e
    subst e
    exact ⟨d, rfl, h1⟩
  | d :: ds, _, i + 1, _, h, e => by
    obtain ⟨v, vs', rfl, h1, h2⟩ := h.invD
    exact h2.get (i := i) (by simpa using e)
theorem Ims.getD : ∀ {ds : List PyData} {vs : List V} {i : Nat} {d : PyData}, Ims K H vs ds → ds[i]? = some d → ∃ v, vs[i]? = some v ∧ Im K H v d
  | [], _, _, _, h, e => by simp at e
  | d :: ds, _, 0, _, h, e => by
    obtain ⟨v, vs', rfl, h1, h2⟩ := h.invD
    simp at e
    subst e
    exact ⟨v, rfl, h1⟩
  | d :: ds, _, i + 1, _, h, e => by
    obtain ⟨v, vs', rfl, h1, h2⟩ := h.invD
    exact h2.getD (i := i) (by simpa using e)
theorem Im.tupI {v : V} {ds : List PyData} (h : Im K H v (.tuple ds)) : ∃ a xs, v = .ref a ∧ SqT K H a xs ∧ Ims K H xs ds := by
  obtain ⟨h, i⟩ := h
  cases h with
  | tup hs ha => exact ⟨_, _, rfl, hs, ha, by simpa [imm] using i⟩
theorem Im.tup {a : Addr} {xs : List V} {ds : List PyData} (h : SqT K H a xs) (k : Ims K H xs ds) : Im K H (.ref a) (.tuple ds) := ⟨.tup h k.dp, by simpa [imm] using k.im⟩
theorem Im.int (i : Int) : Im K H (.int i) (.int i) := ⟨.int i, rfl⟩
theorem Im.str (x : Str) : Im K H (.str x) (.str x) := ⟨.str x, rfl⟩
theorem Im.bl (b : Bool) : Im K H (.bl b) (.bool b) := ⟨.bl b, rfl⟩
theorem Im.non : Im K H .non .none := ⟨.non, rfl⟩
theorem Im.intI {v : V} {i : Int} (h : Im K H v (.int i)) : v = .int i := by
  obtain ⟨h, _⟩ := h
  cases h
  rfl
theorem Im.strI {v : V} {x : Str} (h : Im K H v (.str x)) : v = .str x := by
  obtain ⟨h, _⟩ := h
  cases h
  rfl
end
def BagC (H : Hp) (b c : Addr) : Prop := ∃ (s m k : Int) (ns : List Int), H b = some (.lst [.int s, .int m, .int k, .ref c]) ∧ H c = some (.lst (ns.map V.int)) ∧ ns.length ≤ 63 ∧
  (∀ n ∈ ns, 0 ≤ n) ∧ 0 ≤ s ∧ 0 ≤ k ∧ 0 ≤ m
def Bag (H : Hp) (b : Addr) : Prop := ∃ c, BagC H b c
theorem BagC.lst {H : Hp} {b c : Addr} (h : BagC H b c) : ∃ xs, H b = some (.lst xs) := by
  obtain ⟨s, m, k, ns, h, _⟩ := h
  exact ⟨_, h⟩
theorem Bag.lst {H : Hp} {b : Addr} (h : Bag H b) : ∃ xs, H b = some (.lst xs) := h.elim fun _ h => h.lst
theorem Bag.ne {H : Hp} {b c : Addr} {xs : List V} {ns : List Int} (h : H b = some (.lst (xs ++ [.ref c]))) (k : H c = some (.lst (ns.map V.int))) : c ≠ b := by
  rintro rfl
  rw [h] at k
  have e : xs ++ [V.ref c] = ns.map V.int := by
    have := Option.some.inj k
    injection this
  have : V.ref c ∈ ns.map V.int := by
    rw [← e]
    simp
  obtain ⟨n, _, q⟩ := List.mem_map.mp this
  cases q
theorem BagC.mv {H H' : Hp} {b c : Addr} (h : BagC H b c) (m : Mv [] H H') : BagC H' b c := by
  obtain ⟨s, m', k, ns, h1, h2, r⟩ := h
  exact ⟨s, m', k, ns, m.same _ _ h1, m.same _ _ h2, r⟩
theorem Bag.mv {H H' : Hp} {b : Addr} (h : Bag H b) (m : Mv [] H H') : Bag H' b := h.elim fun c h => ⟨c, h.mv m⟩
structure Dr (b : Addr) (H H' : Hp) : Prop where
  mv : Mv [b] H H'
  bagC : ∀ c, BagC H b c → BagC H' b c
section
variable {b p : Addr} {H H' H1 H2 : Hp} {o : HO}
theorem Dr.bag (x : Dr b H H') (h : Bag H b) : Bag H' b := h.elim fun c h => ⟨c, x.bagC c h⟩
theorem Dr.refl : Dr b H H := ⟨.refl, fun _ h => h⟩
theorem Dr.trans (x : Dr b H H1) (y : Dr b H1 H2) : Dr b H H2 := ⟨x.mv.trans y.mv, fun c h => y.bagC c (x.bagC c h)⟩
theorem Dr.of (x : Mv [] H H1) : Dr b H H1 := ⟨x.mono (by simp), fun _ h => h.mv x⟩
theorem Dr.new (h : H p = none) : Dr b H (upd H p o) := .of (.new h)
theorem Dr.free (d : Dr b H H') (hB : Bag H b) (h : H' p = none) : H p = none := by
  cases q : H p with
  | none => rfl
  | some u =>
    by_cases e : p = b
    · subst e
      obtain ⟨xs, hx⟩ := (d.bag hB).lst
      rw [hx] at h
      cases h
    · rw [d.mv.keep p u (by simpa using e) q] at h
      cases h
theorem Dr.get (d : Dr b H H') (hp : p ≠ b) (h : H p = some o) : H' p = some o := d.mv.keep p o (by simpa using hp) h
theorem Dr.wr (d : Dr b H H') (hp : H p = none) : Dr b H (upd H' p o) := by
  refine ⟨d.mv.wr hp, fun c hB => ?_⟩
  obtain ⟨s', m', k', ns', h1', h2', r'⟩ := d.bagC c hB
  obtain ⟨s, m, k, ns, h1, h2, r⟩ := hB
  exact ⟨s', m', k', ns', by rw [upd_ne (ne_of_none h1 hp)]; exact h1', by rw [upd_ne (ne_of_none h2 hp)]; exact h2', r'⟩
theorem Dr.mkc {c : Addr} (m : Mv [b] H H') (h : BagC H b c) (h' : BagC H' b c) : Dr b H H' := ⟨m, fun d k => by
  obtain ⟨_, _, _, _, h1, _⟩ := h
  obtain ⟨_, _, _, _, k1, _⟩ := k
  rw [h1] at k1
  have e := Option.some.inj k1
  injection e with e
  injection e with _ e
  injection e with _ e
  injection e with _ e
  injection e with e _
  injection e with e
  rw [← e]
  exact h'⟩
theorem Bag.fneq (h : Bag H b) (hp : H p = none) : p ≠ b := by
  rintro rfl
  obtain ⟨xs, e⟩ := h.lst
  rw [e] at hp
  cases hp
end
section
variable {X : Cx}
def rGetL (K : PySem.W.Frag) : V → V → Hp → VK → Prop := fun o i H Q => ∃ (p : Addr) (xs : List V) (j : Nat) (v : V), o = .ref p ∧ i = .int (j : Nat) ∧ SqL K H p xs ∧ xs[j]? = some v ∧ Q v H
theorem get_G : PGet X (rGetL X.K) := by
  intro pins s σ H o i ov iv Q I ro ri h
  obtain ⟨p, xs, j, v, rfl, rfl, hq, he, q⟩ := h
  cases ro
  obtain ⟨t, rfl⟩ := ri
  obtain ⟨its, r, pl, hz⟩ := I.list hq
  obtain ⟨w, ew, rw'⟩ := r.get he
  have hl := r.length
  have hn := line63
  have hj : j < its.length := (List.getElem?_eq_some_iff.mp ew).1
  exact wpAny_getItem_list pl.isList (by omega) (by omega) (by simpa using ew) ⟨v, H, I, rw', q⟩
end
end Fm
namespace Fm
open PySem PySem.Spec PyProof.Rows L2
def Nm (x : Str) : Prop := 1 ≤ x.length ∧ x.length ≤ 8 ∧ ∀ c ∈ x.cps.toList, 97 ≤ c ∧ c ≤ 122
instance (x : Str) : Decidable (Nm x) := by unfold Nm; infer_instance
inductive Tm where
  | var (i : Int)
  | op (x : Str) (ts : List Tm)
namespace Tm
mutual
def d : Tm → PyData
  | .var i => .int i
  | .op x ts => .tuple (.str x :: ds ts)
def ds : List Tm → List PyData
  | [] => []
  | t :: ts => d t :: ds ts
end
theorem ds_map : ∀ ts : List Tm, ds ts = ts.map d
  | [] => by simp [ds]
  | t :: ts => by simp [ds, ds_map ts]
mutual
def dep : Tm → Nat
  | .var _ => 0
  | .op _ ts => deps ts + 1
def deps : List Tm → Nat
  | [] => 0
  | t :: ts => max (dep t) (deps ts)
end
mutual
def lv : Tm → Nat
  | .var _ => 1
  | .op _ ts => lvs ts
def lvs : List Tm → Nat
  | [] => 0
  | t :: ts => lv t + lvs ts
end
mutual
def leaves : Tm → List Int
  | .var i => [i]
  | .op _ ts => leavesL ts
def leavesL : List Tm → List Int
  | [] => []
  | t :: ts => leaves t ++ leavesL ts
end
mutual
def size : Tm → Nat
  | .var _ => 0
  | .op _ ts => sizes ts + 1
def sizes : List Tm → Nat
  | [] => 0
  | t :: ts => size t + sizes ts
end
mutual
def put (f : Int → Tm) : Tm → Tm
  | .var i => f i
  | .op x ts => .op x (puts f ts)
def puts (f : Int → Tm) : List Tm → List Tm
  | [] => []
  | t :: ts => put f t :: puts f ts
end
mutual
def ok (P : Int → Prop) : Tm → Prop
  | .var i => P i
  | .op x ts => Nm x ∧ ts.length ≤ 3 ∧ oks P ts
def oks (P : Int → Prop) : List Tm → Prop
  | [] => True
  | t :: ts => ok P t ∧ oks P ts
end
theorem puts_map (f : Int → Tm) : ∀ ts : List Tm, puts f ts = ts.map (put f)
  | [] => by simp [puts]
  | t :: ts => by simp [puts, puts_map f ts]
theorem oks_iff {P : Int → Prop} : ∀ {ts : List Tm}, oks P ts ↔ ∀ t ∈ ts, ok P t
  | [] => by simp [oks]
  | t :: ts => by simp [oks, oks_iff]
theorem deps_le {n : Nat} : ∀ {ts : List Tm}, deps ts ≤ n ↔ ∀ t ∈ ts, dep t ≤ n
  | [] => by simp [deps]
  | t :: ts => by
    have := deps_le (n := n) (ts := ts)
    simp only [deps, List.mem_cons, forall_eq_or_imp, ← this]
    omega
theorem leavesL_append : ∀ ts us : List Tm, leavesL (ts ++ us) = leavesL ts ++ leavesL us
  | [], _ => by simp [leavesL]
  | t :: ts, us => by simp [leavesL, leavesL_append ts us]
theorem sizes_append : ∀ ts us : List Tm, sizes (ts ++ us) = sizes ts + sizes us
  | [], _ => by simp [sizes]
  | t :: ts, us => by
    simp only [List.cons_append, sizes, sizes_append ts us]
    omega
theorem lvs_append : ∀ ts us : List Tm, lvs (ts ++ us) = lvs ts + lvs us
  | [], _ => by simp [lvs]
  | t :: ts, us => by
    simp only [List.cons_append, lvs, lvs_append ts us]
    omega
mutual
theorem leaves_len : ∀ t : Tm, (leaves t).length = lv t
  | .var _ => by simp [leaves, lv]
  | .op _ ts => by simp [leaves, lv, leavesL_len ts]
theorem leavesL_len : ∀ ts : List Tm, (leavesL ts).length = lvs ts
  | [] => by simp [leavesL, lvs]
  | t :: ts => by simp [leavesL, lvs, leaves_len t, leavesL_len ts]
end
mutual
theorem ok_leaves {P : Int → Prop} : ∀ t : Tm, ok P t → ∀ i ∈ leaves t, P i
  | .var j, h, i, hi => by
    simp only [leaves, List.mem_singleton] at hi
    rw [hi]
    exact h
  | .op _ ts, h, i, hi => oks_leaves ts h.2.2 i (by simpa [leaves] using hi)
theorem oks_leaves {P : Int → Prop} : ∀ ts : List Tm, oks P ts → ∀ i ∈ leavesL ts, P i
  | [], _, i, hi => by simp [leavesL] at hi
  | t :: ts, h, i, hi => by
    rcases List.mem_append.mp (show i ∈ leaves t ++ leavesL ts by simpa [leavesL] using hi) with hi | hi
    · exact ok_leaves t h.1 i hi
    · exact oks_leaves ts h.2 i hi
end
mutual
theorem ok_mono {P R : Int → Prop} (h : ∀ i, P i → R i) : ∀ t : Tm, ok P t → ok R t
  | .var i, k => h i k
  | .op _ ts, k => ⟨k.1, k.2.1, oks_mono h ts k.2.2⟩
theorem oks_mono {P R : Int → Prop} (h : ∀ i, P i → R i) : ∀ ts : List Tm, oks P ts → oks R ts
  | [], _ => trivial
  | t :: ts, k => ⟨ok_mono h t k.1, oks_mono h ts k.2⟩
end
mutual
theorem ok_put {P R : Int → Prop} {f : Int → Tm} (h : ∀ i, P i → ok R (f i)) : ∀ t : Tm, ok P t → ok R (put f t)
  | .var i, k => h i k
  | .op _ ts, k => by
    refine ⟨k.1, ?_, oks_puts h ts k.2.2⟩
    rw [puts_map, List.length_map]
    exact k.2.1
theorem oks_puts {P R : Int → Prop} {f : Int → Tm} (h : ∀ i, P i → ok R (f i)) : ∀ ts : List Tm, oks P ts → oks R (puts f ts)
  | [], _ => trivial
  | t :: ts, k => ⟨ok_put h t k.1, oks_puts h ts k.2⟩
end
mutual
theorem dep_put {P : Int → Prop} {f : Int → Tm} {n : Nat} (h : ∀ i, P i → dep (f i) ≤ n) : ∀ t : Tm, ok P t → dep (put f t) ≤ dep t + n
  | .var i, k => by simpa [put, dep] using h i k
  | .op _ ts, k => by
    have := deps_puts h ts k.2.2
    simp only [put, dep]
    omega
theorem deps_puts {P : Int → Prop} {f : Int → Tm} {n : Nat} (h : ∀ i, P i → dep (f i) ≤ n) : ∀ ts : List Tm, oks P ts → deps (puts f ts) ≤ deps ts + n
  | [], _ => by simp [puts, deps]
  | t :: ts, k => by
    have h1 := dep_put h t k.1
    have h2 := deps_puts h ts k.2
    simp only [puts, deps]
    omega
end
mutual
def cst : Tm → Nat
  | .var _ => 0
  | .op _ ts => csts ts + 90
def csts : List Tm → Nat
  | [] => 0
  | t :: ts => cst t + 2 + csts ts
end
mutual
theorem cst_put {P : Int → Prop} {f : Int → Tm} {c : Nat} (h : ∀ i, P i → cst (f i) ≤ c) : ∀ t : Tm, ok P t → cst (put f t) ≤ cst t + lv t * c
  | .var i, k => by simpa [put, cst, lv] using h i k
  | .op _ ts, k => by
    have := csts_puts h ts k.2.2
    simp only [put, cst, lv]
    omega
theorem csts_puts {P : Int → Prop} {f : Int → Tm} {c : Nat} (h : ∀ i, P i → cst (f i) ≤ c) : ∀ ts : List Tm, oks P ts → csts (puts f ts) ≤ csts ts + lvs ts * c
  | [], _ => by simp [puts, csts]
  | t :: ts, k => by
    have h1 := cst_put h t k.1
    have h2 := csts_puts h ts k.2
    simp only [puts, csts, lvs, Nat.add_mul]
    omega
end
mutual
theorem lv_put {P : Int → Prop} {f : Int → Tm} {c : Nat} (h : ∀ i, P i → lv (f i) ≤ c) : ∀ t : Tm, ok P t → lv (put f t) ≤ lv t * c
  | .var i, k => by simpa [put, lv] using h i k
  | .op _ ts, k => by simpa [put, lv] using lvs_puts h ts k.2.2
theorem lvs_puts {P : Int → Prop} {f : Int → Tm} {c : Nat} (h : ∀ i, P i → lv (f i) ≤ c) : ∀ ts : List Tm, oks P ts → lvs (puts f ts) ≤ lvs ts * c
  | [], _ => by simp [puts, lvs]
  | t :: ts, k => by
    have h1 := lv_put h t k.1
    have h2 := lvs_puts h ts k.2
    simp only [puts, lvs, Nat.add_mul]
    omega
end
mutual
theorem put_congr {f g : Int → Tm} : ∀ t : Tm, (∀ i ∈ leaves t, f i = g i) → put f t = put g t
  | .var i, h => h i (by simp [leaves])
  | .op x ts, h => by
    show Tm.op x (puts f ts) = .op x (puts g ts)
    rw [puts_congr ts fun i hi => h i (by simpa [leaves] using hi)]
theorem puts_congr {f g : Int → Tm} : ∀ ts : List Tm, (∀ i ∈ leavesL ts, f i = g i) → puts f ts = puts g ts
  | [], _ => rfl
  | t :: ts, h => by
    show put f t :: puts f ts = put g t :: puts g ts
    rw [put_congr t fun i hi => h i (by simp [leavesL, hi]), puts_congr ts fun i hi => h i (by simp [leavesL, hi])]
end
theorem small {P : Int → Prop} : ∀ (n : Nat) (t : Tm), ok P t → dep t ≤ n → lv t ≤ 3 ^ n ∧ cst t + 48 ≤ 48 * 3 ^ n
  | 0, .var i, _, _ => by simp [lv, cst]
  | 0, .op x ts, _, h => by simp [dep] at h
  | n + 1, .var i, _, _ => by
    have := Nat.one_le_pow (n + 1) 3 (by decide)
    simp only [lv, cst]
    omega
  | n + 1, .op x ts, k, h => by
    have hd : ∀ t ∈ ts, dep t ≤ n := deps_le.mp (by simp only [dep] at h; omega)
    have ho := oks_iff.mp k.2.2
    have hl := k.2.1
    have ih : ∀ t ∈ ts, lv t ≤ 3 ^ n ∧ cst t + 48 ≤ 48 * 3 ^ n := fun t ht => small n t (ho t ht) (hd t ht)
    have h1 := Nat.one_le_pow n 3 (by decide)
    rw [Nat.pow_succ]
    simp only [lv, cst]
    match ts, hl, ih with
    | [], _, _ => simp only [lvs, csts]; omega
    | [a], _, ih =>
      have := ih a (by simp)
      simp only [lvs, csts]; omega
    | [a, b], _, ih =>
      have := ih a (by simp)
      have := ih b (by simp)
      simp only [lvs, csts]; omega
    | [a, b, c], _, ih =>
      have := ih a (by simp)
      have := ih b (by simp)
      have := ih c (by simp)
      simp only [lvs, csts]; omega
end Tm
mutual
theorem imm_d : ∀ t : Tm, imm t.d = true
  | .var _ => by simp [Tm.d, imm]
  | .op _ ts => by simp [Tm.d, imm, immAll, imm_ds ts]
theorem imm_ds : ∀ ts : List Tm, immAll (Tm.ds ts) = true
  | [] => by simp [Tm.ds, immAll]
  | t :: ts => by simp [Tm.ds, immAll, imm_d t, imm_ds ts]
end
end Fm
namespace Fm
open PySem PySem.Spec PyProof.Rows L2
structure TV (t : TE) (σ : L2.St) (H : Hp) (v : V) : Prop where
  go : ∀ Q : VK, Q v H → t σ H Q
structure TB (t : TT) (σ : L2.St) (H : Hp) (b : Bool) : Prop where
  go : ∀ Q : Bool → Hp → Prop, Q b H → t σ H Q
theorem vint_eq {i j : Int} : decide (V.int i = V.int j) = decide (i = j) := by
  by_cases e : i = j
  · rw [e, decide_eq_true rfl, decide_eq_true rfl]
  · rw [decide_eq_false e, decide_eq_false fun z => e (V.int.inj z)]
section
variable {K : PySem.W.Frag} {σ : L2.St} {H : Hp} {ta tb : TE} {t u : TT} {a b : Bool} {i j : Int} {x y v : V} {Q : VK}
def isInt : PyData → Bool
  | .int _ => true
  | .bool _ => true
  | _ => false
theorem tyx_dp {d : PyData} (h : Dp K H v d) (hd : imm d = true) : ∃ t : String, TyX K H v (.type t) ∧ (t = "int" ∧ (∃ i, d = .int i) ∨ t = "bool" ∧ (∃ b, d = .bool b) ∨ t = "str" ∧ (∃ x, d = .str x) ∨ t = "NoneType" ∧ d = .none ∨ t = "tuple" ∧ (∃ ds, d = .tuple ds)) := by
  cases h with
  | non => exact ⟨_, .base .non, .inr (.inr (.inr (.inl ⟨rfl, rfl⟩)))⟩
  | bl b => exact ⟨_, .base (.bl b), .inr (.inl ⟨rfl, b, rfl⟩)⟩
  | int i => exact ⟨_, .base (.int i), .inl ⟨rfl, i, rfl⟩⟩
  | str x => exact ⟨_, .base (.str x), .inr (.inr (.inl ⟨rfl, x, rfl⟩))⟩
  | lst h1 h2 => simp [imm] at hd
  | tup h1 h2 =>
    refine ⟨"tuple", ?_, .inr (.inr (.inr (.inr ⟨rfl, _, rfl⟩)))⟩
    rcases h1 with (h1 | ⟨o, h1⟩) | ⟨o, its, n, hk, hc, _⟩
    · exact .base (.tup h1)
    · exact .fTuple h1
    · exact .kTuple hk hc
theorem kit_i1 : kitB "int" "int" = some true := by decide +kernel
theorem kit_i2 : kitB "bool" "int" = some true := by decide +kernel
theorem kit_i3 : kitB "str" "int" = some false := by decide +kernel
theorem kit_i4 : kitB "NoneType" "int" = some false := by decide +kernel
theorem kit_i5 : kitB "tuple" "int" = some false := by decide +kernel
theorem rd_isInt {d : PyData} (h : Im K H v d) (q : Q (.bl (isInt d)) H) : rIsi K [v, .ty "int"] H Q := by
  obtain ⟨t, ht, k⟩ := tyx_dp h.dp h.im
  refine ⟨v, .ty "int", _, _, isInt d, rfl, .ty "int", ht, ?_, q⟩
  rcases k with ⟨rfl, i, rfl⟩ | ⟨rfl, i, rfl⟩ | ⟨rfl, i, rfl⟩ | ⟨rfl, rfl⟩ | ⟨rfl, i, rfl⟩
  · exact kit_ty kit_i1
  · exact kit_ty kit_i2
  · exact kit_ty kit_i3
  · exact kit_ty kit_i4
  · exact kit_ty kit_i5
theorem rd_cat {a b : Addr} {xs ys : List V} (ha : SqT K H a xs) (hb : SqT K H b ys) (hs : xs.length + ys.length ≤ sizeLine)
    (h : ∀ p H', Mv [] H H' → SqT K H' p (xs ++ ys) → Q (.ref p) H') : rAddG K (.ref a) (.ref b) H Q := by
  refine Or.inr (Or.inr (Or.inl ⟨a, b, xs, ys, rfl, rfl, ha, hb, hs, fun e => ?_, fun _ e => ?_, fun _ _ p np => ?_⟩))
  · subst e
    exact h b H .refl hb
  · subst e
    exact h a H .refl (by rw [List.append_nil]; exact ha)
  · exact h p _ (.new np) (.inl (.inl upd_same))
theorem rd_catL {a b : Addr} {xs ys : List V} (ha : H a = some (.lst xs)) (hb : H b = some (.lst ys)) (hs : xs.length + ys.length ≤ sizeLine)
    (h : ∀ p H', H p = none → Mv [] H H' → H' p = some (.lst (xs ++ ys)) → Q (.ref p) H') : rAddG K (.ref a) (.ref b) H Q :=
  Or.inr (Or.inr (Or.inr ⟨a, b, xs, ys, rfl, rfl, ha, hb, hs, fun p np => h p _ np (.new np) upd_same⟩))
theorem rd_ixL {a : Addr} {xs : List V} {i : Int} {v : V} (ha : SqL K H a xs) (h0 : 0 ≤ i) (hv : xs[i.toNat]? = some v) (h : Q v H) : rIx K (.ref a) (.int i) H Q := by
  obtain ⟨j, rfl⟩ := Int.eq_ofNat_of_zero_le h0
  exact Or.inl ⟨a, xs, j, v, rfl, rfl, ha, atI_nat hv, h⟩
theorem rd_ixT {a : Addr} {xs : List V} {i : Int} {v : V} (ha : SqT K H a xs) (h0 : 0 ≤ i) (hv : xs[i.toNat]? = some v) (h : Q v H) : rIx K (.ref a) (.int i) H Q := by
  obtain ⟨j, rfl⟩ := Int.eq_ofNat_of_zero_le h0
  exact Or.inr (Or.inl ⟨a, xs, j, v, rfl, rfl, ha, atI_nat hv, h⟩)
theorem rd_len {a : Addr} {xs : List V} (ha : SqL K H a xs ∨ SqT K H a xs) (h : Q (.int xs.length) H) : rLenG K [.ref a] H Q := Or.inl ⟨a, xs, rfl, ha, h⟩
theorem rd_tupOf {a : Addr} {xs : List V} (ha : SqL K H a xs) (h : ∀ p H', Mv [] H H' → SqT K H' p xs → Q (.ref p) H') : rTupOf K [.ref a] H Q :=
  ⟨a, xs, rfl, .inl ⟨ha, fun p np => h p _ (.new np) (.inl (.inl upd_same))⟩⟩
theorem rd_listOf {a : Addr} {xs : List V} (ha : SqL K H a xs ∨ SqT K H a xs) (h : ∀ p H', H p = none → Mv [] H H' → H' p = some (.lst xs) → Q (.ref p) H') : rListOf K [.ref a] H Q :=
  ⟨a, xs, rfl, ha, fun p np => h p _ np (.new np) upd_same⟩
theorem rd_sl1 {a : Addr} {x : V} {xs : List V} (ha : SqT K H a (x :: xs)) (h : ∀ p H', Mv [] H H' → SqT K H' p xs → Q (.ref p) H') : rSlG K (.ref a) (some 1) none H Q := by
  have e : HT.sIx (x :: xs).length 0 (some 1) = 1 := by
    rw [show HT.sIx (x :: xs).length 0 (some 1) = min 1 (x :: xs).length from HT.sIx_nat _ 0 1, List.length_cons]
    omega
  refine Or.inr (Or.inl ⟨a, x :: xs, rfl, ha, fun z => ?_, fun _ p np => h p _ (.new np) (.inl (.inl ?_))⟩)
  · rw [e] at z
    omega
  · rw [upd_same]
    unfold cutV
    rw [e, HT.sIx_none, List.length_cons, Nat.add_sub_cancel]
    show some (HO.tup (xs.take xs.length)) = _
    rw [List.take_length]
theorem rd_slA {a : Addr} {x : V} {xs : List V} (ha : SqT K H a (x :: xs)) (h : ∀ p H', Mv [] H H' → SqT K H' p [x] → Q (.ref p) H') : rSlG K (.ref a) none (some 1) H Q := by
  have e : HT.sIx (x :: xs).length (x :: xs).length (some 1) = 1 := by
    rw [show HT.sIx (x :: xs).length (x :: xs).length (some 1) = min 1 (x :: xs).length from HT.sIx_nat _ _ 1, List.length_cons]
    omega
  refine Or.inr (Or.inl ⟨a, x :: xs, rfl, ha, fun z => ?_, fun _ p np => h p _ (.new np) (.inl (.inl ?_))⟩)
  · rw [e] at z
    have e0 : xs = [] := by
      cases xs with
      | nil => rfl
      | cons y ys =>
        have := z.2
        simp at this
    subst e0
    exact h a H .refl ha
  · rw [upd_same]
    unfold cutV
    rw [e, HT.sIx_none]
    rfl
end
section
variable {K : PySem.W.Frag} {a : Addr} {xs : List V}
theorem for_seq {g : TG} {tb : TS} {D : Ends} {σ : L2.St} {H : Hp} (hS : SqL K H a xs ∨ SqT K H a xs) (Pv : Nat → L2.St → Hp → Prop) (h0 : Pv 0 σ H) (hk : ∀ i σ' H', Pv i σ' H' → Mv [] H H')
    (hs : ∀ i x σ' H', xs[i]? = some x → Pv i σ' H' → g x σ' H' fun σ2 H2 => tb { D with nx := Pv (i + 1), ct := Pv (i + 1), bk := D.nx } σ2 H2) (hd : ∀ σ' H', Pv xs.length σ' H' → D.nx σ' H') :
    ((∃ xs, SqL K H a xs) ∧ ∃ W : Nat → Nat → L2.St → Hp → Prop, (∃ m, W 0 m σ H) ∧ ∀ i m σ H, W i m σ H →
      ((Itl K a).stop i H ∧ D.nx σ H) ∨ ((Itl K a).go i H ∧ ∃ N : L2.St → Hp → Prop, (∀ σ' H', N σ' H' → ∃ m', m' < m ∧ W (i + 1) m' σ' H') ∧ ∀ x H', (Itl K a).yld i H x H' → g x σ H' fun σ2 H2 => tb { D with nx := N, ct := N, bk := D.nx } σ2 H2)) ∨
    ((∃ xs, SqT K H a xs) ∧ ∃ W : Nat → Nat → L2.St → Hp → Prop, (∃ m, W 0 m σ H) ∧ ∀ i m σ H, W i m σ H →
      ((Itt K a).stop i H ∧ D.nx σ H) ∨ ((Itt K a).go i H ∧ ∃ N : L2.St → Hp → Prop, (∀ σ' H', N σ' H' → ∃ m', m' < m ∧ W (i + 1) m' σ' H') ∧ ∀ x H', (Itt K a).yld i H x H' → g x σ H' fun σ2 H2 => tb { D with nx := N, ct := N, bk := D.nx } σ2 H2)) := by
  rcases hS with hS | hS
  · exact .inl ⟨⟨xs, hS⟩, for_list Pv h0 (fun i σ' H' _ p => (hk i σ' H' p).same.seq hS) hs hd⟩
  · exact .inr ⟨⟨xs, hS⟩, for_tup Pv h0 (fun i σ' H' _ p => (hk i σ' H' p).sqT hS) hs hd⟩
theorem lc_seq {g : TG} {tt : TT} {te : TE} {vs : List Nat} {σ : L2.St} {H : Hp} {Qd : Addr → Hp → Prop} (hS : SqL K H a xs ∨ SqT K H a xs) (Pv : Nat → Addr → Hp → Prop) (h0 : ∀ D, H D = none → Pv 0 D (upd H D (.lst [])))
    (hk : ∀ i D H', H D = none → Pv i D H' → Mv [] H H')
    (hs : ∀ D, H D = none → ∀ i x H', xs[i]? = some x → Pv i D H' → g x (wipe σ vs) H' fun σ2 H2 => wipe σ2 vs = wipe σ vs ∧ tt σ2 H2 fun b H3 =>
      if b = true then te σ2 H3 fun y H4 => ∃ acc, H4 D = some (.lst acc) ∧ acc.length < sizeLine ∧ Pv (i + 1) D (upd H4 D (.lst (acc ++ [y]))) else Pv (i + 1) D H3) (hd : ∀ D H', H D = none → Pv xs.length D H' → Qd D H') :
    ((∃ xs, SqL K H a xs) ∧ ∀ D, H D = none → ∃ W : Nat → Nat → Hp → Prop, (∃ m, W 0 m (upd H D (.lst []))) ∧ ∀ i m H, W i m H →
      ((Itl K a).stop i H ∧ Qd D H) ∨ ((Itl K a).go i H ∧ ∃ Nx : Hp → Prop, (∀ H', Nx H' → ∃ m', m' < m ∧ W (i + 1) m' H') ∧ ∀ x H', (Itl K a).yld i H x H' → g x (wipe σ vs) H' fun σ2 H2 => wipe σ2 vs = wipe σ vs ∧ tt σ2 H2 fun b H3 =>
        if b = true then te σ2 H3 fun y H4 => ∃ acc, H4 D = some (.lst acc) ∧ acc.length < sizeLine ∧ Nx (upd H4 D (.lst (acc ++ [y]))) else Nx H3)) ∨
    ((∃ xs, SqT K H a xs) ∧ ∀ D, H D = none → ∃ W : Nat → Nat → Hp → Prop, (∃ m, W 0 m (upd H D (.lst []))) ∧ ∀ i m H, W i m H →
      ((Itt K a).stop i H ∧ Qd D H) ∨ ((Itt K a).go i H ∧ ∃ Nx : Hp → Prop, (∀ H', Nx H' → ∃ m', m' < m ∧ W (i + 1) m' H') ∧ ∀ x H', (Itt K a).yld i H x H' → g x (wipe σ vs) H' fun σ2 H2 => wipe σ2 vs = wipe σ vs ∧ tt σ2 H2 fun b H3 =>
        if b = true then te σ2 H3 fun y H4 => ∃ acc, H4 D = some (.lst acc) ∧ acc.length < sizeLine ∧ Nx (upd H4 D (.lst (acc ++ [y]))) else Nx H3)) := by
  rcases hS with hS | hS
  · exact .inl ⟨⟨xs, hS⟩, fun D nD => lc_list (Pv · D) (h0 D nD) (fun i H' _ p => (hk i D H' nD p).same.seq hS) (hs D nD) (fun H' p => hd D H' nD p)⟩
  · exact .inr ⟨⟨xs, hS⟩, fun D nD => lc_tup (Pv · D) (h0 D nD) (fun i H' _ p => (hk i D H' nD p).sqT hS) (hs D nD) (fun H' p => hd D H' nD p)⟩
end
section
variable {K : PySem.W.Frag} {H : Hp} {Q : VK}
theorem rd_slT {a : Addr} {xs : List V} {lo hi : Option Int} (ha : SqT K H a xs) (h : ∀ p H', Mv [] H H' → SqT K H' p (cutV xs lo hi) → Q (.ref p) H') : rSlG K (.ref a) lo hi H Q := by
  refine Or.inr (Or.inl ⟨a, xs, rfl, ha, fun z => h a H .refl ?_, fun _ p np => h p _ (.new np) (.inl (.inl upd_same))⟩)
  have e : cutV xs lo hi = xs := by
    unfold cutV
    rw [z.1, z.2, List.drop_zero, Nat.sub_zero, List.take_length]
  rw [e]
  exact ha
theorem cut_hi (xs : List V) (k : Nat) : cutV xs none (some (k : Int)) = xs.take k := by
  unfold cutV
  rw [HT.sIx_none, HT.sIx_nat, List.drop_zero, Nat.sub_zero, List.take_eq_take_iff]
  omega
end
end Fm
namespace Fm
open PySem PySem.Spec PyProof.Rows L2 HT
section
variable {prog : Program} {w : World} {A : Around} {E : Value → Shared → Prop} {s : Shared}
end
section
variable {X : Cx}
def tBack (K : PySem.W.Frag) (te : TE) : TE := fun σ H Q => te σ H fun x H1 => ∃ a y ys, x = .ref a ∧ SqT K H1 a (y :: ys) ∧ ∀ p, H1 p = none → Q (.ref p) (upd H1 p (.tup ys.reverse))
end
end Fm
namespace Fm
open PySem PySem.Spec PyProof.Rows L2
section
variable {P : Program} {w : World} {A : Around} {E : Value → Shared → Prop} {s : Shared}
abbrev eset (w : World) : Obj := { cls := .type "set", dict := none, data := .set #[] 0 (.fresh 0 0 (!w.params.followText "set-order")) }
abbrev hset (w : World) (h : Heap) : Heap := h.push (eset w)
set_option maxHeartbeats 8000000 in
theorem set_of_list {l : Addr} {its : Array Value} (ns : List Int) {Q : Value → Shared → Prop} (hh : A.handled = none) (hl : s.heap.IsList l its) (hi : IntsAre its.toList ns) (hb : ns.length + 1 < scanBound)
    (h : ∀ (g : Heap) (tk c : Nat), SetR w g s.heap.objs.size (fun j => decide (j ∈ ns)) c → (∀ b o, s.heap.get? b = some o → g.get? b = some o) → Q (.ref s.heap.objs.size) { s with heap := g, toks := tk }) :
    wpAny (model P w) A (call (.type "set") [.ref l]) Q E s := by
  have hn : its.size = ns.length := by rw [← Array.length_toList]; exact IntsAre.length hi
  obtain ⟨mc, mt, mro⟩ := F.called_set.mro
  have mk1 := F.called_set.made
  have mk2 := F.called_set.sub
  refine wpAny_call (codeAny_of_tree (show wpAny _ _ (callAny (.type "set") _) _ _ _ from wpAny_pure ⟨Code.quiet_builtin _ (by decide +kernel), codeAny_builtin F.entry_type_call ?_⟩))
  rw [Around.under_plain (weight_type_call_type "set" [.ref l] []) rfl]
  have mk3 := F.called_set.notType
  have mk4 := F.called_set.canCreate
  have mk5 := F.typeCall_set_1 (.ref l)
  repeat (any_goals (first | assumption | wp_step))
  refine codeAny_mono (code_set_led1 (w := w) (s := s) (.ref l) (E := E)
    (Q₁ := fun obj s₁ => obj = .ref s.heap.objs.size ∧ s₁ = { s with heap := hset w s.heap }) ⟨rfl, rfl⟩) fun r s₁ hr => ?_
  match r, hr with
  | .error e, hr => exact hr
  | .ok (.ret obj), hr =>
    obtain ⟨rfl, rfl⟩ := hr
    have here : (hset w s.heap).get? s.heap.objs.size = some (eset w) := Heap.get?_push_size _ rfl
    have isS : Shared.TypeIs { s with heap := hset w s.heap } (.ref s.heap.objs.size) "set" := ⟨_, here, rfl⟩
    have in1 := F.called_set.init.lookup
    have in2 := F.called_set.init.bind (.ref s.heap.objs.size)
    repeat (any_goals (first | assumption | wp_step))
    have goes : codeAny (model P w) A.in1 (.call (.builtin "set.__init__") ⟨[.ref s.heap.objs.size, .ref l], []⟩) (wants (fun r s₂ => r = .none ∧ ∃ g tk c,
        s₂ = { s with heap := g, toks := tk } ∧ SetR w g s.heap.objs.size (fun j => decide (j ∈ ns)) c ∧ ∀ b o, s.heap.get? b = some o → g.get? b = some o) E) { s with heap := hset w s.heap } := by
      refine codeAny_call_builtin F.called_set.init.plain F.entry_set_init (check_set_init_1 isS ?_)
      obtain ⟨⟨oc, od, dt, sl⟩, hol, hcl, nl, hdl⟩ := id hl
      simp only at hcl hdl
      subst hcl hdl
      have lt := Heap.lt_size hol
      have hol2 : (hset w s.heap).get? l = some _ := Heap.get?_push_of_some _ hol
      have hl2 : (hset w s.heap).IsList l its := ⟨_, hol2, rfl, nl, rfl⟩
      have no1 := F.sub_list_set
      have no2 := F.sub_list_frozenset
      have no3 : (Value.type "list" == Value.type "dict") = false := by decide
      unfold Builtin.«set.__init__» noKeywords Builtin.Frozenset.updateFrom
      generalize hPI : pyIter = PI
      wp_walk
      subst hPI
      refine wpAny_pyIter_list hl2 (wpAny_bind (wpAny_runValue ?_))
      have sz2 : (hset w s.heap).objs.size = s.heap.objs.size + 1 := Heap.size_push ..
      have neI : l ≠ (hset w s.heap).objs.size := by
        rw [sz2]
        exact Nat.ne_of_lt (Nat.lt_succ_of_lt lt)
      have notIn : s.heap.objs.size ∉ [(hset w s.heap).objs.size, l] := by
        rw [sz2]
        intro z
        rcases List.mem_cons.mp z with z | z
        · exact Nat.ne_of_lt (Nat.lt_succ_self _) z
        · exact Nat.ne_of_gt lt (List.mem_singleton.mp z)
      have val : ∀ (i : Nat) (v : Value), its[i]? = some v → ∃ k t, ns[i]? = some k ∧ v = .int k t := fun i v hv => by
        have hi' : i < ns.length := by
          rw [← hn]
          exact (Array.getElem?_eq_some_iff.mp hv).1
        obtain ⟨t, e⟩ := PyProof.Rows.IntsAre.int_at hi i v (by rw [Array.getElem?_toList]; exact hv)
        have e2 : ns.getD i 0 = ns[i] := by rw [List.getD_eq_getElem?_getD, List.getElem?_eq_getElem hi']; rfl
        exact ⟨ns[i], t, List.getElem?_eq_getElem hi', by rw [e, e2]⟩
      have hh3 : A.in1.in1.in1.handled = none := by simp [hh]
      refine set_update_ints ((Walks.list hh3 _ l neI its).toS) s.heap.objs.size notIn ns hn hb val (its.size - 0) 0 _ (by omega) (Nat.zero_le _) ?st ?s0 ?fin
      case st => exact ⟨⟨_, Heap.get?_push_size _ rfl, rfl, rfl⟩, hl2.push _⟩
      case s0 => exact ⟨0, Nat.le_refl 0, setR_new_at (Heap.get?_push_of_some _ here)⟩
      case fin =>
        rintro ⟨g, gg, dd, tk, oo⟩ c' mv hc' hS'
        have e1 : gg = s.gens := mv.gens
        have e2 : dd = s.drawn := mv.drawn
        have e3 : oo = s.os := mv.os
        subst e1 e2 e3
        refine wpAny_pure (show wpAny _ _ (ret Value.none) _ _ _ from wpAny_pure ⟨rfl, g, tk, c', rfl, hS', fun b o e => ?_⟩)
        have b0 := Heap.lt_size e
        refine mv.heap b o (fun z => ?_) (Heap.get?_push_of_some _ (Heap.get?_push_of_some _ e))
        rcases List.mem_cons.mp z with z | z
        · exact Nat.ne_of_lt b0 z
        · have z2 := List.mem_singleton.mp z
          rw [sz2] at z2
          exact Nat.ne_of_lt (Nat.lt_succ_of_lt b0) z2
    refine codeAny_mono goes fun r₂ s₂ hr₂ => ?_
    match r₂, hr₂ with
    | .error e, hr₂ => exact hr₂
    | .ok (.ret r), hr₂ =>
      obtain ⟨rfl, g, tk, c', rfl, hS', hk'⟩ := hr₂
      repeat (any_goals (first | assumption | wp_step))
      exact h _ _ _ hS' hk'
end
section
variable {X : Cx}
def rSetOfL (K : PySem.W.Frag) (w : World) : List V → Hp → VK → Prop := fun xs H Q => ∃ (l : Addr) (ns : List Int), xs = [V.ref l] ∧ SqL K H l (ns.map V.int) ∧ ns.length ≤ 4000 ∧
  ∀ p (n : Nat) (ks : List Int), H p = none → ks.Nodup → ks.length = n → (∀ k, k ∈ ks ↔ k ∈ ns) → Q (.ref p) (upd H p (SetO w p (fun j => decide (j ∈ ns)) n))
theorem cr_setG (hc : X.calm = true) : CallR X (.type "set") (rSetOfL X.K X.w) := by
  intro pins s σ H xs us Q I r h
  obtain ⟨l, ns, rfl, hl, hb, q⟩ := h
  rw [Vals.ref1 r]
  obtain ⟨its, rv, pl, hz⟩ := I.list hl
  refine set_of_list ns (I.ok.hd hc) pl.isList (by simpa using intsAre_of rv) (Nat.lt_of_le_of_lt (Nat.succ_le_succ hb) (by decide)) fun g tk c R hk => ?_
  obtain ⟨o, es, ep, t, h1, h2, h3, h4, h5, h6, h7, h8, h9, h10⟩ := id R
  refine ⟨.ref _, upd H s.heap.objs.size (SetO X.w s.heap.objs.size (fun j => decide (j ∈ ns)) c), I.laid (t' := tk) hk (Nat.le_refl _) (setO_new R), rfl, ?_⟩
  refine q _ c (es.toList.map keyOf) (I.hok.fresh (Nat.le_refl _)) h5 (by rw [List.length_map, Array.length_toList]; exact h9) fun k => ?_
  rw [← h6 k]
  simp
end
end Fm
namespace Fm
open PySem PySem.Spec PyProof.Rows L2
mutual
def fine : PyData → Prop
  | .none => True
  | .bool _ => True
  | .int i => i.natAbs < 10 ^ 40
  | .str x => PyData.strOk x = true
  | .list xs => fineAll xs
  | .tuple xs => fineAll xs
  | .dict _ => False
def fineAll : List PyData → Prop
  | [] => True
  | x :: xs => fine x ∧ fineAll xs
end
mutual
def wl : PyData → Nat
  | .none => 4
  | .bool _ => 5
  | .int _ => 41
  | .str x => 10 * x.length + 2
  | .list xs => wls xs + 2
  | .tuple xs => wls xs + 2
  | .dict _ => 0
def wls : List PyData → Nat
  | [] => 0
  | x :: xs => wl x + 2 + wls xs
end
theorem fineAll_iff : ∀ {xs : List PyData}, fineAll xs ↔ ∀ x ∈ xs, fine x
  | [] => by simp [fineAll]
  | x :: xs => by simp [fineAll, fineAll_iff]
theorem listText_le : ∀ ts : List Str, (listText ts).length ≤ piled ts + 2
  | [] => by rw [listText_nil]; decide
  | t :: r => by
    have h := textFrom_length_pos r 1 (("[" : Str) ++ ("" : String) ++ t) (Nat.succ_pos 0)
    have e : ((("[" : Str) ++ ("" : String) ++ t)).length = 1 + t.length := by
      rw [strLen_append, strLen_append]
      rfl
    have x1 : (listText (t :: r)).length = (textFrom 1 (("[" : Str) ++ ("" : String) ++ t) r).length + 1 := by
      show (textFrom 1 (("[" : Str) ++ ("" : String) ++ t) r ++ "]").length = _
      rw [strLen_append]
      rfl
    rw [x1, h, e, piled_cons]
    omega
theorem tupleText_le (ts : List Str) : (tupleText ts).length ≤ piled ts + 2 := by
  have e3 : (((if ts.length == 1 then ",)" else ")" : String) : Str)).length ≤ 2 := by split <;> decide +kernel
  have e1 : ((("(" : String) : Str)).length = 1 := rfl
  unfold tupleText
  rw [strLen_append, strLen_append, e1]
  cases ts with
  | nil => decide +kernel
  | cons t r =>
    have := join_length_add (t :: r) (by simp)
    omega
mutual
theorem shown_le : ∀ d : PyData, fine d → d.shown.length ≤ wl d
  | .none, _ => by simp only [PyData.shown]; decide
  | .bool b, _ => by cases b <;> (simp only [PyData.shown]; decide)
  | .int i, h => by
    simp only [PyData.shown, wl]
    rw [PySem.ofString_length]
    exact int_text_length_le10 (k := 40) (by decide) h
  | .str x, h => by
    simp only [PyData.shown, wl]
    refine StrLaws.reprText_len x fun c hc => ?_
    have h' : x.cps.all (· < 0x110000) = true := h
    rw [Array.all_eq_true_iff_forall_mem] at h'
    have := h' c (by simpa using hc)
    simp at this
    omega
  | .list xs, h => by
    have := shown_les xs h
    have := listText_le (PyData.shownAll xs)
    simp only [PyData.shown, wl]
    omega
  | .tuple xs, h => by
    have := shown_les xs h
    have := tupleText_le (PyData.shownAll xs)
    simp only [PyData.shown, wl]
    omega
  | .dict _, h => h.elim
theorem shown_les : ∀ xs : List PyData, fineAll xs → piled (PyData.shownAll xs) ≤ wls xs
  | [], _ => by simp [PyData.shownAll, piled, wls]
  | x :: xs, h => by
    have h1 := shown_le x h.1
    have h2 := shown_les xs h.2
    simp only [PyData.shownAll, wls]
    rw [piled_cons]
    omega
end
mutual
theorem fine_lay : ∀ d : PyData, fine d → d.canLay0 = true ∧ d.showable = true ∧ d.hasDict = false
  | .none, _ => by simp [PyData.canLay0, PyData.showable, PyData.hasDict]
  | .bool b, _ => by simp [PyData.canLay0, PyData.showable, PyData.hasDict]
  | .int i, h => by
    refine ⟨by simp [PyData.canLay0], ?_, by simp [PyData.hasDict]⟩
    have h' : i.natAbs < 10 ^ 40 := h
    have h2 : i.natAbs < 2 ^ 200 := Nat.lt_trans h' (by decide)
    simp only [PyData.showable, decide_eq_true_eq]
    exact Nat.lt_trans (PySem.Flt.log2_lt_of (by decide) h2) (by decide)
  | .str x, h => ⟨by simp only [PyData.canLay0]; exact h, by simp [PyData.showable], by simp [PyData.hasDict]⟩
  | .list xs, h => by simpa [PyData.canLay0, PyData.showable, PyData.hasDict] using fine_lays xs h
  | .tuple xs, h => by simpa [PyData.canLay0, PyData.showable, PyData.hasDict] using fine_lays xs h
  | .dict _, h => h.elim
theorem fine_lays : ∀ xs : List PyData, fineAll xs → PyData.canLayAll0 xs = true ∧ PyData.showableAll xs = true ∧ PyData.hasDictAll xs = false
  | [], _ => by simp [PyData.canLayAll0, PyData.showableAll, PyData.hasDictAll]
  | x :: xs, h => by
    obtain ⟨a, b, c⟩ := fine_lay x h.1
    obtain ⟨a', b', c'⟩ := fine_lays xs h.2
    simp [PyData.canLayAll0, PyData.showableAll, PyData.hasDictAll, a, b, c, a', b', c']
end
structure Shw (d : PyData) : Prop where
  fi : fine d
  dp : d.depth ≤ 60
  wl : wl d ≤ 16000000
theorem Shw.shaped {d : PyData} (h : Shw d) : SeqAt.shaped d = true := by
  show (d.canLay0 && decide (d.depth ≤ 64)) = true
  have := h.dp
  rw [(fine_lay d h.fi).1, decide_eq_true (by omega)]
  rfl
theorem Shw.len {d : PyData} (h : Shw d) : d.shown.length ≤ sizeLine := by
  have := shown_le d h.fi
  have := h.wl
  have e : sizeLine = 16777216 := rfl
  omega
theorem Shw.eqv {d : PyData} (h : Shw d) : PyData.eqv d d = true := SeqAt.eqv_refl d (fine_lay d h.fi).1
theorem nm_ok {x : Str} (h : Nm x) : PyData.strOk x = true := by
  show x.cps.all (· < 0x110000) = true
  rw [Array.all_eq_true_iff_forall_mem]
  intro c hc
  have := h.2.2 c (by simpa using hc)
  simp
  omega
mutual
theorem fine_d {P : Int → Prop} (h : ∀ i, P i → i.natAbs < 10 ^ 40) : ∀ t : Tm, t.ok P → fine t.d
  | .var i, k => h i k
  | .op x ts, k => by
    simp only [Tm.d, fine, fineAll]
    exact ⟨nm_ok k.1, fine_ds h ts k.2.2⟩
theorem fine_ds {P : Int → Prop} (h : ∀ i, P i → i.natAbs < 10 ^ 40) : ∀ ts : List Tm, Tm.oks P ts → fineAll (Tm.ds ts)
  | [], _ => trivial
  | t :: ts, k => ⟨fine_d h t k.1, fine_ds h ts k.2⟩
end
mutual
theorem depth_d : ∀ t : Tm, t.d.depth = t.dep
  | .var _ => by simp [Tm.d, PyData.depth, Tm.dep]
  | .op _ ts => by simp [Tm.d, PyData.depth, PyData.depthAll, Tm.dep, depth_ds ts]
theorem depth_ds : ∀ ts : List Tm, PyData.depthAll (Tm.ds ts) = Tm.deps ts
  | [] => by simp [Tm.ds, PyData.depthAll, Tm.deps]
  | t :: ts => by simp [Tm.ds, PyData.depthAll, Tm.deps, depth_d t, depth_ds ts]
end
mutual
theorem wl_d {P : Int → Prop} : ∀ t : Tm, t.ok P → wl t.d ≤ t.cst + 41 * t.lv
  | .var _, _ => by simp [Tm.d, wl, Tm.cst, Tm.lv]
  | .op x ts, k => by
    have h1 := wl_ds ts k.2.2
    have h2 := k.1.2.1
    simp only [Tm.d, wl, wls, Tm.cst, Tm.lv]
    omega
theorem wl_ds {P : Int → Prop} : ∀ ts : List Tm, Tm.oks P ts → wls (Tm.ds ts) ≤ Tm.csts ts + 41 * Tm.lvs ts
  | [], _ => by simp [Tm.ds, wls]
  | t :: ts, k => by
    have h1 := wl_d t k.1
    have h2 := wl_ds ts k.2
    simp only [Tm.ds, wls, Tm.csts, Tm.lvs]
    omega
end
end Fm
namespace Fm
open PySem PySem.Spec PyProof.Rows L2
section
variable {X : Cx}
def rNeNil (K : PySem.W.Frag) : R2 := fun x y H Q => ∃ (a b : Addr) (xs : List V), x = .ref a ∧ y = .ref b ∧ SqL K H a xs ∧ SqL K H b [] ∧ Q (.bl (!xs.isEmpty)) H
def rEqNil (K : PySem.W.Frag) : R2 := fun x y H Q => ∃ (a b : Addr) (xs : List V), x = .ref a ∧ y = .ref b ∧ SqL K H a xs ∧ SqL K H b [] ∧ Q (.bl xs.isEmpty) H
theorem op_neNil (hu : X.A.units < cLine) : OpR X (compareOp .NotEq) (rNeNil X.K) := by
  intro pins s σ H x y v u Q I rx ry h
  obtain ⟨a, b, xs, rfl, rfl, ha, hb, q⟩ := h
  obtain rfl : v = Value.ref a := rx
  obtain rfl : u = Value.ref b := ry
  obtain ⟨i1, r1, p1, _⟩ := I.list ha
  obtain ⟨i2, r2, p2, _⟩ := I.list hb
  have l1 := r1.length
  have l2 : i2 = [] := List.eq_nil_of_length_eq_zero (by have := r2.length; simpa using this.symm)
  subst l2
  cases xs with
  | nil =>
    have l3 : i1 = [] := List.eq_nil_of_length_eq_zero (by simpa using l1.symm)
    subst l3
    exact SeqAt.RcNeAt.lists (e := fun _ => true) p1.isList p2.isList rfl hu (fun j j1 _ => absurd j1 (Nat.not_lt_zero j)) X.prog X.w X.xe _ ⟨.bl false, H, I, rfl, q⟩
  | cons z zs =>
    refine SeqAt.RcNeAt.lists_lengths p1.isList p2.isList ?_ hu X.prog X.w X.xe _ ⟨.bl true, H, I, rfl, q⟩
    simp only [List.length_cons] at l1
    simp [bne_iff_ne]
    intro z
    rw [z] at l1
    simp at l1
theorem op_eqNil (hu : X.A.units < cLine) : OpR X (compareOp .Eq) (rEqNil X.K) := by
  intro pins s σ H x y v u Q I rx ry h
  obtain ⟨a, b, xs, rfl, rfl, ha, hb, q⟩ := h
  obtain rfl : v = Value.ref a := rx
  obtain rfl : u = Value.ref b := ry
  obtain ⟨i1, r1, p1, _⟩ := I.list ha
  obtain ⟨i2, r2, p2, _⟩ := I.list hb
  have l1 := r1.length
  have l2 : i2 = [] := List.eq_nil_of_length_eq_zero (by have := r2.length; simpa using this.symm)
  subst l2
  cases xs with
  | nil =>
    have l3 : i1 = [] := List.eq_nil_of_length_eq_zero (by simpa using l1.symm)
    subst l3
    exact SeqAt.RcAt.lists (e := fun _ => true) p1.isList p2.isList rfl hu (fun j j1 _ => absurd j1 (Nat.not_lt_zero j)) X.prog X.w X.xe _ ⟨.bl true, H, I, rfl, q⟩
  | cons z zs =>
    refine SeqAt.RcAt.lists_lengths p1.isList p2.isList ?_ hu X.prog X.w X.xe _ ⟨.bl false, H, I, rfl, q⟩
    simp only [List.length_cons] at l1
    simp [bne_iff_ne]
    intro z
    rw [z] at l1
    simp at l1
def rNotB : R2 := fun x y H Q => ∃ b : Bool, y = .bl b ∧ ((∃ a : Bool, x = .bl a ∧ Q (.bl (!decide (a = b))) H) ∨ (∃ i : Int, x = .int i ∧ Q (.bl true) H))
end
end Fm
namespace Fm
open PySem PySem.Spec PyProof.Rows L2
inductive Th where
  | non
  | bl (b : Bool)
  | int (i : Int)
  | str (x : Str)
  | tup (ts : List Th)
  | lst
  | dct
mutual
def Is (K : PySem.W.Frag) (b : Addr) (H : Hp) (v : V) : Th → Prop
  | .non => v = .non
  | .bl c => v = .bl c
  | .int i => v = .int i
  | .str x => v = .str x ∧ x.length ≤ 1000
  | .tup ts => ∃ a xs, v = .ref a ∧ SqT K H a xs ∧ IsAll K b H xs ts
  | .lst => ∃ a xs, v = .ref a ∧ a ≠ b ∧ H a = some (.lst xs)
  | .dct => ∃ a kvs, v = .ref a ∧ a ≠ b ∧ H a = some (.dK kvs)
def IsAll (K : PySem.W.Frag) (b : Addr) (H : Hp) (xs : List V) : List Th → Prop
  | [] => xs = []
  | t :: ts => ∃ y ys, xs = y :: ys ∧ Is K b H y t ∧ IsAll K b H ys ts
end
section
variable {K : PySem.W.Frag} {b : Addr} {H H' : Hp}
mutual
theorem Is.mv (m : Mv [b] H H') : ∀ (t : Th) (v : V), Is K b H v t → Is K b H' v t
  | .non, v, h => h
  | .bl _, v, h => h
  | .int _, v, h => h
  | .str _, v, h => h
  | .tup ts, v, h => by
    obtain ⟨a, xs, e, hs, ha⟩ := h
    exact ⟨a, xs, e, m.sqT hs, IsAll.mv m ts xs ha⟩
  | .lst, v, h => by
    obtain ⟨a, xs, e, hb, ha⟩ := h
    exact ⟨a, xs, e, hb, m.keep a _ (by simpa using hb) ha⟩
  | .dct, v, h => by
    obtain ⟨a, xs, e, hb, ha⟩ := h
    exact ⟨a, xs, e, hb, m.keep a _ (by simpa using hb) ha⟩
theorem IsAll.mv (m : Mv [b] H H') : ∀ (ts : List Th) (xs : List V), IsAll K b H xs ts → IsAll K b H' xs ts
  | [], xs, h => h
  | t :: ts, xs, h => by
    obtain ⟨y, ys, e, h1, h2⟩ := h
    exact ⟨y, ys, e, Is.mv m t y h1, IsAll.mv m ts ys h2⟩
end
theorem Is.mv0 {t : Th} {v : V} (h : Is K b H v t) (m : Mv [] H H') : Is K b H' v t := Is.mv (m.mono (by simp)) t v h
theorem IsAll.mv0 {ts : List Th} {xs : List V} (h : IsAll K b H xs ts) (m : Mv [] H H') : IsAll K b H' xs ts := IsAll.mv (m.mono (by simp)) ts xs h
theorem Is.dr {t : Th} {v : V} (h : Is K b H v t) (m : Dr b H H') : Is K b H' v t := Is.mv m.mv t v h
theorem IsAll.dr {ts : List Th} {xs : List V} (h : IsAll K b H xs ts) (m : Dr b H H') : IsAll K b H' xs ts := IsAll.mv m.mv ts xs h
theorem IsAll.length : ∀ {ts : List Th} {xs : List V}, IsAll K b H xs ts → xs.length = ts.length
  | [], xs, h => by
    have h' : xs = [] := h
    rw [h']
    rfl
  | t :: ts, xs, h => by
    obtain ⟨y, ys, rfl, _, k⟩ := h
    simp [k.length]
theorem IsAll.append : ∀ {ts us : List Th} {xs ys : List V}, IsAll K b H xs ts → IsAll K b H ys us → IsAll K b H (xs ++ ys) (ts ++ us)
  | [], _, xs, _, h, k => by
    have h' : xs = [] := h
    rw [h']
    exact k
  | t :: ts, _, xs, _, h, k => by
    obtain ⟨y, zs, rfl, h1, h2⟩ := h
    exact ⟨y, zs ++ _, rfl, h1, h2.append k⟩
theorem IsAll.nil : IsAll K b H [] [] := rfl
theorem IsAll.cons {t : Th} {ts : List Th} {y : V} {ys : List V} (h : Is K b H y t) (k : IsAll K b H ys ts) : IsAll K b H (y :: ys) (t :: ts) := ⟨y, ys, rfl, h, k⟩
theorem IsAll.get : ∀ {ts : List Th} {xs : List V} {i : Nat} {v : V}, IsAll K b H xs ts → xs[i]? = some v → ∃ t, ts[i]? = some t ∧ Is K b H v t
  | [], xs, _, _, h, e => by
    have h' : xs = [] := h
    rw [h'] at e
    simp at e
  | t :: ts, _, 0, _, h, e => by
    obtain ⟨y, ys, rfl, h1, h2⟩ := h
    simp at e
    subst e
    exact ⟨t, rfl, h1⟩
  | t :: ts, _, i + 1, _, h, e => by
    obtain ⟨y, ys, rfl, h1, h2⟩ := h
    exact h2.get (i := i) (by simpa using e)
theorem IsAll.take : ∀ {ts : List Th} {xs : List V} (n : Nat), IsAll K b H xs ts → IsAll K b H (xs.take n) (ts.take n)
  | [], xs, n, h => by
    have h' : xs = [] := h
    rw [h']
    simpa using IsAll.nil
  | t :: ts, _, 0, h => by simpa using IsAll.nil
  | t :: ts, _, n + 1, h => by
    obtain ⟨y, ys, rfl, h1, h2⟩ := h
    exact IsAll.cons h1 (h2.take n)
theorem IsAll.drop : ∀ {ts : List Th} {xs : List V} (n : Nat), IsAll K b H xs ts → IsAll K b H (xs.drop n) (ts.drop n)
  | [], xs, n, h => by
    have h' : xs = [] := h
    rw [h']
    simpa using IsAll.nil
  | t :: ts, _, 0, h => by simpa using h
  | t :: ts, _, n + 1, h => by
    obtain ⟨y, ys, rfl, h1, h2⟩ := h
    exact h2.drop n
theorem IsAll.last {ts : List Th} {t : Th} : ∀ {us : List Th} {xs : List V}, us = ts ++ [t] → IsAll K b H xs us → ∃ ys y, xs = ys ++ [y] ∧ IsAll K b H ys ts ∧ Is K b H y t := by
  induction ts with
  | nil =>
    intro us xs e h
    subst e
    obtain ⟨y, ys, rfl, h1, h2⟩ := h
    have h3 : ys = [] := h2
    exact ⟨[], y, by rw [h3]; rfl, IsAll.nil, h1⟩
  | cons u ts ih =>
    intro us xs e h
    subst e
    obtain ⟨y, ys, rfl, h1, h2⟩ := h
    obtain ⟨zs, z, rfl, h3, h4⟩ := ih rfl h2
    exact ⟨y :: zs, z, rfl, IsAll.cons h1 h3, h4⟩
def tyN : Th → String
  | .non => "NoneType"
  | .bl _ => "bool"
  | .int _ => "int"
  | .str _ => "str"
  | .tup _ => "tuple"
  | .lst => "list"
  | .dct => "dict"
theorem tyx_is {t : Th} {v : V} (h : Is K b H v t) : TyX K H v (.type (tyN t)) := by
  cases t with
  | non => cases (show v = V.non from h); exact .base .non
  | bl c => cases (show v = V.bl c from h); exact .base (.bl c)
  | int i => cases (show v = V.int i from h); exact .base (.int i)
  | str x => cases (show v = V.str x from h.1); exact .base (.str x)
  | tup ts =>
    obtain ⟨a, xs, rfl, hs, _⟩ := h
    rcases hs with (hs | ⟨o, hs⟩) | ⟨o, its, n, hk, hc, _⟩
    · exact .base (.tup hs)
    · exact .fTuple hs
    · exact .kTuple hk hc
  | lst =>
    obtain ⟨a, xs, rfl, _, ha⟩ := h
    exact .base (.lst ha)
  | dct =>
    obtain ⟨a, kvs, rfl, _, ha⟩ := h
    exact .base (.dK ha)
theorem rd_isi {t : Th} {v : V} {T : String} {c : Bool} {Q : VK} (h : Is K b H v t) (k : kitB (tyN t) T = some c) (q : Q (.bl c) H) : rIsi K [v, .ty T] H Q := ⟨v, .ty T, _, _, c, rfl, .ty T, tyx_is h, kit_ty k, q⟩
def isIntT : Th → Bool
  | .int _ => true
  | .bl _ => true
  | _ => false
def isBoolT : Th → Bool
  | .bl _ => true
  | _ => false
def isStrT : Th → Bool
  | .str _ => true
  | _ => false
def isTupT : Th → Bool
  | .tup _ => true
  | _ => false
def isLstT : Th → Bool
  | .lst => true
  | _ => false
theorem kit_int (t : Th) : kitB (tyN t) "int" = some (isIntT t) := by cases t <;> (simp only [tyN, isIntT]; decide +kernel)
theorem kit_bool (t : Th) : kitB (tyN t) "bool" = some (isBoolT t) := by cases t <;> (simp only [tyN, isBoolT]; decide +kernel)
theorem kit_str (t : Th) : kitB (tyN t) "str" = some (isStrT t) := by cases t <;> (simp only [tyN, isStrT]; decide +kernel)
theorem kit_tup (t : Th) : kitB (tyN t) "tuple" = some (isTupT t) := by cases t <;> (simp only [tyN, isTupT]; decide +kernel)
theorem kit_lst (t : Th) : kitB (tyN t) "list" = some (isLstT t) := by cases t <;> (simp only [tyN, isLstT]; decide +kernel)
end
def lettersS : Str := "abcdefghijklmnopqrstuvwxyz"
def nmd (x : Str) : Bool := decide (1 ≤ x.length) && decide (x.length ≤ 8) && x.cps.toList.all fun c => decide (c ∈ lettersS.cps.toList)
def isWhole : Th → Bool
  | .int _ => true
  | _ => false
def isNamed : Th → Bool
  | .str x => nmd x
  | _ => false
mutual
def isTerm : Th → Bool
  | .int i => decide (0 ≤ i)
  | .tup [] => false
  | .tup (t :: ts) => isNamed t && decide (ts.length ≤ 3) && isTerms ts
  | _ => false
def isTerms : List Th → Bool
  | [] => true
  | t :: ts => isTerm t && isTerms ts
end
mutual
def Th.cnt : Th → Nat
  | .tup ts => Th.cnts ts + 1
  | _ => 1
def Th.cnts : List Th → Nat
  | [] => 0
  | t :: ts => t.cnt + Th.cnts ts
end
theorem isTerms_all : ∀ ts : List Th, isTerms ts = ts.all isTerm
  | [] => by simp [isTerms]
  | t :: ts => by simp [isTerms, isTerms_all ts]
theorem Th.cnts_append : ∀ ts us : List Th, Th.cnts (ts ++ us) = Th.cnts ts + Th.cnts us
  | [], us => by simp [Th.cnts]
  | t :: ts, us => by
    simp only [List.cons_append, Th.cnts, Th.cnts_append ts us]
    omega
mutual
def Tm.th : Tm → Th
  | .var i => .int i
  | .op x ts => .tup (.str x :: Tm.ths ts)
def Tm.ths : List Tm → List Th
  | [] => []
  | t :: ts => t.th :: Tm.ths ts
end
section
variable {K : PySem.W.Frag} {b : Addr} {H : Hp}
mutual
theorem Is.of_im {R : Int → Prop} : ∀ (t : Tm) (v : V), t.ok R → Im K H v t.d → Is K b H v t.th
  | .var i, v, _, h => h.intI
  | .op x ts, v, k, h => by
    obtain ⟨a, xs0, rfl, ha, hxs⟩ := h.tupI
    obtain ⟨x', xs, rfl, hx', hys⟩ := hxs.invD
    exact ⟨a, x' :: xs, rfl, ha, IsAll.cons ⟨hx'.strI, by have := k.1.2.1; omega⟩ (IsAll.of_ims ts xs k.2.2 hys)⟩
theorem IsAll.of_ims {R : Int → Prop} : ∀ (ts : List Tm) (xs : List V), Tm.oks R ts → Ims K H xs (Tm.ds ts) → IsAll K b H xs (Tm.ths ts)
  | [], xs, _, h => h.nilD
  | t :: ts, xs, k, h => by
    obtain ⟨v, vs, rfl, h1, h2⟩ := h.invD
    exact IsAll.cons (Is.of_im t v k.1 h1) (IsAll.of_ims ts vs k.2 h2)
end
end
theorem nmd_nm {x : Str} (h : Nm x) : nmd x = true := by
  unfold nmd
  have h3 : (x.cps.toList.all fun c => decide (c ∈ lettersS.cps.toList)) = true := by
    rw [List.all_eq_true]
    intro c hc
    have := h.2.2 c hc
    have k : ∀ c : Fin 123, 97 ≤ c.val → decide (c.val ∈ lettersS.cps.toList) = true := by decide +kernel
    exact k ⟨c, by omega⟩ this.1
  rw [h3, decide_eq_true h.1, decide_eq_true h.2.1]
  rfl
end Fm
namespace Fm
open PySem PySem.Spec PyProof.Rows L2
def kD : L2.Key → PyData
  | .inl i => .int i
  | .inr x => .str x
mutual
inductive Js (K : PySem.W.Frag) (b : Addr) (H : Hp) : V → PyData → Prop
  | non : Js K b H .non .none
  | bl (c : Bool) : Js K b H (.bl c) (.bool c)
  | int (i : Int) : Js K b H (.int i) (.int i)
  | str (x : Str) (h : x.length ≤ 1000) : Js K b H (.str x) (.str x)
  | lst {a : Addr} {xs : List V} {ds : List PyData} : a ≠ b → H a = some (.lst xs) → JsAll K b H xs ds → Js K b H (.ref a) (.list ds)
  | tup {a : Addr} {xs : List V} {ds : List PyData} : SqT K H a xs → JsAll K b H xs ds → Js K b H (.ref a) (.tuple ds)
  | dct {a : Addr} {es : List (L2.Key × V)} {kvs : List (PyData × PyData)} : a ≠ b → H a = some (.dK es) → JsKv K b H es kvs → Js K b H (.ref a) (.dict kvs)
inductive JsAll (K : PySem.W.Frag) (b : Addr) (H : Hp) : List V → List PyData → Prop
  | nil : JsAll K b H [] []
  | cons {v : V} {vs : List V} {d : PyData} {ds : List PyData} : Js K b H v d → JsAll K b H vs ds → JsAll K b H (v :: vs) (d :: ds)
inductive JsKv (K : PySem.W.Frag) (b : Addr) (H : Hp) : List (L2.Key × V) → List (PyData × PyData) → Prop
  | nil : JsKv K b H [] []
  | cons {k : L2.Key} {v : V} {es : List (L2.Key × V)} {d : PyData} {kvs : List (PyData × PyData)} : Js K b H v d → JsKv K b H es kvs → JsKv K b H ((k, v) :: es) ((kD k, d) :: kvs)
end
section
variable {K : PySem.W.Frag} {b : Addr} {H H' : Hp}
mutual
theorem Js.mv (m : Mv [b] H H') : ∀ (d : PyData) (v : V), Js K b H v d → Js K b H' v d
  | .none, _, h => by cases h; exact .non
  | .bool c, _, h => by cases h; exact .bl c
  | .int i, _, h => by cases h; exact .int i
  | .str x, _, h => by
    cases h with
    | str _ h => exact .str x h
  | .list ds, _, h => by
    cases h with
    | lst hb ha hs => exact .lst hb (m.keep _ _ (by simpa using hb) ha) (JsAll.mv m ds _ hs)
  | .tuple ds, _, h => by
    cases h with
    | tup ha hs => exact .tup (m.sqT ha) (JsAll.mv m ds _ hs)
  | .dict kvs, _, h => by
    cases h with
    | dct hb ha hs => exact .dct hb (m.keep _ _ (by simpa using hb) ha) (JsKv.mv m kvs _ hs)
theorem JsAll.mv (m : Mv [b] H H') : ∀ (ds : List PyData) (vs : List V), JsAll K b H vs ds → JsAll K b H' vs ds
  | [], _, h => by cases h; exact .nil
  | d :: ds, _, h => by
    cases h with
    | cons h1 h2 => exact .cons (Js.mv m d _ h1) (JsAll.mv m ds _ h2)
theorem JsKv.mv (m : Mv [b] H H') : ∀ (kvs : List (PyData × PyData)) (es : List (L2.Key × V)), JsKv K b H es kvs → JsKv K b H' es kvs
  | [], _, h => by cases h; exact .nil
  | (_, d) :: kvs, _, h => by
    cases h with
    | cons h1 h2 => exact .cons (Js.mv m d _ h1) (JsKv.mv m kvs _ h2)
end
theorem Js.mv0 {d : PyData} {v : V} (h : Js K b H v d) (m : Mv [] H H') : Js K b H' v d := Js.mv (m.mono (by simp)) d v h
theorem Js.dr {d : PyData} {v : V} (h : Js K b H v d) (m : Dr b H H') : Js K b H' v d := Js.mv m.mv d v h
theorem JsAll.mv0 {ds : List PyData} {vs : List V} (h : JsAll K b H vs ds) (m : Mv [] H H') : JsAll K b H' vs ds := JsAll.mv (m.mono (by simp)) ds vs h
theorem JsAll.dr {ds : List PyData} {vs : List V} (h : JsAll K b H vs ds) (m : Dr b H H') : JsAll K b H' vs ds := JsAll.mv m.mv ds vs h
theorem JsAll.length : ∀ {ds : List PyData} {vs : List V}, JsAll K b H vs ds → vs.length = ds.length
  | [], _, h => by cases h; rfl
  | d :: ds, _, h => by
    cases h with
    | cons _ h2 => simp [h2.length]
theorem JsAll.append : ∀ {ds es : List PyData} {vs us : List V}, JsAll K b H vs ds → JsAll K b H us es → JsAll K b H (vs ++ us) (ds ++ es)
  | [], _, _, _, h, k => by cases h; exact k
  | d :: ds, _, _, _, h, k => by
    cases h with
    | cons h1 h2 => exact .cons h1 (h2.append k)
theorem JsAll.get : ∀ {ds : List PyData} {vs : List V} {i : Nat} {v : V}, JsAll K b H vs ds → vs[i]? = some v → ∃ d, ds[i]? = some d ∧ Js K b H v d
  | [], _, _, _, h, e => by cases h; simp at e
  | d :: ds, _, 0, _, h, e => by
    cases h with
    | cons h1 h2 =>
      simp at e
      subst e
      exact ⟨d, rfl, h1⟩
  | d :: ds, _, i + 1, _, h, e => by
    cases h with
    | cons h1 h2 => exact h2.get (i := i) (by simpa using e)
theorem JsAll.getD : ∀ {ds : List PyData} {vs : List V} {i : Nat} {d : PyData}, JsAll K b H vs ds → ds[i]? = some d → ∃ v, vs[i]? = some v ∧ Js K b H v d
  | [], _, _, _, h, e => by simp at e
  | d :: ds, _, 0, _, h, e => by
    cases h with
    | cons h1 h2 =>
      simp at e
      subst e
      exact ⟨_, rfl, h1⟩
  | d :: ds, _, i + 1, _, h, e => by
    cases h with
    | cons h1 h2 => exact h2.getD (i := i) (by simpa using e)
theorem JsAll.take : ∀ {ds : List PyData} {vs : List V} (n : Nat), JsAll K b H vs ds → JsAll K b H (vs.take n) (ds.take n)
  | [], _, n, h => by cases h; simpa using JsAll.nil
  | d :: ds, _, 0, h => by simpa using JsAll.nil
  | d :: ds, _, n + 1, h => by
    cases h with
    | cons h1 h2 => exact .cons h1 (h2.take n)
theorem JsAll.drop : ∀ {ds : List PyData} {vs : List V} (n : Nat), JsAll K b H vs ds → JsAll K b H (vs.drop n) (ds.drop n)
  | [], _, n, h => by cases h; simpa using JsAll.nil
  | d :: ds, _, 0, h => by simpa using h
  | d :: ds, _, n + 1, h => by
    cases h with
    | cons h1 h2 => exact h2.drop n
theorem Js.tup2 {v : V} {d e : PyData} (h : Js K b H v (.tuple [d, e])) : ∃ a x y, v = .ref a ∧ SqT K H a [x, y] ∧ Js K b H x d ∧ Js K b H y e := by
  cases h with
  | tup ha hs =>
    cases hs with
    | cons h1 h2 =>
      cases h2 with
      | cons h3 h4 =>
        cases h4
        exact ⟨_, _, _, rfl, ha, h1, h3⟩
mutual
def thD : PyData → Th
  | .none => .non
  | .bool c => .bl c
  | .int i => .int i
  | .str x => .str x
  | .list _ => .lst
  | .tuple ds => .tup (thDs ds)
  | .dict _ => .dct
def thDs : List PyData → List Th
  | [] => []
  | d :: ds => thD d :: thDs ds
end
mutual
theorem Js.is : ∀ (d : PyData) (v : V), Js K b H v d → Is K b H v (thD d)
  | .none, _, h => by cases h; rfl
  | .bool c, _, h => by cases h; rfl
  | .int i, _, h => by cases h; rfl
  | .str x, _, h => by
    cases h with
    | str _ h => exact ⟨rfl, h⟩
  | .list ds, _, h => by
    cases h with
    | lst hb ha hs => exact ⟨_, _, rfl, hb, ha⟩
  | .tuple ds, _, h => by
    cases h with
    | tup ha hs => exact ⟨_, _, rfl, ha, JsAll.is ds _ hs⟩
  | .dict kvs, _, h => by
    cases h with
    | dct hb ha hs => exact ⟨_, _, rfl, hb, ha⟩
theorem JsAll.is : ∀ (ds : List PyData) (vs : List V), JsAll K b H vs ds → IsAll K b H vs (thDs ds)
  | [], _, h => by cases h; exact IsAll.nil
  | d :: ds, _, h => by
    cases h with
    | cons h1 h2 => exact IsAll.cons (Js.is d _ h1) (JsAll.is ds _ h2)
end
mutual
def shs : PyData → Prop
  | .none => True
  | .bool _ => True
  | .int _ => True
  | .str x => x.length ≤ 1000
  | .list xs => shsA xs
  | .tuple xs => shsA xs
  | .dict _ => True
def shsA : List PyData → Prop
  | [] => True
  | x :: xs => shs x ∧ shsA xs
end
mutual
theorem Js.of0 : ∀ (d : PyData) (v : V), imm d = true → Dp K H v d → shs d → Js K b H v d
  | .none, _, _, h, _ => by cases h; exact .non
  | .bool c, _, _, h, _ => by cases h; exact .bl c
  | .int i, _, _, h, _ => by cases h; exact .int i
  | .str x, _, _, h, l => by
    cases h
    exact .str x l
  | .list ds, _, i, _, _ => by simp [imm] at i
  | .tuple ds, _, i, h, l => by
    cases h with
    | tup ha hs => exact .tup ha (JsAll.of0 ds _ (by simpa [imm] using i) hs l)
  | .dict _, _, i, _, _ => by simp [imm] at i
theorem JsAll.of0 : ∀ (ds : List PyData) (vs : List V), immAll ds = true → DpAll K H vs ds → shsA ds → JsAll K b H vs ds
  | [], _, _, h, _ => by cases h; exact .nil
  | d :: ds, _, i, h, l => by
    have i' : imm d = true ∧ immAll ds = true := by simpa [immAll] using i
    cases h with
    | cons h1 h2 => exact .cons (Js.of0 d _ i'.1 h1 l.1) (JsAll.of0 ds _ i'.2 h2 l.2)
end
theorem Js.of {d : PyData} {v : V} (h : Im K H v d) (l : shs d) : Js K b H v d := Js.of0 d v h.im h.dp l
theorem JsAll.of {ds : List PyData} {vs : List V} (h : Ims K H vs ds) (l : shsA ds) : JsAll K b H vs ds := JsAll.of0 ds vs h.im h.dp l
end
mutual
def fin : PyData → Prop
  | .none => True
  | .bool _ => True
  | .int i => i.natAbs < 10 ^ 40
  | .str x => PyData.strOk x = true
  | .list xs => fins xs
  | .tuple xs => fins xs
  | .dict kvs => finK kvs
def fins : List PyData → Prop
  | [] => True
  | x :: xs => fin x ∧ fins xs
def finK : List (PyData × PyData) → Prop
  | [] => True
  | (k, v) :: r => fin k ∧ fin v ∧ finK r
end
mutual
def wj : PyData → Nat
  | .none => 4
  | .bool _ => 5
  | .int _ => 41
  | .str x => 10 * x.length + 2
  | .list xs => wjs xs + 2
  | .tuple xs => wjs xs + 2
  | .dict kvs => wjK kvs + 2
def wjs : List PyData → Nat
  | [] => 0
  | x :: xs => wj x + 2 + wjs xs
def wjK : List (PyData × PyData) → Nat
  | [] => 0
  | (k, v) :: r => wj k + wj v + 4 + wjK r
end
theorem dictText_le (ts : List Str) : (dictText ts).length ≤ piled ts + 2 := by
  unfold dictText
  rw [strLen_append, strLen_append]
  have e1 : ((("{" : String) : Str)).length = 1 := rfl
  have e2 : ((("}" : String) : Str)).length = 1 := rfl
  rw [e1, e2]
  cases ts with
  | nil => decide +kernel
  | cons t r =>
    have := join_length_add (t :: r) (by simp)
    omega
mutual
theorem shown_wj : ∀ d : PyData, fin d → d.shown.length ≤ wj d
  | .none, _ => by simp only [PyData.shown]; decide
  | .bool b, _ => by cases b <;> (simp only [PyData.shown]; decide)
  | .int i, h => by
    simp only [PyData.shown, wj]
    rw [PySem.ofString_length]
    exact int_text_length_le10 (k := 40) (by decide) h
  | .str x, h => by
    simp only [PyData.shown, wj]
    refine StrLaws.reprText_len x fun c hc => ?_
    have h' : x.cps.all (· < 0x110000) = true := h
    rw [Array.all_eq_true_iff_forall_mem] at h'
    have := h' c (by simpa using hc)
    simp at this
    omega
  | .list xs, h => by
    have := shown_wjs xs h
    have := listText_le (PyData.shownAll xs)
    simp only [PyData.shown, wj]
    omega
  | .tuple xs, h => by
    have := shown_wjs xs h
    have := tupleText_le (PyData.shownAll xs)
    simp only [PyData.shown, wj]
    omega
  | .dict kvs, h => by
    have := shown_wjK kvs h
    have := dictText_le (PyData.shownKv kvs)
    simp only [PyData.shown, wj]
    omega
theorem shown_wjs : ∀ xs : List PyData, fins xs → piled (PyData.shownAll xs) ≤ wjs xs
  | [], _ => by simp [PyData.shownAll, piled, wjs]
  | x :: xs, h => by
    have h1 := shown_wj x h.1
    have h2 := shown_wjs xs h.2
    simp only [PyData.shownAll, wjs]
    rw [piled_cons]
    omega
theorem shown_wjK : ∀ kvs : List (PyData × PyData), finK kvs → piled (PyData.shownKv kvs) ≤ wjK kvs
  | [], _ => by simp [PyData.shownKv, piled, wjK]
  | (k, v) :: r, h => by
    have h1 := shown_wj k h.1
    have h2 := shown_wj v h.2.1
    have h3 := shown_wjK r h.2.2
    have e2 : (((": " : String) : Str)).length = 2 := rfl
    simp only [PyData.shownKv, wjK]
    rw [piled_cons, strLen_append, strLen_append, e2]
    omega
end
mutual
theorem showable_fin : ∀ d : PyData, fin d → d.showable = true
  | .none, _ => by simp [PyData.showable]
  | .bool b, _ => by simp [PyData.showable]
  | .int i, h => by
    have h' : i.natAbs < 10 ^ 40 := h
    have h2 : i.natAbs < 2 ^ 200 := Nat.lt_trans h' (by decide)
    simp only [PyData.showable, decide_eq_true_eq]
    exact Nat.lt_trans (PySem.Flt.log2_lt_of (by decide) h2) (by decide)
  | .str x, h => by simp [PyData.showable]
  | .list xs, h => by simpa [PyData.showable] using showable_fins xs h
  | .tuple xs, h => by simpa [PyData.showable] using showable_fins xs h
  | .dict kvs, h => by simpa [PyData.showable] using showable_finK kvs h
theorem showable_fins : ∀ xs : List PyData, fins xs → PyData.showableAll xs = true
  | [], _ => by simp [PyData.showableAll]
  | x :: xs, h => by simp [PyData.showableAll, showable_fin x h.1, showable_fins xs h.2]
theorem showable_finK : ∀ kvs : List (PyData × PyData), finK kvs → PyData.showableKv kvs = true
  | [], _ => by simp [PyData.showableKv]
  | (k, v) :: r, h => by simp [PyData.showableKv, showable_fin k h.1, showable_fin v h.2.1, showable_finK r h.2.2]
end
structure ShJ (d : PyData) : Prop where
  fi : fin d
  dp : d.depth ≤ 60
  wj : wj d ≤ 16000000
def SysAt (h : Heap) : Prop := ∃ o : Obj, h.get? sysModules = some o
section
variable {X : Cx} {pins : List (Addr × Obj)} {σ : L2.St} {H : Hp} {s : Shared} {b : Addr}
theorem noSys (I : Inv X pins σ H s) (hn : SysAt X.base) {a : Addr} {o : HO} (e : H a = some o) : a ≠ sysModules := by
  rintro rfl
  obtain ⟨u, hu⟩ := hn
  rw [(I.bs _ _ hu).2] at e
  cases e
theorem kv_rel : ∀ {es : List (L2.Key × V)} {kvs : List (PyData × PyData)}, JsKv X.K b H es kvs → ∀ {vs : List (L2.Key × Value)} {ens : List DictEntry}, KV es vs → Pairs (mixKind X.prog X.w) ens vs →
    (∀ d v u, (∃ k, (k, d) ∈ kvs) → Js X.K b H v d → RelV v u → ∃ as, Reads s.heap u d as ∧ sysModules ∉ as) →
    (∃ as, ReadsAll s.heap (ens.map (·.key)) (kvs.map (·.1)) as ∧ sysModules ∉ as) ∧ ∃ as, ReadsAll s.heap (ens.map (·.val)) (kvs.map (·.2)) as ∧ sysModules ∉ as
  | [], _, h, _, _, r, p, _ => by
    cases h
    cases r
    cases p
    exact ⟨⟨[], .nil, by simp⟩, [], .nil, by simp⟩
  | (k, v) :: es, _, h, _, _, r, p, ih => by
    cases h with
    | cons hd hs =>
      cases r with
      | cons e t =>
        obtain ⟨e, rv⟩ := e
        cases p with
        | cons hk hv hp =>
          have ih2 := kv_rel hs t hp fun d' v u h' => ih d' v u (h'.elim fun k' hm => ⟨k', List.mem_cons_of_mem _ hm⟩)
          obtain ⟨⟨as, a1, a2⟩, bs, b1, b2⟩ := ih2
          obtain ⟨cs, c1, c2⟩ := ih _ _ _ ⟨_, List.mem_cons_self⟩ hd rv
          have hk' : ∀ {u : Value}, keyIs k u = true → ∃ ks, Reads s.heap u (kD k) ks ∧ sysModules ∉ ks := by
            intro u hk
            rcases keyIs_shape hk with ⟨i, u, e1, e2⟩ | ⟨y, u, e1, e2⟩
            · rw [e1, e2]
              exact ⟨[], .int i u, by simp⟩
            · rw [e1, e2]
              exact ⟨[], .str y u, by simp⟩
          have e' : k = _ := e
          rw [← e'] at hk
          obtain ⟨ks, k1, k2⟩ := hk' hk
          refine ⟨⟨ks ++ as, .cons k1 a1, by simp [k2, a2]⟩, cs ++ bs, .cons ?_ b1, by simp [c2, b2]⟩
          rw [← hv] at c1
          exact c1
mutual
theorem Js.reads (I : Inv X pins σ H s) (hn : SysAt X.base) : ∀ (d : PyData) (v : V) (u : Value), Js X.K b H v d → RelV v u → ∃ as, Reads s.heap u d as ∧ sysModules ∉ as
  | .none, _, _, h, r => by
    cases h
    cases r
    exact ⟨_, Reads.none, by simp⟩
  | .bool b, _, _, h, r => by
    cases h
    cases r
    exact ⟨_, Reads.bool b, by simp⟩
  | .int i, _, _, h, r => by
    cases h
    obtain ⟨t, rfl⟩ := r
    exact ⟨_, Reads.int i t, by simp⟩
  | .str x, _, _, h, r => by
    cases h
    obtain ⟨t, rfl⟩ := r
    exact ⟨_, Reads.str x t, by simp⟩
  | .list ds, _, _, h, r => by
    cases h with
    | lst hb hs ha =>
      cases r
      obtain ⟨its, rv, ⟨o, n, ho, hc, _, hd⟩, _⟩ := I.list (.inl (.inl hs))
      obtain ⟨as, hr, hm⟩ := Js.readsAll I hn ds _ its ha rv
      refine ⟨_, Reads.list ho hc hd hr, ?_⟩
      rw [List.mem_cons]
      rintro (e | e)
      · exact noSys I hn hs e.symm
      · exact hm e
  | .tuple ds, _, _, h, r => by
    cases h with
    | tup hs ha =>
      cases r
      obtain ⟨its, rv, ⟨o, ho, hc, n, hd⟩, _⟩ := I.tuple hs
      obtain ⟨as, hr, hm⟩ := Js.readsAll I hn ds _ its ha rv
      exact ⟨_, Reads.tuple ho hc hd hr, hm⟩
  | .dict kvs, _, _, h, r => by
    cases h with
    | dct hb hs ha =>
      cases r
      obtain ⟨_, hne, vs, rk, o, es, ep, ho, hx, hd, _, hp, _⟩ := dk_of I.hok hs
      obtain ⟨⟨as, a1, a2⟩, bs, b1, b2⟩ := kv_rel ha rk hp (Js.readsKv I hn kvs)
      refine ⟨_, Reads.dict ho hx.1 hd a1 b1, ?_⟩
      have hne' := beq_eq_false_iff_ne.mp hne
      simp only [List.cons_append, List.mem_cons, List.mem_append]
      rintro (e | e | e)
      · exact hne' e.symm
      · exact a2 e
      · exact b2 e
theorem Js.readsAll (I : Inv X pins σ H s) (hn : SysAt X.base) : ∀ (ds : List PyData) (vs : List V) (us : List Value), JsAll X.K b H vs ds → Vals vs us → ∃ as, ReadsAll s.heap us ds as ∧ sysModules ∉ as
  | [], _, _, h, r => by
    cases h
    cases r
    exact ⟨_, ReadsAll.nil, by simp⟩
  | d :: ds, _, _, h, r => by
    cases h with
    | cons h1 h2 =>
      cases r with
      | cons r1 r2 =>
        obtain ⟨as, q1, n1⟩ := Js.reads I hn d _ _ h1 r1
        obtain ⟨bs, q2, n2⟩ := Js.readsAll I hn ds _ _ h2 r2
        exact ⟨_, ReadsAll.cons q1 q2, by simp [n1, n2]⟩
theorem Js.readsKv (I : Inv X pins σ H s) (hn : SysAt X.base) : ∀ (kvs : List (PyData × PyData)) (d : PyData) (v : V) (u : Value), (∃ k, (k, d) ∈ kvs) → Js X.K b H v d → RelV v u → ∃ as, Reads s.heap u d as ∧ sysModules ∉ as
  | [], _, _, _, ⟨_, h⟩, _, _ => by cases h
  | (k', d') :: kvs, d, v, u, ⟨k, h⟩, hj, r => by
    rcases List.mem_cons.mp h with e | h
    · have e' : d = d' := congrArg Prod.snd e
      rw [e'] at hj ⊢
      exact Js.reads I hn d' v u hj r
    · exact Js.readsKv I hn kvs d v u ⟨k, h⟩ hj r
end
def rReprJ (K : PySem.W.Frag) : List V → Hp → VK → Prop := fun xs H Q => ∃ (x : V) (d : PyData) (b : Addr), xs = [x] ∧ Js K b H x d ∧ ShJ d ∧ Q (.str d.shown) H
end
end Fm
namespace Fm
open PySem PySem.Spec PyProof.Rows L2
section
variable {P : Program} {w : World} {K : PySem.W.Frag} {mg mb : Str → Option Value} {k : Nat} {fa a : Addr} {fd : FuncData} {x : Str} {sp : Sp} {s : Shared} {vs : List Value} {ns : List Int}
theorem from_heapS (hsy : ∃ mm, s.heap.Ns sysModules mm) (KX : K.In s.heap) (hg0 : s.heap.Ns mainGlobals mg) (hb : s.heap.Ns builtinsNs mb) (hbb : ∀ y : Str, y ≠ "__name__" → mb y = bootBuiltins y) (hlim : s.heap.NoLimit) (hg : s.gens = #[])
    (ha : s.heap.get? a = some { cls := .type "list", data := .seq vs.toArray }) (hr : Room k callerA) (F : ∀ base : Heap, K.In base → base.Ns mainGlobals mg → SysAt base → FnOkG P w K mg base CX0 k fa fd [x] sp)
    (hbind : ∀ (t : Shared) (u : Value), BindsTo t fd ⟨[u], []⟩ [(x, u)]) (H : Hp) (hO : Only H) (hok : HOk P w H s.heap) (hA : ∀ b, H b ≠ none → b = a) (hK : H a ≠ none → K.lookup a = none)
    (hsp : sp [.ref a] H (fun v _ => v = .bl true) fun _ _ _ => False) :
    codeAny (model P w) callerA (.call (.ref fa) ⟨[.ref a], []⟩) (fun r t => r = .ok (.ret (.bool true)) ∧ OldK s.heap t.heap ∧ t.os = s.os ∧ AllBare t.gens) s := by
  have free : ∀ {b : Addr} {o : Obj} {es : Array DictEntry} {ep : Nat}, s.heap.get? b = some o → o.data = .dict es ep → H b = none := by
    intro b o es ep e d
    cases q : H b with
    | none => rfl
    | some u =>
      have z := hA b (by rw [q]; exact Option.some_ne_none u)
      rw [z, ha] at e
      cases e
      exact nomatch d
  have ns : ∀ {b : Addr} {m : Str → Option Value}, s.heap.Ns b m → (hidT s.heap H).Ns b m := by
    rintro b m ⟨o, es, ep, e, d, r⟩
    exact ⟨o, es, ep, hidT_get e (free e d), d, r⟩
  have kin : K.In (hidT s.heap H) := by
    intro b o e
    refine hidT_get (KX b o e) ?_
    cases q : H b with
    | none => rfl
    | some u =>
      have z := hA b (by rw [q]; exact Option.some_ne_none u)
      rw [z] at q e
      rw [hK (by rw [q]; exact Option.some_ne_none u)] at e
      cases e
  have lim : (hidT s.heap H).NoLimit := by
    obtain ⟨mc, l1, l2⟩ := hlim
    exact ⟨mc, ns l1, l2⟩
  have env : Env0 P w K mg (hidT s.heap H) callerA [] s H :=
    ⟨rfl, ⟨kin, ns hg0, ⟨mb, ns hb, hbb⟩, lim⟩, fun b o e => of_hidT e, Nat.le_of_eq (hidT_size _ _), trivial, (fun b z => absurd (show b ∈ ([] : List Addr) from z) List.not_mem_nil), hok, .of_eq hg⟩
  have run := (F _ kin (ns hg0) (hsy.elim fun mm h => let ⟨o, _, _, e, _⟩ := ns h; ⟨o, e⟩)).run callerA [] s H ⟨[.ref a], []⟩ [.ref a] [.ref a] _ _ rfl hr env (hbind s (.ref a)) (.cons rfl .nil) hsp
  refine codeAny_mono run fun r t h => ?_
  match r, h with
  | .error e, h => exact False.elim h
  | .ok (.ret u), h =>
    obtain ⟨v, H', os, bare, un, hok', r', q⟩ := h
    have q' : v = .bl true := q
    rw [q'] at r'
    obtain rfl : u = Value.bool true := r'
    refine ⟨rfl, OldK.of_keep fun b o e => ?_, os, bare⟩
    rcases hO b with z | ⟨ob, xs, z⟩
    · exact un.keep b o e z (fun y => absurd (show b ∈ ([] : List Addr) from y) List.not_mem_nil) (fun y => nomatch y)
    · obtain ⟨e1, _⟩ := hok b _ z
      obtain ⟨e2, _⟩ := hok' b _ (un.frzs b ob _ z)
      rw [e1] at e
      cases e
      exact e2
theorem law_callS (hsy : ∃ mm, s.heap.Ns sysModules mm) (KX : K.In s.heap) (hg0 : s.heap.Ns mainGlobals mg) (hb : s.heap.Ns builtinsNs mb) (hbb : ∀ y : Str, y ≠ "__name__" → mb y = bootBuiltins y) (hlim : s.heap.NoLimit) (hg : s.gens = #[])
    (ha : s.heap.get? a = some { cls := .type "list", data := .seq vs.toArray }) (hi : IntsAre vs ns) (hl : ns.length ≤ sizeLine) (hr : Room k callerA)
    (F : ∀ base : Heap, K.In base → base.Ns mainGlobals mg → SysAt base → FnOkG P w K mg base CX0 k fa fd [x] sp) (hbind : ∀ (t : Shared) (u : Value), BindsTo t fd ⟨[u], []⟩ [(x, u)])
    (hsp : ∀ H : Hp, SqL K H a (ns.map V.int) → sp [.ref a] H (fun v _ => v = .bl true) fun _ _ _ => False) :
    codeAny (model P w) callerA (.call (.ref fa) ⟨[.ref a], []⟩) (fun r t => r = .ok (.ret (.bool true)) ∧ OldK s.heap t.heap ∧ t.os = s.os ∧ AllBare t.gens) s := by
  have rv := vals_ints hi
  have hlen : (ns.map V.int).length ≤ sizeLine := by
    rw [List.length_map]
    exact hl
  cases hk : K.lookup a with
  | some o =>
    have e := KX a o hk
    rw [ha] at e
    cases e
    refine from_heapS hsy KX hg0 hb hbb hlim hg ha hr F hbind (fun _ => none) (fun _ => .inl rfl) (fun b u z => nomatch z) (fun b z => absurd rfl z) (fun z => absurd rfl z) (hsp _ ?_)
    exact .inr ⟨_, vs.toArray, _, hk, rfl, rfl, rfl, by rw [List.size_toArray, hi.length]; exact hl, by simpa using rv⟩
  | none =>
    have at_ : ∀ b, (if b = a then some (HO.frz { cls := .type "list", data := .seq vs.toArray } (.lst (ns.map V.int))) else none) ≠ none → b = a := by
      intro b z
      by_cases e : b = a
      · exact e
      · rw [if_neg e] at z
        exact absurd rfl z
    refine from_heapS hsy KX hg0 hb hbb hlim hg ha hr F hbind (fun b => if b = a then some (.frz { cls := .type "list", data := .seq vs.toArray } (.lst (ns.map V.int))) else none) (fun b => ?_) (fun b u z => ?_) at_ (fun _ => hk)
      (hsp _ (.inl (.inr ⟨_, if_pos rfl⟩)))
    · by_cases e : b = a
      · exact .inr ⟨_, _, if_pos e⟩
      · exact .inl (if_neg e)
    · have e : b = a := at_ b (by
        have z' : (if b = a then some (HO.frz { cls := .type "list", data := .seq vs.toArray } (.lst (ns.map V.int))) else none) = some u := z
        rw [z']
        exact Option.some_ne_none u)
      subst e
      have z' := (if_pos rfl).symm.trans z
      cases z'
      exact ⟨ha, hlen, vs, _, rv, ha⟩
end
theorem walk_S {l : PySem.W.OpenLaw} {n k : Nat} {q : Program} {loose : List Str} {XP : (Str → Option Value) → Heap → Prop} {YP : World → Heap → Prop} {d : DefRec} {K : Params → PySem.W.Frag} {sp : PySem.W.Frag → Sp} {x : Str}
    (hq : importsNone q = true) (hn : l.most = some n) (hn2 : n ≤ sizeLine) (hdf : d.params.defaults = []) (hr : Room k callerA) (hY : ∀ (w : World) (h : Heap), YP w h → (K w.params).In h)
    (F : ∀ (w : World) (mg : Str → Option Value) (fa : Addr) (h : Heap), (K w.params).In h → h.Ns mainGlobals mg → mg d.name = some (.ref fa) →
      ∃ fd : FuncData, (∀ (t : Shared) (u : Value), BindsTo t fd ⟨[u], []⟩ [(x, u)]) ∧ ∀ base : Heap, (K w.params).In base → base.Ns mainGlobals mg → SysAt base → FnOkG l.prog w (K w.params) mg base CX0 k fa fd [x] (sp (K w.params)))
    (hsp : ∀ (K : PySem.W.Frag) (H : Hp) (a : Addr) (ns : List Int), ns.length ≤ n → SqL K H a (ns.map V.int) → sp K [.ref a] H (fun v _ => v = .bl true) fun _ _ _ => False) :
    PySem.W.WalkO q loose XP YP l.row.toRowW d [] (fun f vs => PySem.call f vs) := by
  refine Att.attach_call hn hdf fun w s₀ s₁ mg mb fa o pm cd doc a vs ns G Y ho hd hcd hmg hobj hints hlen hgens => ?_
  obtain ⟨fd, hb, hF⟩ := F w mg fa _ (hY w _ Y) G.T.g hmg
  exact law_callS ((G.T.seer hq).mods.elim fun mm h => ⟨mm, h.1⟩) (hY w _ Y) G.T.g G.T.b G.T.builtins G.T.nolimit hgens hobj hints (Nat.le_trans hlen hn2) hr hF hb fun H hS => hsp _ H a ns hlen hS
end Fm
namespace Fm
open PySem PySem.Spec PyProof.Rows L2
section
variable {prog : Program} {w : World} {A : Around} {E : Value → Shared → Prop} {s : Shared}
theorem nx_tup_item {it t : Addr} {i : Nat} {items : Array Value} {x : Value} {Q : Value → Shared → Prop} (hit : s.heap.IsTupleIter it t i) (ht : s.heap.IsTuple t items) (hx : items[i]? = some x)
    (hQ : ∀ h', h'.IsTupleIter it t (i + 1) → Heap.SameBut it s.heap h' → Q x { s with heap := h' }) : wpAny (model prog w) A (Builtin.SmallTypes.nextOf (.ref it)) Q E s := by
  obtain ⟨o, ho, hc, hd⟩ := id hit
  obtain ⟨ol, hol, _, nl, hdl⟩ := ht
  unfold Builtin.SmallTypes.nextOf
  refine wpAny_bind (wpAny_callSpecial?_slot (name := Str.ofString "__next__") hit.typeIs PySem.F.slot_tuple_iterator_next
    (wpAny_call_entry PySem.F.slot_tuple_iterator_next hit.typeIs PySem.F.entry_tuple_iterator_next ?_ (PySem.F.args_tuple_iterator_next_1 _)))
  show wpAny (model prog w) _ (field (.ref it) 0 >>= _) _ _ s
  refine wpAny_bind (wpAny_field ho hd (x := .ref t) rfl ?_)
  show wpAny (model prog w) _ (if (Value.ref t == Value.none) = true then _ else _) _ _ s
  rw [if_neg (show ¬ ((Value.ref t == Value.none) = true) from Bool.false_ne_true)]
  show wpAny (model prog w) _ (field (.ref it) 1 >>= _) _ _ s
  refine wpAny_bind (wpAny_field ho hd (x := .int i 0) rfl ?_)
  show wpAny (model prog w) _ (seqItems? (.ref t) >>= _) _ _ s
  refine wpAny_bind (wpAny_seqItems hol hdl ?_)
  simp only [Int.toNat_natCast, hx]
  refine wpAny_bind (wpAny_setField ho hd (by simp) (wpAny_pure ⟨x, rfl, wpAny_pure (hQ _ ?_ (Heap.SameBut.update ..))⟩))
  refine ⟨_, Heap.get?_update_self _ ho (Obj.isFreed_of_fields (Obj.data_mapFields hd _)), (Obj.cls_mapFields ..).trans hc, ?_⟩
  rw [Obj.data_mapFields hd]
  simp [rawInt]
theorem nx_tup_end {it t : Addr} {i : Nat} {items : Array Value} {Q : Value → Shared → Prop} (hh : A.handled = none) (hit : s.heap.IsTupleIter it t i) (ht : s.heap.IsTuple t items) (hx : items[i]? = none)
    (hE : ∀ h' e, Heap.ExtBut it s.heap h' → (∃ o, h'.get? e = some o ∧ o.cls = .type "StopIteration") → E (.ref e) { s with heap := h' }) : wpAny (model prog w) A (Builtin.SmallTypes.nextOf (.ref it)) Q E s := by
  obtain ⟨o, ho, hc, hd⟩ := id hit
  obtain ⟨ol, hol, _, nl, hdl⟩ := ht
  unfold Builtin.SmallTypes.nextOf
  refine wpAny_bind (wpAny_callSpecial?_slot (name := Str.ofString "__next__") hit.typeIs PySem.F.slot_tuple_iterator_next
    (wpAny_call_entry PySem.F.slot_tuple_iterator_next hit.typeIs PySem.F.entry_tuple_iterator_next ?_ (PySem.F.args_tuple_iterator_next_1 _)))
  show wpAny (model prog w) _ (field (.ref it) 0 >>= _) _ _ s
  refine wpAny_bind (wpAny_field ho hd (x := .ref t) rfl ?_)
  show wpAny (model prog w) _ (if (Value.ref t == Value.none) = true then _ else _) _ _ s
  rw [if_neg (show ¬ ((Value.ref t == Value.none) = true) from Bool.false_ne_true)]
  show wpAny (model prog w) _ (field (.ref it) 1 >>= _) _ _ s
  refine wpAny_bind (wpAny_field ho hd (x := .int i 0) rfl ?_)
  show wpAny (model prog w) _ (seqItems? (.ref t) >>= _) _ _ s
  refine wpAny_bind (wpAny_seqItems hol hdl ?_)
  simp only [Int.toNat_natCast, hx]
  refine wpAny_bind (wpAny_rule (wpAny_bind (wpAny_setField ho hd (by simp) ?_)))
  show wpAny (model prog w) _ (newExc (.type "StopIteration") [] >>= _) _ _ _
  refine wpAny_bind ?_
  simp only [newExc, newTuple]
  refine wpAny_bind (wpAny_newObj_type ?_ (by size_fits))
  refine wpAny_bind (m := firstArgMember _ _) (wpAny_of_eq (a := Value.none) (by first | rfl | (simp only [firstArgMember]; rfl)) ?_)
  refine wpAny_newObj_type ?_ (by size_fits)
  simp only [raiseNew]
  refine wpAny_bind (wpAny_handled ?_)
  first | rw [show A.in1.handled = none from hh] | rw [hh]
  refine wpAny_bind (wpAny_pure (wpAny_throw ?_))
  exact hE _ _ (((Heap.SameBut.update ..).extBut.push _).push _) ⟨_, Heap.get?_push_size _ rfl, rfl⟩
end
theorem draws_tup {prog : Program} {w : World} {A : Around} (hh : A.handled = none) (it t : Addr) (hne : t ≠ it) (items : Array Value) :
    Draws prog w A it [it, t] items.size (fun i v => items[i]? = some v) (fun i h => h.IsTupleIter it t i ∧ h.IsTuple t items) where
  live := fun _ _ st => let ⟨o, ho, _⟩ := st.1; ⟨o, ho⟩
  frame := fun _ _ _ st hk => ⟨st.1.at fun o e => hk it (by simp) o e, let ⟨o, ho, r⟩ := st.2; ⟨o, hk t (by simp) o ho, r⟩⟩
  item := fun i s Q E hi st hQ => by
    refine nx_tup_item st.1 st.2 (x := items[i]) (by simp [hi]) fun h' hit' hs' => ?_
    exact hQ _ h' s.toks (by simp [hi]) ⟨hit', let ⟨o, ho, r⟩ := st.2; ⟨o, (hs'.2 t hne).trans ho, r⟩⟩ hs'
  done := fun s Q E st hE => nx_tup_end hh st.1 st.2 (by simp) hE
theorem enum_newT (l : Addr) (items : Array Value) (n : Nat) (dct : Option Addr) (sl : Array (Option Value)) :
    Meets (Builtin.«enumerate.__new__» ⟨[.type "enumerate", .ref l], []⟩) (fun _ R s => s.heap.get? l = some { cls := .type "tuple", dict := dct, data := .seq items n, slots := sl } ∧
      R (.ok (.ret (.ref (s.heap.push { cls := .type "tuple_iterator", data := .fields #[.ref l, .int 0 0] }).objs.size)))
        { s with heap := (s.heap.push { cls := .type "tuple_iterator", data := .fields #[.ref l, .int 0 0] }).push { cls := .type "enumerate", data := .fields #[.none, .bool false, .ref s.heap.objs.size, rawInt 0, .none, .none] } }) :=
  .of_wp fun prog w A R s h => by
    obtain ⟨hp, g, d, tk, os⟩ := s
    obtain ⟨hl, h⟩ := h
    have hsub := sub_enumerate
    have hL : Heap.IsTuple (Shared.heap ⟨hp, g, d, tk, os⟩) l items := ⟨_, hl, rfl, n, rfl⟩
    wp_walk using AutoSeq1.wpAny_loadPart' hl
    refine wpAny_stack_any fun st => wpAny_pure ?_
    split
    · rename_i c _ _ _ _ _
      cases (c == Value.type "enumerate")
      · wp_walk using AutoSeq1.wpAny_loadPart' hl, wpAny_pyIter_tuple hL
        exact ⟨_, rfl, h⟩
      · wp_walk using AutoSeq1.wpAny_loadPart' hl, wpAny_pyIter_tuple hL
        exact ⟨_, rfl, h⟩
    · wp_walk using AutoSeq1.wpAny_loadPart' hl, wpAny_pyIter_tuple hL
      exact ⟨_, rfl, h⟩
theorem call_enumT {prog : Program} {w : World} {A : Around} {E : Value → Shared → Prop} {s : Shared} {l : Addr} {items : Array Value} {Q : Value → Shared → Prop} (hL : s.heap.IsTuple l items)
    (h : ∀ h', IsEnum h' (s.heap.objs.size + 1) s.heap.objs.size 0 .none → h'.IsTupleIter s.heap.objs.size l 0 → h'.objs.size = s.heap.objs.size + 2 →
      (∀ b o, s.heap.get? b = some o → h'.get? b = some o) → Q (.ref (s.heap.objs.size + 1)) { s with heap := h' }) :
    wpAny (model prog w) A (call (.type "enumerate") [.ref l]) Q E s := by
  obtain ⟨⟨c, dct, dt, sl⟩, hl, hc, n, hd⟩ := hL
  simp only at hc hd
  subst hc hd
  refine callType_new PySem.F.called_enumerate (by decide) (PySem.F.typeCall_enumerate_1 _) (PySem.F.newCall_enumerate_1 _) (fun obj => PySem.F.args_object_init_2 obj _) PySem.F.entry_enumerate_new (enum_newT l items n dct sl) ⟨hl, ?_⟩
  have hz : (s.heap.push { cls := .type "tuple_iterator", data := .fields #[.ref l, .int 0 0] }).objs.size = s.heap.objs.size + 1 := Heap.size_push ..
  show _ ∧ _
  rw [hz]
  have he : IsEnum ((s.heap.push { cls := .type "tuple_iterator", data := .fields #[.ref l, .int 0 0] }).push { cls := .type "enumerate", data := .fields #[.none, .bool false, .ref s.heap.objs.size, rawInt 0, .none, .none] }) (s.heap.objs.size + 1) s.heap.objs.size 0 .none := by
    have := Heap.get?_push_size (s.heap.push { cls := .type "tuple_iterator", data := .fields #[.ref l, .int 0 0] })
      (o := { cls := .type "enumerate", data := .fields #[.none, .bool false, .ref s.heap.objs.size, rawInt 0, .none, .none] }) rfl
    rw [hz] at this
    exact this
  refine ⟨⟨_, he, rfl⟩, h _ he ⟨_, Heap.get?_push_of_some _ (Heap.get?_push_size _ rfl), rfl, rfl⟩ (by rw [Heap.size_push, hz]) fun b o x => Heap.get?_push_of_some _ (Heap.get?_push_of_some _ x)⟩
theorem enum_endT {prog : Program} {w : World} {A : Around} {E : Value → Shared → Prop} {s : Shared} {e it l : Addr} {i : Nat} {items : Array Value} {old : Value} {Q : Option Value → Shared → Prop} (hh : A.handled = none)
    (he : IsEnum s.heap e it i old) (hit : s.heap.IsTupleIter it l i) (hl : s.heap.IsTuple l items) (hx : items[i]? = none) (hQ : ∀ h', Heap.ExtBut it s.heap h' → Q none { s with heap := h' }) : wpAny (model prog w) A (pyNext (.ref e)) Q E s := by
  have hT : s.TypeIs (.ref e) "enumerate" := ⟨_, he, rfl⟩
  unfold pyNext
  refine wpAny_bind (wpAny_attempt (wpAny_callSpecial?_slot (name := Str.ofString "__next__") hT PySem.F.slot_enumerate_next
    (wpAny_call_entry PySem.F.slot_enumerate_next hT PySem.F.entry_enumerate_next ?_ (PySem.F.args_enumerate_next_1 _))))
  show wpAny (model prog w) _ (field (.ref e) 2 >>= _) _ _ _
  refine wpAny_bind (wpAny_field he rfl (x := .ref it) rfl ?_)
  refine wpAny_bind (nx_tup_end hh hit hl hx fun h' x he' hx' => ?_)
  obtain ⟨o, ho, hc⟩ := hx'
  refine wpAny_bind (wpAny_isInstance (T := "StopIteration") (b := true) ⟨o, ho, hc⟩ isSubtype_stop ?_)
  exact wpAny_pure (hQ _ he')
def IteT (K : PySem.W.Frag) (a : Addr) : It :=
  ⟨fun i H => ∃ (xs : List V) (x : V), SqT K H a xs ∧ xs[i]? = some x, fun i H v H' => ∃ T x, v = .ref T ∧ H T = none ∧ H' = upd H T (.tup [.int (i : Nat), x]) ∧ ∀ xs, SqT K H a xs → xs[i]? = some x, fun i H => ∃ xs : List V, SqT K H a xs ∧ xs.length ≤ i⟩
theorem turn_enumT {P : Program} {w : World} {K : PySem.W.Frag} {elts : List Expr} {kk : Nat} {tpos : Pos} (a e it : Addr) (hai : a ≠ it) (hae : a ≠ e) :
    Turn P w K (.Tuple elts kk tpos) (IteT K a) [e, it] e (fun i h => (∃ old, IsEnum h e it ((i : Nat) : Int) old) ∧ h.IsTupleIter it a i ∧ e ≠ it) where
  mem := by simp
  obj := fun i h st b hb => by
    obtain ⟨⟨old, he⟩, ⟨o, ho, hc, hd⟩, _⟩ := st
    have e' : b = e ∨ b = it := by simpa using hb
    rcases e' with z | z
    · rw [z]; exact ⟨_, he, fun v q => nomatch q⟩
    · rw [z]; exact ⟨o, ho, fun v q => by rw [hd] at q; cases q⟩
  keep := fun i h h' st k => let ⟨⟨old, he⟩, hi, hne⟩ := st; ⟨⟨old, k e (by simp) _ he⟩, hi.at fun o q => k it (by simp) o q, hne⟩
  item := by
    intro X hP hw hK hc i pins s σ H E I hf st hg
    subst hP hw hK
    obtain ⟨⟨old, he⟩, hit, hne⟩ := st
    obtain ⟨xs, x, hq, hx⟩ := hg
    obtain ⟨its, rv, p, hz⟩ := I.tuple hq
    obtain ⟨u, hu, ru⟩ := rv.get hx
    have hT0 : s.heap.IsTuple a its.toArray := p
    have hel : e < s.heap.objs.size := Heap.lt_size he
    have hil : it < s.heap.objs.size := by obtain ⟨_, q, _⟩ := hit; exact Heap.lt_size q
    have hiz : i < its.toArray.size := by
      rw [List.size_toArray]
      exact (List.getElem?_eq_some_iff.mp hu).1
    refine wpAny_pyNext_enum_itemD (draws_tup (show X.A.in1.handled = none from I.ok.hd hc) it a hai its.toArray) he ⟨hit, hT0⟩ hiz hne (by simp [hne, hae.symm]) fun x' h' tk hP' ho hst' hT hsz hk => ?_
    have ex : x' = u := by
      have : its.toArray[i]? = some x' := hP'
      rw [List.getElem?_toArray, hu] at this
      exact (Option.some.inj this).symm
    subst ex
    refine ⟨_, rfl, wpAny_letOwnedTupleGo_enum (s := { s with heap := h', toks := tk + 1 }) ho fun h'' he' sb => ?_⟩
    have hT2 : h''.get? s.heap.objs.size = some { cls := .type "tuple", data := .seq #[.int i tk, x'] } := (sb.2 _ (Nat.ne_of_gt hel)).trans hT
    have new : ObjOk X.prog X.w (upd H s.heap.objs.size (.tup [.int (i : Nat), x])) h'' s.heap.objs.size (.tup [.int (i : Nat), x]) :=
      ⟨by show 2 ≤ sizeLine; decide, [.int i tk, x'], .cons ⟨_, rfl⟩ (.cons ru .nil), ⟨_, hT2, rfl, _, rfl⟩⟩
    have I1 : Inv X pins σ (upd H s.heap.objs.size (.tup [.int (i : Nat), x])) { s with heap := h'', toks := tk + 1 } :=
      I.turnedNew (ch := [e, it]) (fun b ob hb q => (sb.2 b (fun z => hb (by simp [z]))).trans (hk b ob (fun z => hb (by simp [z])) (fun z => hb (by simp [z])) q)) hf (Nat.le_refl _) new
    refine ⟨.ref s.heap.objs.size, _, I1, rfl, ⟨_, x, rfl, I.hok.fresh (Nat.le_refl _), rfl, fun ys hy => by rw [I.tuple_inj hy hq]; exact hx⟩, ⟨⟨x', ?_⟩, hst'.1.at fun o q => (sb.2 it (Ne.symm hne)).trans q, hne⟩, fun b hb => ?_⟩
    · have e1 : ((i + 1 : Nat) : Int) = (i : Int) + 1 := by omega
      rw [e1]
      exact he'
    · have hb' : b < s.heap.objs.size := by
        have e' : b = e ∨ b = it := by simpa using hb
        rcases e' with z | z
        · rw [z]; exact hel
        · rw [z]; exact hil
      rw [upd_ne (Nat.ne_of_lt hb')]
      exact (hf b hb).1
  done := by
    intro X hP hw hK hc i pins s σ H E I hf st hg
    subst hP hw hK
    obtain ⟨⟨old, he⟩, hit, hne⟩ := st
    obtain ⟨xs, hq, hx⟩ := hg
    obtain ⟨its, rv, p, hz⟩ := I.tuple hq
    obtain ⟨f0, f1, f2, f3, f4, f5⟩ := hf it (by simp)
    have hl := rv.length
    have hT0 : s.heap.IsTuple a its.toArray := p
    exact enum_endT (I.ok.hd hc) he hit hT0 (by simp; omega) fun h' eb => ⟨rfl, I.turned (t' := s.toks) (fun b o hb q => eb b o hb q) f0 f1 f3 f4 f5⟩
  self := fun A i s Q E st h => let ⟨⟨_, he⟩, _⟩ := st; wpAny_pyIter_enum he h
def iEnumG (K : PySem.W.Frag) (ta : TA) : TI := fun σ H R => ta σ H fun vs H1 => ∃ a xs, vs = [.ref a] ∧ ((SqL K H1 a xs ∧ R (Ite K a) H1) ∨ (SqT K H1 a xs ∧ R (IteT K a) H1))
theorem bt_enumerate : bootBuiltins "enumerate" = some (.type "enumerate") := by decide +kernel
theorem pi_enumG {X : Cx} {e : Expr} {ta : TA} {p pos tpos : Pos} {elts : List Expr} {kk : Nat} (hg : Gl X "enumerate") (hm : X.mg "enumerate" = none) (ha : PA X [e] ta) (hs : starEach [e] X.env = [(false, eval e X.env)] := by rfl) :
    PI X (.Tuple elts kk tpos) (.Call (.Name "enumerate" p) [e] [] pos) (iEnumG X.K ta) := by
  refine ⟨fun pins s σ H R I h => ?_⟩
  refine Call_ (ld_blt I hg hm bt_enumerate (PyProof.Rows.callWith_type1 (thn (ha.run pos pins s σ H _ I h) fun us s1 ⟨vs, H1, I1, r1, q1⟩ => ?_) hs rfl))
  obtain ⟨a, xs, rfl, q⟩ := q1
  obtain rfl := Vals.ref1 r1
  have fp : ∀ b ∈ [s1.heap.objs.size + 1, s1.heap.objs.size], FpOk X pins H1 b := fun b hb => by
    have hle : s1.heap.objs.size ≤ b := by
      rcases (show b = s1.heap.objs.size + 1 ∨ b = s1.heap.objs.size by simpa using hb) with z | z <;> omega
    exact I1.fpOk hle (I1.hok.fresh hle)
  rcases q with ⟨hq, q⟩ | ⟨hq, q⟩
  · obtain ⟨its, rv, p', hz⟩ := I1.list hq
    refine call_enumerate_list p'.isList fun h' he hit hsz hk => wpAny_pyIter_enum he ?_
    have I2 : Inv X pins σ H1 { s1 with heap := h' } := I1.kept (t' := s1.toks) hk
    exact ⟨s1.heap.objs.size + 1, [s1.heap.objs.size + 1, s1.heap.objs.size], _, _, H1, rfl, I2, turn_enum a (s1.heap.objs.size + 1) s1.heap.objs.size, ⟨⟨.none, he⟩, hit, Nat.succ_ne_self _⟩, fp, q⟩
  · obtain ⟨its, rv, p', hz⟩ := I1.tuple hq
    have hT0 : s1.heap.IsTuple a its.toArray := p'
    have hal : a < s1.heap.objs.size := by
      obtain ⟨o, ho, _⟩ := hT0
      exact Heap.lt_size ho
    refine call_enumT hT0 fun h' he hit hsz hk => wpAny_pyIter_enum he ?_
    have I2 : Inv X pins σ H1 { s1 with heap := h' } := I1.kept (t' := s1.toks) hk
    exact ⟨s1.heap.objs.size + 1, [s1.heap.objs.size + 1, s1.heap.objs.size], _, _, H1, rfl, I2, turn_enumT a (s1.heap.objs.size + 1) s1.heap.objs.size (Nat.ne_of_lt hal) (Nat.ne_of_lt (Nat.lt_succ_of_lt hal)), ⟨⟨.none, he⟩, hit, Nat.succ_ne_self _⟩, fp, q⟩
theorem for_enumG {K : PySem.W.Frag} {a : Addr} {xs : List V} {g : TG} {tb : TS} {D : Ends} {σ : L2.St} {H : Hp} {R : Prop} (hS : SqL K H a xs ∨ SqT K H a xs) (Pv : Nat → L2.St → Hp → Prop) (h0 : Pv 0 σ H) (hk : ∀ i σ' H', Pv i σ' H' → Mv [] H H')
    (hs : ∀ i x T σ' H', xs[i]? = some x → Pv i σ' H' → H' T = none → g (.ref T) σ' (upd H' T (.tup [.int (i : Nat), x])) fun σ2 H2 => tb { D with nx := Pv (i + 1), ct := Pv (i + 1), bk := D.nx } σ2 H2) (hd : ∀ σ' H', Pv xs.length σ' H' → D.nx σ' H') :
    (SqL K H a xs ∧ ∃ W : Nat → Nat → L2.St → Hp → Prop, (∃ m, W 0 m σ H) ∧ ∀ i m σ H, W i m σ H →
      ((Ite K a).stop i H ∧ D.nx σ H) ∨ ((Ite K a).go i H ∧ ∃ N : L2.St → Hp → Prop, (∀ σ' H', N σ' H' → ∃ m', m' < m ∧ W (i + 1) m' σ' H') ∧ ∀ x H', (Ite K a).yld i H x H' → g x σ H' fun σ2 H2 => tb { D with nx := N, ct := N, bk := D.nx } σ2 H2)) ∨
    (SqT K H a xs ∧ ∃ W : Nat → Nat → L2.St → Hp → Prop, (∃ m, W 0 m σ H) ∧ ∀ i m σ H, W i m σ H →
      ((IteT K a).stop i H ∧ D.nx σ H) ∨ ((IteT K a).go i H ∧ ∃ N : L2.St → Hp → Prop, (∀ σ' H', N σ' H' → ∃ m', m' < m ∧ W (i + 1) m' σ' H') ∧ ∀ x H', (IteT K a).yld i H x H' → g x σ H' fun σ2 H2 => tb { D with nx := N, ct := N, bk := D.nx } σ2 H2)) := by
  rcases hS with hS | hS
  · refine .inl ⟨hS, fun i m σ H => m = xs.length - i ∧ i ≤ xs.length ∧ Pv i σ H, ⟨xs.length, by simp, Nat.zero_le _, h0⟩, ?_⟩
    rintro i m σ H ⟨rfl, hi, p⟩
    have q := (hk i σ H p).same.seq hS
    by_cases hlt : i < xs.length
    · refine .inr ⟨⟨xs, xs[i], q, by simp [hlt]⟩, Pv (i + 1), fun σ' H' p' => ⟨xs.length - (i + 1), by omega, rfl, hlt, p'⟩, fun x H' y => ?_⟩
      obtain ⟨T, x', rfl, hT, rfl, y⟩ := y
      exact hs i x' T σ _ (y xs q) p hT
    · have e : i = xs.length := by omega
      subst e
      exact .inl ⟨⟨xs, q, Nat.le_refl _⟩, hd σ H p⟩
  · refine .inr ⟨hS, fun i m σ H => m = xs.length - i ∧ i ≤ xs.length ∧ Pv i σ H, ⟨xs.length, by simp, Nat.zero_le _, h0⟩, ?_⟩
    rintro i m σ H ⟨rfl, hi, p⟩
    have q := (hk i σ H p).sqT hS
    by_cases hlt : i < xs.length
    · refine .inr ⟨⟨xs, xs[i], q, by simp [hlt]⟩, Pv (i + 1), fun σ' H' p' => ⟨xs.length - (i + 1), by omega, rfl, hlt, p'⟩, fun x H' y => ?_⟩
      obtain ⟨T, x', rfl, hT, rfl, y⟩ := y
      exact hs i x' T σ _ (y xs q) p hT
    · have e : i = xs.length := by omega
      subst e
      exact .inl ⟨⟨xs, q, Nat.le_refl _⟩, hd σ H p⟩
end Fm
namespace Fm
open PySem PySem.Spec PyProof.Rows L2 SlX
section
variable {X : Cx}
def rDictD : List V → Hp → VK → Prop := fun xs H Q => ∃ (a : Addr) (kvs : List (L2.Key × V)), xs = [.ref a] ∧ H a = some (.dK kvs) ∧ ∀ p, H p = none → Q (.ref p) (upd H p (.dK kvs))
theorem call_dictD : CallR X (.type "dict") rDictD := by
  intro pins s σ H xs us Q I r h
  obtain ⟨a, kvs, rfl, ha, q⟩ := h
  obtain rfl := Vals.ref1 r
  obtain ⟨z, hd, vs, kv, hD⟩ := dk_of I.hok ha
  refine PySem.kt_call_dict hd hD (by rw [← kv.length]; exact z) fun h' hm hs => ?_
  have hk : ∀ b o, s.heap.get? b = some o → h'.get? b = some o := fun b o e => (hs.2 b (Nat.ne_of_lt (Heap.lt_size e))).trans (Heap.get?_push_of_some _ e)
  have hm' : (s.heap.objs.size == sysModules) = false := beq_eq_false_iff_ne.mpr (Nat.ne_of_gt I.big)
  exact ⟨.ref s.heap.objs.size, _, I.laid (t' := s.toks) hk (Nat.le_refl _) (show ObjOk X.prog X.w _ _ _ (.dK kvs) from ⟨z, hm', vs, kv, hm⟩), rfl, q _ (I.hok.fresh (Nat.le_refl _))⟩
def tLenSetG (K : PySem.W.Frag) (ta : TE) : TE := fun σ H Q => ta σ H fun x H1 => ∃ (l : Addr) (ns : List Int), x = .ref l ∧ (SqL K H1 l (ns.map V.int) ∨ SqT K H1 l (ns.map V.int)) ∧ ns.length ≤ 4000 ∧
  ∀ ks : List Int, ks.Nodup → (∀ k, k ∈ ks ↔ k ∈ ns) → Q (.int ks.length) H1
theorem pe_lenSetG {a : Expr} {ta : TE} {p p2 q pos : Pos} (hc : X.calm = true) (hg : Gl X "len") (hm : X.mg "len" = none) (hg2 : Gl X "set") (hm2 : X.mg "set" = none) (ha : PE X a ta)
    (na : starEach [a] X.env = (false, eval a X.env) :: starEach [] X.env := by rfl) : PE X (.Call (.Name "len" p) [.Call (.Name "set" p2) [a] [] q] [] pos) (tLenSetG X.K ta) := by
  refine ⟨fun pins s σ H Q I h => ?_⟩
  refine Call_ (ld_blt I hg hm PySem.boot_len ?_)
  refine PyProof.Rows.callWith_builtin1 (PyProof.Rows.args_cons ?_ rfl) rfl rfl
  refine Call_ (ld_blt I hg2 hm2 PyProof.Rows.boot_set ?_)
  refine PyProof.Rows.callWith_type1 (PyProof.Rows.args_cons (thn (ha.run pins s σ H _ I h) fun v s1 ⟨x, H1, I1, r1, q1⟩ => PyProof.Rows.args_nil ?_) na) na rfl
  obtain ⟨l, ns, rfl, hq, hl, q1⟩ := q1
  cases r1
  have hb : ns.length + 1 < scanBound := Nat.lt_of_le_of_lt (Nat.succ_le_succ hl) (by decide)
  have fin : ∀ (h' : Heap) (tk c : Nat), SetR X.w h' s1.heap.objs.size (fun j => decide (j ∈ ns)) c → (∀ b o, s1.heap.get? b = some o → h'.get? b = some o) →
      wpAny (model X.prog X.w) X.A (call (.builtin "len") [.ref s1.heap.objs.size]) (EP X pins σ Q) X.xe { s1 with heap := h', toks := tk } := by
    intro h' tk c R hk
    have I2 : Inv X pins σ H1 { s1 with heap := h', toks := tk } := I1.kept hk
    obtain ⟨o, es, ep, t, ho, hex, hd, h4, h5, h6, h7, h8, h9, h10⟩ := id R
    have hle : (es.toList.map keyOf).length = es.size := by rw [List.length_map, Array.length_toList]
    have hbd : (es.size : Int) < 2 ^ 63 := by
      have : scanBound < 2 ^ 62 := by decide
      omega
    refine PySem.call_len_set ho hex hd h8 hbd ⟨.int es.size, H1, I2.tok _, ⟨_, rfl⟩, ?_⟩
    have := q1 (es.toList.map keyOf) h5 fun k => by rw [← h6 k]; simp
    rw [hle] at this
    exact this
  rcases hq with hq | hq
  · obtain ⟨its, r, pl, hz⟩ := I1.list hq
    refine set_of_list ns (I1.ok.hd hc) pl.isList (by simpa using r.ints) hb fun h' tk c R hk => ?_
    exact PyProof.Rows.args_nil (fin h' tk c R hk)
  · obtain ⟨its, r, pl, hz⟩ := I1.tuple hq
    refine call_set_tupI ns (I1.ok.hd hc) (show s1.heap.IsTuple l its.toArray from pl) (by simpa using r.ints) hb fun h' tk c R _ hk => ?_
    exact PyProof.Rows.args_nil (fin h' tk c R hk)
def gSl (K : PySem.W.Frag) (to : TE) (f : Str) : TG := fun y σ H Q => to σ H fun x H2 => ∃ a C dx p vs i, x = .ref a ∧ Slt H2 a C dx vs ∧ SCls K C ∧ Slot1 K C f p i ∧ Q σ (slH H2 a C dx (putS i y vs))
theorem pg_sl {o : Expr} {to : TE} {f : Str} {pos : Pos} (ho : PE X o to) (ha : ∀ v, assign (.Attribute o f pos) X.env v = (do
      let ov ← holding [v] (eval o X.env)
      standAt pos.atName
      holding [v, ov] (setAttr ov f v)
      release [v, ov] []) := by intro _; rfl) : PG X (.Attribute o f pos) (gSl X.K to f) := by
  refine ⟨fun pins s σ H v u Q I r h => ?_⟩
  rw [ha]
  refine wpAny_bind (wpAny_holding (thn (ho.run pins s σ H _ I h) fun ov s1 ⟨x, H1, I1, r1, a, C, dx, p, vs, i, ex, hs, hc, ht, q1⟩ => ?_))
  subst ex
  obtain rfl : ov = Value.ref a := r1
  refine wpAny_bind (wpAny_standAt (wpAny_bind (wpAny_holding (setslot_ok I1 hs hc ht r fun s2 I2 => ?_))))
  exact wpAny_release ⟨σ, _, I2, q1⟩
end
theorem bt_ValueError : bootBuiltins "ValueError" = some (.type "ValueError") := by decide +kernel
theorem fnR_of {P : Program} {w : World} {K : PySem.W.Frag} {mg : Str → Option Value} {base : Heap} {CX : CXT} {k : Nat} {f : Addr} {fd : FuncData} {ps : List Str} {sp : Sp} (F : FnOk P w K mg base CX k f fd ps sp) (b : Binds K fd ps []) : FnR P w K mg base CX k f sp := by
  intro A outer s H us vs Q E hr e0 r h
  have hl : us.length = ps.length := by rw [← r.length]; exact F.len _ _ _ _ h
  have kin : K.In s.heap := e0.mod.kin.keeps fun b o e => (e0.bs b o e).1
  have b' := b s us kin (by rw [List.append_nil]; exact hl)
  rw [List.append_nil] at b'
  exact F.run A outer s H ⟨us, []⟩ us vs Q E hr e0 b' r h
section
variable {X : Cx} {CX : CXT} {k : Nat} {C g : Addr} {fd : FuncData} {ps : List Str} {sp : Sp} {E : L2.St → XK} {m : Str} {pos apos : Pos} {e o : Expr} {es : List Expr} {ta : TE} {t : TA}
def tMethSlS (C : Addr) (sp : Sp) (E : L2.St → XK) (ta : TE) (t : TA) : TE := fun σ H Q => ta σ H fun x H1 => ∃ a dx vs, x = .ref a ∧ Slt H1 a C dx vs ∧ t σ H1 fun ws H2 => sp (x :: ws) H2 Q (E σ)
end
section
variable {X : Cx}
def rSortDk : List V → Hp → VK → Prop := fun xs H Q => ∃ (a : Addr) (kvs : List (L2.Key × V)) (ks : List Str), xs = [.ref a] ∧ Rd H a (.dK kvs) ∧ kvs.map (·.1) = ks.map Sum.inr ∧ ks.length < 64 ∧ ∀ ys p, ys.Perm ks → sortedS ys = true → H p = none → Q (.ref p) (upd H p (.lst (ys.map V.str)))
def rSortA (K : PySem.W.Frag) : List V → Hp → VK → Prop := fun xs H Q => rSortDk xs H Q ∨ (rSortedS K xs H Q ∨ rSorted K xs H Q)
theorem cr_sortA (hc : X.calm = true) : CallR X (.builtin "sorted") (rSortA X.K) := CallR.or (call_sortedD hc) (CallR.or cr_sortedS cr_sorted)
def rDictP (K : PySem.W.Frag) : List V → Hp → VK → Prop := fun xs H Q => ∃ (a : Addr) (ps : List Addr) (kvs : List (L2.Key × V)), xs = [.ref a] ∧ SqL K H a (ps.map V.ref) ∧ Paired (fun p kv => SqT K H p [kV kv.1, kv.2]) ps kvs ∧ ∀ p, H p = none → Q (.ref p) (upd H p (.dK (mergeK [] kvs)))
def rDictG (K : PySem.W.Frag) : List V → Hp → VK → Prop := fun xs H Q => rDictP K xs H Q ∨ rDictD xs H Q
theorem call_dictG (hc : X.calm = true) : CallR X (.type "dict") (rDictG X.K) := CallR.or (call_dictP hc) call_dictD
def rListG (K : PySem.W.Frag) : List V → Hp → VK → Prop := fun xs H Q => rListOf K xs H Q ∨ rListD xs H Q
theorem call_listA (hc : X.calm = true) : CallR X (.type "list") (rListG X.K) := CallR.or call_listG (call_list_dK hc)
end
theorem kitOne_self {K : PySem.W.Frag} (C : Addr) : PySem.W.kitOne K (.ref C) (.ref C) = some true := by
  unfold PySem.W.kitOne
  rw [if_pos (by simp)]
end Fm
namespace Fm
open PySem PySem.Spec PyProof.Rows L2
def ltSI (p q : Str × Int) : Bool := if p.1 = q.1 then decide (p.2 < q.2) else decide (p.1.cps.toList < q.1.cps.toList)
theorem str_ext {x y : Str} (h : x.cps.toList = y.cps.toList) : x = y := by
  cases x
  cases y
  simp only at h
  rw [Array.toList_inj.mp h]
theorem ltSI_no {p q : Str × Int} : ltSI p q = false ↔ (p.1 = q.1 ∧ q.2 ≤ p.2) ∨ (q.1.cps.toList < p.1.cps.toList) := by
  unfold ltSI
  by_cases e : p.1 = q.1
  · rw [if_pos e, decide_eq_false_iff_not, Int.not_lt]
    constructor
    · exact fun h => .inl ⟨e, h⟩
    · rintro (h | h)
      · exact h.2
      · rw [e] at h
        exact absurd h (List.lt_irrefl _)
  · rw [if_neg e, decide_eq_false_iff_not]
    constructor
    · intro h
      refine .inr ?_
      rcases Std.lt_trichotomy q.1.cps.toList p.1.cps.toList with z | z | z
      · exact z
      · exact absurd (str_ext z.symm) e
      · exact absurd z h
    · rintro (h | h)
      · exact absurd h.1 e
      · exact fun z => List.lt_irrefl _ (List.lt_trans z h)
theorem ltSI_yes {p q : Str × Int} : ltSI p q = true ↔ (p.1 = q.1 ∧ p.2 < q.2) ∨ (p.1.cps.toList < q.1.cps.toList) := by
  unfold ltSI
  by_cases e : p.1 = q.1
  · rw [if_pos e, decide_eq_true_iff]
    constructor
    · exact fun h => .inl ⟨e, h⟩
    · rintro (h | h)
      · exact h.2
      · rw [e] at h
        exact absurd h (List.lt_irrefl _)
  · rw [if_neg e, decide_eq_true_iff]
    constructor
    · exact fun h => .inr h
    · rintro (h | h)
      · exact absurd h.1 e
      · exact h
theorem swo_SI (k : Value → Str × Int) : SrtO.Swo fun v u => ltSI (k v) (k u) := by
  refine ⟨fun x y h => ?_, fun x y z h1 h2 => ?_⟩
  · refine ltSI_no.mpr ?_
    rcases ltSI_yes.mp h with ⟨a, b⟩ | a
    · exact .inl ⟨a.symm, by omega⟩
    · exact .inr a
  · refine ltSI_no.mpr ?_
    rcases ltSI_no.mp h1 with ⟨a, b⟩ | a
    · rcases ltSI_no.mp h2 with ⟨c, d⟩ | c
      · exact .inl ⟨c.trans a, by omega⟩
      · rw [a] at c
        exact .inr c
    · rcases ltSI_no.mp h2 with ⟨c, d⟩ | c
      · rw [← c] at a
        exact .inr a
      · exact .inr (List.lt_trans a c)
def IsSI (h : Heap) (v : Value) (x : Str) (i : Int) : Prop := ∃ (a : Addr) (o : Obj) (t u : Tok) (n : Nat), v = .ref a ∧ h.get? a = some o ∧ o.cls = .type "tuple" ∧ o.data = .seq #[.str x t, .int i u] n
theorem IsSI.one {h : Heap} {v : Value} {x y : Str} {i j : Int} (a : IsSI h v x i) (b : IsSI h v y j) : x = y ∧ i = j := by
  obtain ⟨p, o, t, u, n, rfl, ho, _, hd⟩ := a
  obtain ⟨p', o', t', u', n', e, ho', _, hd'⟩ := b
  cases e
  rw [ho] at ho'
  cases ho'
  rw [hd] at hd'
  injection hd' with h1 _
  have h2 := congrArg Array.toList h1
  simp at h2
  exact ⟨h2.1.1, h2.2.1⟩
section
variable {prog : Program} {w : World} {A : Around} {E : Value → Shared → Prop} {s : Shared}
theorem si_cmp {vs : List Value} {k : Value → Str × Int} (hp : ∀ v ∈ vs, IsSI s.heap v (k v).1 (k v).2) : SrtO.Cmp prog w A s (tuples' true) (fun p => p.1 ∈ vs) (SrtO.lt2 fun v u => ltSI (k v) (k u)) := by
  intro p q hm hm'
  have h1 := hp _ hm
  have h2 := hp _ hm'
  show wpAny (model prog w) A (keyLt' (tuples' true) p.1 q.1) (fun r s' => s' = s ∧ r = ltSI (k p.1) (k q.1)) (fun _ _ => False) s
  generalize k p.1 = kp at h1 ⊢
  generalize k q.1 = kq at h2 ⊢
  obtain ⟨x, y⟩ := kp
  obtain ⟨x', y'⟩ := kq
  obtain ⟨a, o, t, u, n, e, ho, hc, hd⟩ := h1
  obtain ⟨a', o', t', u', n', e', ho', hc', hd'⟩ := h2
  rw [e, e']
  refine PySem.W.kat_lt ho hd ho' hd' ?_
  show PySem.W.KatLex prog w A true (decide (2 < 2)) _ [(.str x t, .str x' t'), (.int y u, .int y' u')] 0 s
  refine PySem.W.kat_cons (SeqAt.EqAt.str_str x t x' t' prog w _ _ ?_)
  refine PySem.W.kat_go (fun e1 => ?_) (fun e1 => ?_)
  · have ex : x = x' := by simpa using e1
    refine PySem.W.kat_yes (PySem.W.kat_cons (SeqAt.EqAt.int_int y u y' u' prog w _ _ ?_))
    refine PySem.W.kat_go (fun e2 => ?_) (fun e2 => ?_)
    · have ey : y = y' := by simpa using e2
      refine PySem.W.kat_yes (PySem.W.kat_nil ⟨rfl, ?_⟩)
      rw [ex, ey]
      exact (ltSI_no.mpr (.inl ⟨rfl, Int.le_refl _⟩)).symm
    · refine PySem.W.kat_no (PySem.W.kat_one _ _ (PyProof.Rows.lt_int ?_))
      refine (show s = s ∧ decide (y < y') = ltSI (x, y) (x', y') from ⟨rfl, ?_⟩)
      unfold ltSI
      rw [if_pos ex]
  · have ex : ¬ x = x' := by simpa using e1
    refine PySem.W.kat_no (PyProof.Rows.oneLt_str ⟨rfl, ?_⟩)
    unfold ltSI
    rw [if_neg ex]
theorem si_firsts : ∀ vs : List Value, (∀ v ∈ vs, ∃ x i, IsSI s.heap v x i) → ∃ fs, PySem.W.KatTups s.heap vs fs ∧ fs.length = vs.length ∧ ∀ f ∈ fs, ∃ x t, f = Value.str x t
  | [], _ => ⟨[], .nil, rfl, fun _ h => nomatch h⟩
  | v :: vs, h => by
    obtain ⟨fs, k, hl, hi⟩ := si_firsts vs fun u hu => h u (by simp [hu])
    obtain ⟨x, i, a, o, t, u, n, rfl, ho, hc, hd⟩ := h v (by simp)
    refine ⟨.str x t :: fs, .cons ho hc hd rfl k, by simp [hl], fun f hf => ?_⟩
    rcases List.mem_cons.mp hf with rfl | hf
    · exact ⟨x, t, rfl⟩
    · exact hi f hf
theorem si_sortable {a : Addr} {vs : List Value} {k : Value → Str × Int} (h0 : 0 < vs.length) (hp : ∀ v ∈ vs, IsSI s.heap v (k v).1 (k v).2) (ha : ∀ o, s.heap.get? a = some o → o.cls ≠ .type "tuple") : SrtO.SortableO prog w A s a vs fun v u => ltSI (k v) (k u) := by
  intro h' keep
  have hp' : ∀ v ∈ vs, IsSI h' v (k v).1 (k v).2 := fun v hm => by
    obtain ⟨p, o, t, u, n, e, ho, hc, hd⟩ := hp v hm
    exact ⟨p, o, t, u, n, e, keep p o (fun z => by subst z; exact ha o ho hc) ho, hc, hd⟩
  obtain ⟨fs, h1, h2, h3⟩ := si_firsts (s := { s with heap := h' }) vs fun v hm => ⟨_, _, hp' v hm⟩
  refine ⟨tuples' true, fun Q E hq => ?_, si_cmp hp'⟩
  refine PySem.W.kat_kind (T := .type "str") h1 (by omega) (fun f hm => ?_) (by rfl) ?_
  · obtain ⟨x, t, rfl⟩ := h3 f hm
    exact PySem.W.Looks.now
  · have e : (Value.type "str" != Value.type "tuple") = true := by first | decide +kernel | rfl | decide
    rw [e]
    exact hq
end
section
variable {X : Cx}
def rItemsK : V → List V → Hp → VK → Prop := fun x xs H Q => ∃ (a : Addr) (kvs : List (L2.Key × V)), x = .ref a ∧ xs = [] ∧ H a = some (.dK kvs) ∧ ∀ p, H p = none → Q (.ref p) (upd H p (DX.itemsO p a))
theorem mt_itemsK : MtR X "dict.items" rItemsK := by
  intro pins s σ H x xs v us Q I rx rxs h
  obtain ⟨a, kvs, rfl, rfl, ha, q⟩ := h
  cases rx
  cases rxs
  obtain ⟨_, hd, _, _, o, es, ep, ho, hx, hdat, _⟩ := dk_of I.hok ha
  refine DT.callItems (es := es) (ep := ep) hd ⟨o, ho, hx, hdat⟩ ?_
  have hf : H s.heap.objs.size = none := I.hok.fresh (Nat.le_refl _)
  exact ⟨.ref s.heap.objs.size, _, I.laid (t' := s.toks) (fun b u e => Heap.get?_push_of_some _ e) (Nat.le_refl _) (DX.itemsO_ok (Heap.get?_push_size _ rfl)), rfl, q _ hf⟩
theorem pairs_at {P : Program} {w : World} : ∀ {es : List DictEntry} {vs : List (L2.Key × Value)}, Pairs (mixKind P w) es vs → ∀ (j : Nat), (∀ e, es[j]? = some e → ∃ kv, vs[j]? = some kv ∧ keyIs kv.1 e.key = true ∧ e.val = kv.2) ∧ es.length = vs.length
  | _, _, .nil, j => ⟨fun e h => by simp at h, rfl⟩
  | _, _, .cons h1 h2 h3, 0 => ⟨fun e h => by
      simp at h
      subst h
      exact ⟨_, rfl, h1, h2⟩, by simp [(pairs_at h3 0).2]⟩
  | _, _, .cons h1 h2 h3, j + 1 => ⟨fun e h => by
      obtain ⟨kv, a, b⟩ := (pairs_at h3 j).1 e (by simpa using h)
      exact ⟨kv, by simpa using a, b⟩, by simp [(pairs_at h3 0).2]⟩
abbrev rowK (r : Str × Int) : L2.Key × V := (Sum.inr r.1, .int r.2)
def rSortSI : List V → Hp → VK → Prop := fun xs H Q => ∃ (p a : Addr) (rows : List (Str × Int)), xs = [.ref p] ∧ H p = some (DX.itemsO p a) ∧ H a = some (.dK (rows.map rowK)) ∧
  ∀ (H' : Hp) (l : Addr) (ps : List (Addr × Str × Int)), (∀ b o, H b = some o → H' b = some o) → H l = none → (ps.map (·.2)).Perm rows → (ps.map (·.2)).Pairwise (fun e f => e.1.cps.toList < f.1.cps.toList) → H' l = some (.lst (ps.map fun z => V.ref z.1)) →
    (∀ z ∈ ps, H' z.1 = some (.tup [.str z.2.1, .int z.2.2])) → Q (.ref l) H'
theorem cr_sortSI (hc : X.calm = true) : CallR X (.builtin "sorted") rSortSI := by
  intro pins s σ H xs us Q I r h
  obtain ⟨p, a, rows, rfl, hp, ha, q⟩ := h
  obtain rfl := Vals.ref1 r
  have view : s.heap.IsItemsView p a := (show ObjOk X.prog X.w H s.heap p (DX.itemsO p a) from I.hok p _ hp).1
  obtain ⟨z, hd, vs', kv, o, es, ep, ho, hx, hdat, _, hpr, hnd⟩ := dk_of I.hok ha
  have l1 : (rows.map rowK).length = vs'.length := Paired.length kv
  rw [List.length_map] at l1
  have l2 : es.size = vs'.length := by
    have := (pairs_at hpr 0).2
    simpa using this
  rw [List.length_map] at z
  have hh : X.A.handled = none := I.ok.hd hc
  refine DT.sortedI (es := es) (ep := ep) hh view ⟨o, ho, hx, hdat⟩ (by omega) fun h' tk as hk hlt hl hG => ?_
  have lak : as.length = rows.length := by omega
  have nd : as.Nodup := List.Pairwise.imp (fun h => Nat.ne_of_lt h) hG.rise
  have pr : ∀ (j : Nat) (b : Addr), as[j]? = some b → ∃ (e : Str × Int), rows[j]? = some e ∧ IsSI h' (.ref b) e.1 e.2 ∧ ∃ t u, h'.get? b = some { cls := .type "tuple", data := .seq #[.str e.1 t, .int e.2 u] } := by
    intro j b hj
    obtain ⟨en, he, hg⟩ := hG.pairs j b hj
    obtain ⟨kq, h1, h2, h3⟩ := (pairs_at hpr j).1 en (by rw [Array.getElem?_toList]; exact he)
    obtain ⟨x, hx1, hx2, hx3⟩ := DX.pget kv h1
    rw [List.getElem?_map] at hx1
    obtain ⟨e, e1, rfl⟩ := Option.map_eq_some_iff.mp hx1
    rw [← hx2] at h2
    obtain ⟨t, e2⟩ : ∃ t, en.key = Value.str e.1 t := by
      rcases keyIs_shape h2 with ⟨i, t, z, _⟩ | ⟨y, t, z1, z2⟩
      · cases z
      · cases z1
        exact ⟨t, z2⟩
    obtain ⟨u, e3⟩ : ∃ u, en.val = Value.int e.2 u := by
      rw [h3]
      obtain ⟨u, hu⟩ := (show ∃ u, kq.2 = Value.int e.2 u from hx3)
      exact ⟨u, hu⟩
    rw [e2, e3] at hg
    exact ⟨e, e1, ⟨b, _, t, u, 0, rfl, hg, rfl, rfl⟩, t, u, hg⟩
  have hob : (h'.push { cls := .type "list", data := .seq (as.map Value.ref).toArray }).get? h'.objs.size = some (seqObj "list" (as.map Value.ref).toArray 0) := Heap.get?_push_size _ rfl
  have ka : ∀ b o, h'.get? b = some o → (h'.push { cls := .type "list", data := .seq (as.map Value.ref).toArray }).get? b = some o := fun b o e => Heap.get?_push_of_some _ e
  have ne0 : ∀ b o, h'.get? b = some o → b ≠ h'.objs.size := fun b o e => Nat.ne_of_lt (Heap.lt_size e)
  generalize h'.push { cls := .type "list", data := .seq (as.map Value.ref).toArray } = h2 at hob ka ⊢
  have kb : ∀ b o, s.heap.get? b = some o → h2.get? b = some o := fun b o e => ka _ _ (hk b o e)
  obtain ⟨k, hkv⟩ : ∃ k : Value → Str × Int, ∀ (j : Nat) (b : Addr), as[j]? = some b → some (k (.ref b)) = rows[j]? := by
    refine ⟨fun v => match v with | .ref b => (rows[as.idxOf b]?).getD ("", 0) | _ => ("", 0), fun j b hj => ?_⟩
    have hjl : j < as.length := (List.getElem?_eq_some_iff.mp hj).1
    have hjb : as[j] = b := (List.getElem?_eq_some_iff.mp hj).2
    have e : as.idxOf b = j := by
      rw [← hjb]
      exact List.Nodup.idxOf_getElem nd j hjl
    dsimp only
    rw [e, List.getElem?_eq_getElem (by omega : j < rows.length)]
    rfl
  have isS : ∀ v ∈ as.map Value.ref, IsSI h2 v (k v).1 (k v).2 := by
    intro v hv
    obtain ⟨b, hb, rfl⟩ := List.mem_map.mp hv
    obtain ⟨j, hj⟩ := List.mem_iff_getElem?.mp hb
    obtain ⟨e, he, ⟨b', o, t, u, n, eb, hg, hc', hd'⟩, _⟩ := pr j b hj
    have := hkv j b hj
    rw [he] at this
    rw [Option.some.inj this]
    exact ⟨b', o, t, u, n, eb, ka _ _ hg, hc', hd'⟩
  refine wpAny_call_entry PyProof.Rows.slot_list_sort ⟨_, hob, rfl⟩ PyProof.Rows.entry_list_sort
    (SrtO.list_sort_ord (s := { s with heap := h2, toks := tk }) (swo_SI k) hob (by rw [List.length_map]; omega) (fun h2l => si_sortable (by omega) isS fun o e => ?_) fun out o1 o2 => ⟨.none, rfl, ?_⟩) (PyProof.Rows.args_list_sort _)
  · have e' : h2.get? h'.objs.size = some o := e
    rw [hob] at e'
    cases e'
    exact fun z => absurd (Value.type.inj z) (by decide)
  · show EP X pins σ Q (.ref h'.objs.size) { s with heap := sortedHeap h2 h'.objs.size (as.map Value.ref) out.toArray, toks := tk }
    have hperm := o2.perm
    obtain ⟨bs, pb, eb⟩ := perm_lift Value.ref hperm as rfl
    subst eb
    have idx : ∀ b ∈ bs, ∃ j : Nat, as[j]? = some b ∧ rows[j]? = some (k (.ref b)) := by
      intro b hb
      obtain ⟨j, hj⟩ := List.mem_iff_getElem?.mp (pb.mem_iff.mp hb)
      exact ⟨j, hj, (hkv j b hj).symm⟩
    have e0 : as.map (fun b => k (.ref b)) = rows := by
      refine List.ext_getElem? fun j => ?_
      rw [List.getElem?_map]
      cases hj : as[j]? with
      | none =>
        have : rows.length ≤ j := by
          rw [← lak]
          exact List.getElem?_eq_none_iff.mp hj
        rw [List.getElem?_eq_none this]
        rfl
      | some b => exact hkv j b hj
    have pRows : ((bs.map fun b => (b, k (.ref b))).map (·.2)).Perm rows := by
      rw [List.map_map, ← e0]
      exact pb.map _
    have nodupK : (rows.map (·.1)).Nodup := by
      have e9 : vs'.map (·.1) = (rows.map (·.1)).map Sum.inr := by
        have : ∀ {l : List (L2.Key × V)} {m : List (L2.Key × Value)}, KV l m → m.map (·.1) = l.map (·.1) := by
          intro l m hK
          induction hK with
          | nil => rfl
          | cons h _ ih => rw [List.map_cons, List.map_cons, ih, h.1]
        rw [this kv, List.map_map, List.map_map]
        rfl
      rw [e9] at hnd
      exact (List.pairwise_map.mp hnd).imp fun h z => h (by rw [z])
    have sRows : ((bs.map fun b => (b, k (.ref b))).map (·.2)).Pairwise (fun e f => e.1.cps.toList < f.1.cps.toList) := by
      have n2 : ((bs.map fun b => (b, k (.ref b))).map (·.2)).Pairwise (fun e f => e.1 ≠ f.1) := by
        have := (pRows.map (·.1)).nodup_iff.mpr nodupK
        exact List.pairwise_map.mp this
      have n1 : ((bs.map fun b => (b, k (.ref b))).map (·.2)).Pairwise (fun e f => ltSI f e = false) := by
        rw [List.map_map, List.pairwise_map]
        exact List.pairwise_map.mp o1
      refine (n1.and n2).imp fun {e f} h => ?_
      rcases ltSI_no.mp h.1 with z | z
      · exact absurd z.1.symm h.2
      · exact z
    have kF : ∀ b o, b ≠ h'.objs.size → h2.get? b = some o → (sortedHeap h2 h'.objs.size (as.map Value.ref) (bs.map Value.ref).toArray).get? b = some o := fun b o hb e => (PyProof.Rows.sortedHeap_old hb (Heap.lt_size e)).trans e
    have kS : ∀ b o, s.heap.get? b = some o → (sortedHeap h2 h'.objs.size (as.map Value.ref) (bs.map Value.ref).toArray).get? b = some o := fun b o e => kF b o (ne0 _ _ (hk b o e)) (kb b o e)
    obtain ⟨eF, heF⟩ := PyProof.Rows.sortedHeap_at (vs := as.map Value.ref) (out := (bs.map Value.ref).toArray) hob
    have I1 : Inv X pins σ H { s with heap := sortedHeap h2 h'.objs.size (as.map Value.ref) (bs.map Value.ref).toArray, toks := tk } := I.kept (t' := tk) kS
    have hn0 : H h'.objs.size = none := I.hok.fresh (Nat.le_of_lt hlt)
    have hlen : (bs.map V.ref).length ≤ sizeLine := by
      rw [List.length_map, pb.length_eq]
      omega
    have rv : Vals (bs.map V.ref) (bs.map Value.ref) := vals_refs bs
    have I2 : Inv X pins σ (upd H h'.objs.size (.lst (bs.map V.ref))) { s with heap := sortedHeap h2 h'.objs.size (as.map Value.ref) (bs.map Value.ref).toArray, toks := tk } :=
      I1.take (h' := sortedHeap h2 h'.objs.size (as.map Value.ref) (bs.map Value.ref).toArray) (t' := tk) (fun b ob _ e => e) (I.fpOk (Nat.le_of_lt hlt) hn0) ⟨hlen, bs.map Value.ref, eF, rv, heF⟩
    obtain ⟨H2, I3, g, qt⟩ := DX.takeT (P := fun b vs => vs = [.str (k (.ref b)).1, .int (k (.ref b)).2]) I as _ I2 nd fun b hb => by
      obtain ⟨j, hj⟩ := List.mem_iff_getElem?.mp hb
      obtain ⟨e, he, _, t, u, hg⟩ := pr j b hj
      have ek : k (.ref b) = e := by
        have := hkv j b hj
        rw [he] at this
        exact Option.some.inj this
      have hbl : s.heap.objs.size ≤ b := Nat.le_of_lt (hG.above b hb)
      refine ⟨hbl, ?_, _, rfl, fun H3 => ⟨(by show 2 ≤ sizeLine; decide), [Value.str e.1 t, Value.int e.2 u], ?_, ⟨_, kF _ _ (ne0 _ _ hg) (ka _ _ hg), rfl, 0, rfl⟩⟩⟩
      · rw [upd_ne (ne0 _ _ hg)]
        exact I.hok.fresh hbl
      · rw [ek]
        exact .cons ⟨t, rfl⟩ (.cons ⟨u, rfl⟩ .nil)
    have gr : ∀ b o, H b = some o → H2 b = some o := fun b o e => g b o (by rw [upd_ne (ne_of_none e hn0)]; exact e)
    refine ⟨.ref h'.objs.size, H2, I3, rfl, q H2 h'.objs.size (bs.map fun b => (b, k (.ref b))) gr hn0 pRows sRows ?_ fun z' hz' => ?_⟩
    · rw [List.map_map]
      exact g _ _ upd_same
    · obtain ⟨b, hb, rfl⟩ := List.mem_map.mp hz'
      obtain ⟨vs, ev, hH⟩ := qt b (pb.mem_iff.mp hb)
      rw [hH, ev]
end
end Fm
namespace Fm
open PySem PySem.Spec PyProof.Rows L2
structure KOrd (prog : Program) (w : World) (keys : List Value) (ltk : Value → Value → Bool) : Prop where
  swo : SrtO.Swo ltk
  kind : 2 ≤ keys.length → keyKind' keys.toArray = pure oneType'
  cmp : ∀ A s, SrtO.Cmp prog w A s oneType' (fun p => p.1 ∈ keys) (SrtO.lt2 ltk)
theorem kord_ints {prog : Program} {w : World} {keys : List Value} {ns : List Int} (h : IntsAre keys ns) : KOrd prog w keys SrtO.ltIv := by
  refine ⟨SrtO.swo_int, fun h2 => ?_, fun A s => SrtO.int_cmp h⟩
  match keys, h, h2 with
  | v1 :: v2 :: rest, h, _ => exact keyKind_ints h
  | [], _, h => exact absurd h (by decide)
  | [v], _, h => exact absurd h (by simp)
def sv : Value → List Nat
  | .str x _ => x.cps.toList
  | _ => []
def ltSv (v u : Value) : Bool := decide (sv v < sv u)
theorem swo_str : SrtO.Swo ltSv := by
  refine ⟨fun x y h => ?_, fun x y z h1 h2 => ?_⟩
  · have a := of_decide_eq_true (p := sv x < sv y) h
    exact decide_eq_false (p := sv y < sv x) (List.lt_asymm a)
  · have a := of_decide_eq_false (p := sv y < sv x) h1
    have b := of_decide_eq_false (p := sv z < sv y) h2
    exact decide_eq_false (p := sv z < sv x) (List.not_lt.mpr (List.le_trans (List.not_lt.mp a) (List.not_lt.mp b)))
theorem strs_mem : ∀ {vs : List Value} {ns : List Str}, StrsAre vs ns → ∀ v ∈ vs, ∃ i t, v = Value.str i t
  | _, _, .nil, v, h => absurd h (by simp)
  | _, _, .cons n t r, v, h => by
    rcases List.mem_cons.mp h with e | h
    · exact ⟨n, t, e⟩
    · exact strs_mem r v h
theorem kord_strs {prog : Program} {w : World} {keys : List Value} {ns : List Str} (h : StrsAre keys ns) : KOrd prog w keys ltSv := by
  refine ⟨swo_str, fun h2 => ?_, fun A s p q hm hm' => ?_⟩
  · match keys, h, h2 with
    | v1 :: v2 :: rest, h, _ => exact keyKind_strs h
    | [], _, h => exact absurd h (by decide)
    | [v], _, h => exact absurd h (by simp)
  · obtain ⟨a, t, e⟩ := strs_mem h _ hm
    obtain ⟨b, u, e'⟩ := strs_mem h _ hm'
    show wpAny (model prog w) A (keyLt' oneType' p.1 q.1) (fun r s' => s' = s ∧ r = ltSv p.1 q.1) (fun _ _ => False) s
    rw [e, e', keyLt'_oneType]
    exact oneLt_str ⟨rfl, rfl⟩
section
variable {prog : Program} {w : World} {A : Around} {E : Value → Shared → Prop} {s : Shared}
theorem key_tail {a kS : Addr} {e e1 : Nat} {vs keys : List Value} {st : SortSt} {R : PySem.Fin → Shared → Prop} (hl : keys.length = vs.length) (hz : vs.length ≤ sizeLine) (hka : kS ≠ a)
    (hk : s.heap.get? kS = some (seqObj "list" keys.toArray e)) (ha : s.heap.get? a = some (seqObj "list" #[] e1)) (hp : (arrOf st).toList.Perm (keys.zip vs)) (hfl : failedOf st = none)
    (h : ∀ hm h' : Heap, (∀ b o, b ≠ kS → s.heap.get? b = some o → hm.get? b = some o) → (∃ n, hm.get? kS = some (seqObj "list" #[] n)) → (∀ b o, b ≠ a → hm.get? b = some o → h'.get? b = some o) → (∃ n, h'.get? a = some (seqObj "list" ((arrOf st).toList.map (·.2)).toArray n)) → R (.done (.ret .none)) { s with heap := h' }) :
    wpAny (model prog w) A (ksk_tail a false e1 (.ref kS) st) R E s := by
  have hsz2 : (arrOf st).size = vs.length := by
    rw [← Array.length_toList, hp.length_eq, List.length_zip]
    omega
  have s1 := Heap.SameBut.update s.heap kS (Obj.mapSeq fun _ => (#[] : Array Value))
  have ha1 : (s.heap.update kS (Obj.mapSeq fun _ => (#[] : Array Value))).get? a = some (seqObj "list" #[] e1) := (s1.2 a hka.symm).trans ha
  have s2 := Heap.SameBut.update (s.heap.update kS (Obj.mapSeq fun _ => (#[] : Array Value))) a (Obj.mapSeq fun _ => (arrOf st).map (·.2))
  obtain ⟨c2, hc2⟩ : ∃ c2, ((s.heap.update kS (Obj.mapSeq fun _ => (#[] : Array Value))).update a (Obj.mapSeq fun _ => (arrOf st).map (·.2))).get? a = some (seqObj "list" ((arrOf st).map (·.2)) c2) := ⟨_, get?_update_seq ha1 fun _ => (arrOf st).map (·.2)⟩
  unfold ksk_tail
  try dsimp only
  refine wpAny_bind (listUpdate_at hk rfl ?_ (by rw [List.size_toArray, hl]; exact hz) (Nat.zero_le _))
  refine wpAny_bind (wpAny_letGo ?_)
  refine wpAny_bind (seqEpoch_at ha1 rfl ?_)
  refine wpAny_bind (listUpdate_at ha1 rfl ?_ (Nat.zero_le _) (by simp only [Bool.false_eq_true, if_false, Array.size_map]; omega))
  rw [hfl]
  simp only [bne_self_eq_false, Bool.false_eq_true, if_false]
  refine wpAny_pure (h _ _ (fun b o hb2 z => (s1.2 b hb2).trans z) ⟨_, get?_update_seq hk fun _ => #[]⟩ (fun b o hb z => (s2.2 b hb).trans z) ⟨c2, ?_⟩)
  rw [hc2, ← Array.toList_map, Array.toArray_toList]
theorem key_end {a kS : Addr} {e e1 : Nat} {vs keys : List Value} {ltk : Value → Value → Bool} {R : PySem.Fin → Shared → Prop} (O : KOrd prog w keys ltk) (hl : keys.length = vs.length) (hz : vs.length ≤ sizeLine) (hka : kS ≠ a)
    (hk : s.heap.get? kS = some (seqObj "list" keys.toArray e)) (ha : s.heap.get? a = some (seqObj "list" #[] e1))
    (h : ∀ (hm h' : Heap) (out : List Keyed), SrtO.Srtd (SrtO.lt2 ltk) out → out.Perm (keys.zip vs) → (∀ b o, b ≠ kS → s.heap.get? b = some o → hm.get? b = some o) → (∃ n, hm.get? kS = some (seqObj "list" #[] n)) → (∀ b o, b ≠ a → hm.get? b = some o → h'.get? b = some o) → (∃ n, h'.get? a = some (seqObj "list" (out.map (·.2)).toArray n)) → R (.done (.ret .none)) { s with heap := h' }) :
    wpAny (model prog w) A (ksk_end a false vs.toArray e1 (.ref kS) keys.toArray) R E s := by
  have hzl : (keys.toArray.zip vs.toArray).toList = keys.zip vs := by simp
  unfold ksk_end
  try dsimp only
  simp only [Bool.false_eq_true, if_false]
  by_cases h2 : vs.toArray.size < 2
  · rw [if_pos h2, if_pos h2]
    refine wpAny_bind (wpAny_pure ?_)
    rw [StateT.run_pure]
    refine wpAny_bind (wpAny_pure ?_)
    try dsimp only
    refine key_tail (st := SortSt.mk' general' (keys.toArray.zip vs.toArray) #[] 7 none) hl hz hka hk ha (by show (keys.toArray.zip vs.toArray).toList.Perm _; rw [hzl]) rfl fun hm h' k1 k2 k3 k4 => h hm h' _ ?_ ?_ k1 k2 k3 k4
    · show List.Pairwise _ (keys.toArray.zip vs.toArray).toList
      rw [hzl]
      rw [List.size_toArray] at h2
      match keys, vs, hl, h2 with
      | [], [], _, _ => exact List.Pairwise.nil
      | [x], [y], _, _ => exact List.pairwise_singleton _ _
      | _ :: _ :: _, _ :: _ :: _, _, h2 => exact absurd h2 (by simp)
    · show (keys.toArray.zip vs.toArray).toList.Perm _
      rw [hzl]
  · rw [if_neg h2, if_neg h2]
    rw [List.size_toArray] at h2
    rw [O.kind (by omega)]
    refine wpAny_bind (wpAny_pure ?_)
    have hall : SrtO.AllL (fun p : Keyed => p.1 ∈ keys) (keys.toArray.zip vs.toArray).toList := fun p hm => by
      rw [hzl] at hm
      exact (List.of_mem_zip (show (p.1, p.2) ∈ keys.zip vs from hm)).1
    refine wpAny_bind (wpAny_mono (SrtO.wpS_sortO (st0 := SortSt.mk' oneType' (keys.toArray.zip vs.toArray) #[] 7 none)
      (Q := fun _ st' => SrtO.Srtd (SrtO.lt2 ltk) (arrOf st').toList ∧ SrtO.Stb (SrtO.lt2 ltk) (arrOf st').toList (keys.toArray.zip vs.toArray).toList ∧ failedOf st' = none) (SrtO.swo2 O.swo) (O.cmp A s) rfl hall rfl rfl fun st' a1 a2 a3 => ⟨a1, a2, a3⟩) ?_ fun _ _ e => e)
    rintro ⟨⟨⟩, st'⟩ s' ⟨rfl, hp1, hp2, hf⟩
    try dsimp only
    have hp3 := hp2.perm
    rw [hzl] at hp3
    exact key_tail hl hz hka hk ha hp3 hf fun hm h' k1 k2 k3 k4 => h hm h' _ hp1 hp3 k1 k2 k3 k4
end
def ltV : V → V → Bool
  | .int i, .int j => decide (i < j)
  | .str x, .str y => decide (x.cps.toList < y.cps.toList)
  | _, _ => false
def KeysV (ks : List V) : Prop := (∃ ns : List Int, ks = ns.map V.int) ∨ (∃ xs : List Str, ks = xs.map V.str)
theorem strs_of_vals : ∀ {xs : List Str} {us : List Value}, Vals (xs.map V.str) us → StrsAre us xs
  | [], _, h => by
    cases h
    exact .nil
  | x :: xs, _, h => by
    cases h with
    | cons r t =>
      obtain ⟨k, rfl⟩ := (show ∃ k, _ = Value.str x k from r)
      exact .cons x k (strs_of_vals t)
theorem kord_of {prog : Program} {w : World} {ks : List V} {us : List Value} (h : KeysV ks) (r : Vals ks us) : ∃ ltk, KOrd prog w us ltk ∧ ∀ (i j : Nat) (k l : V) (u v : Value), ks[i]? = some k → ks[j]? = some l → RelV k u → RelV l v → ltk u v = ltV k l := by
  rcases h with ⟨ns, rfl⟩ | ⟨xs, rfl⟩
  · refine ⟨SrtO.ltIv, kord_ints r.ints, fun i j k l u v hk hl ru rv => ?_⟩
    rw [List.getElem?_map] at hk hl
    obtain ⟨n, _, rfl⟩ := Option.map_eq_some_iff.mp hk
    obtain ⟨m, _, rfl⟩ := Option.map_eq_some_iff.mp hl
    obtain ⟨t, rfl⟩ := (show ∃ t, u = Value.int n t from ru)
    obtain ⟨t', rfl⟩ := (show ∃ t, v = Value.int m t from rv)
    rfl
  · refine ⟨ltSv, kord_strs (strs_of_vals r), fun i j k l u v hk hl ru rv => ?_⟩
    rw [List.getElem?_map] at hk hl
    obtain ⟨n, _, rfl⟩ := Option.map_eq_some_iff.mp hk
    obtain ⟨m, _, rfl⟩ := Option.map_eq_some_iff.mp hl
    obtain ⟨t, rfl⟩ := (show ∃ t, u = Value.str n t from ru)
    obtain ⟨t', rfl⟩ := (show ∃ t, v = Value.str m t from rv)
    rfl
section
variable {X : Cx} {n : Nat} {f : Addr} {sp : Sp}
def rSortK (K : PySem.W.Frag) (f : Addr) (sp : Sp) : List V → List V → Hp → VK → Prop := fun vs zs H Q => ∃ (a : Addr) (xs ks : List V), vs = [.ref a] ∧ zs = [.ref f] ∧ (SqL K H a xs ∨ SqT K H a xs) ∧ ks.length = xs.length ∧ KeysV ks ∧
  (∀ (i : Nat) (x k : V), xs[i]? = some x → ks[i]? = some k → ∀ Q' : VK, Q' k H → sp [x] H Q' E0) ∧
  ∀ (ps : List (V × V)) (p : Addr) (H' : Hp), ps.Perm (ks.zip xs) → ps.Pairwise (fun p q => ltV q.1 p.1 = false) → H p = none → (∀ b o, H b = some o → H' b = some o) → H' p = some (.lst (ps.map (·.2))) → Q (.ref p) H'
theorem key_loop {pins : List (Addr × Obj)} {s : Shared} {σ : L2.St} {H : Hp} {a kS : Addr} {e1 : Nat} {xs ks : List V} {us : List Value} {R : PySem.Fin → Shared → Prop} {A : Around} {E : Value → Shared → Prop}
    (F : FnR X.prog X.w X.K X.mg X.base CX0 n f sp) (hA : A = X.A.in1.in1) (hr : Room n A) (hx : Passes CX0 X E0) (hl : ks.length = xs.length) (hv : Vals xs us) (hz : xs.length ≤ sizeLine)
    (hsp : ∀ (i : Nat) (x k : V), xs[i]? = some x → ks[i]? = some k → ∀ Q' : VK, Q' k H → sp [x] H Q' E0) (hka : kS ≠ a) (fa : FpOk X pins H a) (fk : FpOk X pins H kS)
    (I : Inv X (pins ++ [(kS, seqObj "list" #[] 0), (a, seqObj "list" #[] e1)]) σ H s)
    (h : ∀ (s' : Shared) (keys : List Value) (e : Nat), Inv X (pins ++ [(kS, seqObj "list" keys.toArray e), (a, seqObj "list" #[] e1)]) σ H s' → Vals ks keys → wpAny (model X.prog X.w) A (ksk_end a false us.toArray e1 (.ref kS) keys.toArray) R E s') :
    wpAny (model X.prog X.w) A (ksk_rest a (.ref f) false us.toArray e1 (.ref kS)) R E s := by
  have hlu : us.length = xs.length := hv.length.symm
  unfold ksk_rest
  refine wpAny_bind (wpAny_rule ?_)
  rw [List.forIn_toArray]
  refine wpAny_bind (ksk_fold (fun i s' => ∃ (kA : List Value) (e : Nat), Inv X (pins ++ [(kS, seqObj "list" kA.toArray e), (a, seqObj "list" #[] e1)]) σ H s' ∧ Vals (ks.take i) kA) us 0 s ⟨[], 0, I, by simpa using Paired.nil⟩ ?step ?done)
  case step =>
    rintro j x s' hx' ⟨kA, e, I', hk⟩
    simp only [Nat.zero_add] at hk ⊢
    have hj : j < us.length := (List.getElem?_eq_some_iff.mp hx').1
    obtain ⟨k, hkj⟩ : ∃ k, ks[j]? = some k := ⟨_, List.getElem?_eq_getElem (by omega)⟩
    obtain ⟨xv, hxj, rx⟩ : ∃ xv, xs[j]? = some xv ∧ RelV xv x := by
      have hjx : j < xs.length := by omega
      obtain ⟨u, hu, ru⟩ := hv.get (List.getElem?_eq_getElem hjx)
      rw [hx'] at hu
      cases hu
      exact ⟨_, List.getElem?_eq_getElem hjx, ru⟩
    have e0 : Env0 X.prog X.w X.K X.mg X.base A X.stack s' H := by
      rw [hA]
      exact I'.env0.in1.in1
    have hc : codeAny (model X.prog X.w) A (.call (.ref f) ⟨[x], []⟩) (fun r s'' => match r with | .ok (.ret u) => EP X (pins ++ [(kS, seqObj "list" kA.toArray e), (a, seqObj "list" #[] e1)]) σ (fun v H' => v = k ∧ H' = H) u s'' | .ok _ => False | .error _ => False) s' := by
      refine codeAny_mono (F A X.stack s' H [x] [xv] (fun v H' => v = k ∧ H' = H) E0 hr e0 (.cons rx .nil) (hsp j xv k hxj hkj _ ⟨rfl, rfl⟩)) fun r s'' hq => ?_
      cases r with
      | error e => exact hq
      | ok fl =>
        cases fl with
        | ret u => exact I'.after hq
        | next => exact hq
        | brk => exact hq
        | cont => exact hq
    refine wpAny_bind (wpAny_attempt (wpAny_mono (wpAny_call (E := fun _ _ => False) hc) (fun u s'' he => ?_) fun _ _ hF => hF.elim))
    obtain ⟨v, H'', I2, ru, rfl, rfl⟩ := he
    obtain ⟨nk, hnk, k1, k2, k3⟩ := I2.pin (kS, seqObj "list" kA.toArray e) (by simp)
    obtain ⟨na, hna, a1, a2, a3⟩ := I2.pin (a, seqObj "list" #[] e1) (by simp)
    obtain ⟨g, gg, gd, gt, gos⟩ := s''
    have s1 := Heap.SameBut.update g kS (Obj.mapSeq (·.push u))
    obtain ⟨c2, hc2⟩ : ∃ c2, (g.update kS (Obj.mapSeq (·.push u))).get? kS = some (seqObj "list" (kA.toArray.push u) c2) := ⟨_, get?_update_seq nk (·.push u)⟩
    have hkl : kA.length ≤ xs.length := by
      have := hk.length
      rw [List.length_take] at this
      omega
    refine wpAny_bind (listUpdate_at nk rfl ?_ (by rw [List.size_toArray]; omega) (by rw [Array.size_push, List.size_toArray]; omega))
    have hpush : kA.toArray.push u = (kA ++ [u]).toArray := by simp
    refine wpAny_pure ⟨rfl, kA ++ [u], c2, ?_, ?_⟩
    · have I3 : Inv X pins σ H'' ⟨g, gg, gd, gt, gos⟩ := I2.unpinned
      obtain ⟨f0, f1, f2, f3, f4, f5⟩ := fk
      have I4 : Inv X pins σ H'' ⟨g.update kS (Obj.mapSeq (·.push u)), gg, gd, gt, gos⟩ := I3.turned (t' := gt) (fun b o hb z => (s1.2 b hb).trans z) f0 f1 f3 f4 f5
      refine I4.pins_of fun p hp => ?_
      rcases List.mem_append.mp hp with hp | hp
      · exact I4.pin p (List.mem_append_right _ hp)
      · rcases List.mem_cons.mp hp with rfl | hp
        · exact ⟨by rw [← hpush]; exact hc2, hnk, k1, k2, fun v z => nomatch z⟩
        · rw [List.mem_singleton.mp hp]
          exact ⟨(s1.2 a hka.symm).trans na, hna, a1, a2, fun v z => nomatch z⟩
    · rw [List.take_add_one, hkj]
      exact hk.append (.cons ru .nil)
  case done =>
    rintro s' ⟨kA, e, I', hk⟩
    have e3 : ks.take (0 + us.length) = ks := List.take_of_length_le (by omega)
    rw [e3] at hk
    obtain ⟨nk, _⟩ := I'.pin (kS, seqObj "list" kA.toArray e) (by simp)
    refine wpAny_bind (listItems_at nk rfl ?_)
    exact h s' kA e I' hk
theorem cr_sortKey (F : FnR X.prog X.w X.K X.mg X.base CX0 n f sp) (hr : Room (n + 2) X.A) : CallRK X (.builtin "sorted") [Str.ofString "key"] (rSortK X.K f sp) := by
  intro pins s σ H vs zs us ws Q I r rz h
  obtain ⟨a, xs, ks, rfl, rfl, hS, hl, hK, hsp, q⟩ := h
  obtain rfl := Vals.ref1 r
  obtain rfl := Vals.ref1 rz
  obtain ⟨its, rv, hz, T, o, m, hT, ho, hc, hd⟩ : ∃ its : List Value, Vals xs its ∧ xs.length ≤ sizeLine ∧ ∃ (T : String) (o : Obj) (m : Nat), (T = "list" ∨ T = "tuple") ∧ s.heap.get? a = some o ∧ o.cls = .type T ∧ o.data = .seq its.toArray m := by
    rcases hS with hS | hS
    · obtain ⟨its, rv, p, hz⟩ := I.list hS
      obtain ⟨o, ho, hc, m, hd⟩ := p.isList
      exact ⟨its, rv, hz, "list", o, m, .inl rfl, ho, hc, hd⟩
    · obtain ⟨its, rv, ⟨o, ho, hc, m, hd⟩, hz⟩ := I.tuple hS
      exact ⟨its, rv, hz, "tuple", o, m, .inr rfl, ho, hc, hd⟩
  have hil : its.length = xs.length := rv.length.symm
  refine call_function_entry_kw kind_sorted plain_sorted entry_sorted (ksk_s1 _ _) ?_
  unfold Builtin.«sorted»
  refine wpAny_bind (m := checkCount "sorted" 1 1 _) (wpAny_pure ?_)
  refine wpAny_bind (wpAny_collect_seq a hT ho hc hd (fun h1 k1 => ?_) (by rw [List.size_toArray]; omega))
  refine wpAny_bind (wpAny_newList ?_ (by rw [List.toList_toArray]; omega))
  rw [List.toList_toArray]
  have I1 : Inv X pins σ H { s with heap := h1 } := I.kept (t' := s.toks) k1
  have fa : FpOk X pins H h1.objs.size := I1.fpOk (Nat.le_refl _) (I1.hok.fresh (Nat.le_refl _))
  have hoL : (h1.push (seqObj "list" its.toArray 0)).get? h1.objs.size = some (seqObj "list" its.toArray 0) := Heap.get?_push_size _ rfl
  show wpAny _ _ _ _ _ { s with heap := h1.push (seqObj "list" its.toArray 0) }
  refine wpAny_bind (wpAny_holding (wpAny_call_entry_kw slot_list_sort ⟨_, hoL, rfl⟩ entry_list_sort ?_ (ksk_l1 _ _)))
  show wpAny _ _ (ksk_tree h1.objs.size (.ref f) false) _ _ _
  unfold ksk_tree
  refine wpAny_bind (listItems_at hoL rfl ?_)
  refine wpAny_bind (listUpdate_at hoL rfl ?_ (by rw [List.size_toArray]; omega) (Nat.zero_le _))
  obtain ⟨e1, ho1⟩ : ∃ e1, ((h1.push (seqObj "list" its.toArray 0)).update h1.objs.size (Obj.mapSeq fun _ => #[])).get? h1.objs.size = some (seqObj "list" #[] e1) := ⟨_, get?_update_seq hoL (fun _ => #[])⟩
  refine wpAny_bind (seqEpoch_at ho1 rfl ?_)
  refine wpAny_bind (wpAny_newTuple ?_ (by rw [List.toList_toArray]; omega))
  refine wpAny_bind (wpAny_newList ?_ (Nat.zero_le _))
  refine wpAny_holding ?_
  have k2 : ∀ b o, h1.get? b = some o → ((h1.push (seqObj "list" its.toArray 0)).update h1.objs.size (Obj.mapSeq fun _ => #[])).get? b = some o := fun b o z => by
    rw [Heap.get?_update_ne _ _ _ _ (Nat.ne_of_lt (Heap.lt_size z))]
    exact Heap.get?_push_of_some _ z
  have z2 : ((h1.push (seqObj "list" its.toArray 0)).update h1.objs.size (Obj.mapSeq fun _ => #[])).objs.size = h1.objs.size + 1 := by
    rw [Heap.size_update, Heap.size_push]
  generalize (h1.push (seqObj "list" its.toArray 0)).update h1.objs.size (Obj.mapSeq fun _ => #[]) = h2 at ho1 k2 z2 ⊢
  have hkS : ((h2.push (seqObj "tuple" its.toArray 0)).push (seqObj "list" #[] 0)).get? (h2.objs.size + 1) = some (seqObj "list" #[] 0) := by
    rw [show h2.objs.size + 1 = (h2.push (seqObj "tuple" its.toArray 0)).objs.size by rw [Heap.size_push]]
    exact Heap.get?_push_size _ rfl
  have k3 : ∀ b o, h2.get? b = some o → ((h2.push (seqObj "tuple" its.toArray 0)).push (seqObj "list" #[] 0)).get? b = some o := fun b o z => Heap.get?_push_of_some _ (Heap.get?_push_of_some _ z)
  show wpAny (model X.prog X.w) X.A.in1.in1 (ksk_rest h1.objs.size (.ref f) false its.toArray e1 (.ref (h2.push (seqObj "tuple" its.toArray 0)).objs.size)) _ _ { s with heap := (h2.push (seqObj "tuple" its.toArray 0)).push (seqObj "list" #[] 0) }
  rw [Heap.size_push]
  generalize (h2.push (seqObj "tuple" its.toArray 0)).push (seqObj "list" #[] 0) = h3 at hkS k3 ⊢
  have fk : FpOk X pins H (h2.objs.size + 1) := I1.fpOk (show h1.objs.size ≤ h2.objs.size + 1 by omega) (I1.hok.fresh (show h1.objs.size ≤ h2.objs.size + 1 by omega))
  have I3 : Inv X pins σ H { s with heap := h3 } := I1.kept (t' := s.toks) fun b o z => k3 _ _ (k2 _ _ z)
  have hka : h2.objs.size + 1 ≠ h1.objs.size := by omega
  have I4 : Inv X (pins ++ [(h2.objs.size + 1, seqObj "list" #[] 0), (h1.objs.size, seqObj "list" #[] e1)]) σ H { s with heap := h3 } := by
    refine I3.pins_of fun p hp => ?_
    rcases List.mem_append.mp hp with hp | hp
    · exact I3.pin p (List.mem_append_right _ hp)
    · rcases List.mem_cons.mp hp with rfl | hp
      · exact ⟨hkS, fk.1, fk.2.1, fk.2.2.1, fun v z => nomatch z⟩
      · rw [List.mem_singleton.mp hp]
        exact ⟨k3 _ _ ho1, fa.1, fa.2.1, fa.2.2.1, fun v z => nomatch z⟩
  refine key_loop F rfl (show Room n X.A.in1.in1 from (show Room (n + 1) X.A.in1 from Room.in1 hr).in1) pass0 hl rv hz hsp hka fa fk I4 fun s' keys e I5 rk => ?_
  obtain ⟨ltk, O, hlt⟩ := kord_of (prog := X.prog) (w := X.w) hK rk
  obtain ⟨nk, _⟩ := I5.pin (h2.objs.size + 1, seqObj "list" keys.toArray e) (by simp)
  obtain ⟨na, _⟩ := I5.pin (h1.objs.size, seqObj "list" #[] e1) (by simp)
  refine key_end O (by rw [← rk.length]; omega) (by omega) hka nk na fun hm h' out o1 o2 m1 m2 m3 m4 => ⟨_, rfl, wpAny_pure ⟨_, rfl, ?_⟩⟩
  obtain ⟨n1, m2⟩ := m2
  obtain ⟨n2, m4⟩ := m4
  obtain ⟨L, pL, eL⟩ := perm_lift (fun z : (V × V) × Keyed => z.2) o2 ((ks.zip xs).zip (keys.zip its)) (by rw [List.map_snd_zip]; simp only [List.length_zip]; have := rk.length; omega)
  have hrel : ∀ z ∈ L, RelV z.1.1 z.2.1 ∧ RelV z.1.2 z.2.2 ∧ ∃ i : Nat, ks[i]? = some z.1.1 := by
    intro z hz'
    obtain ⟨i, hi⟩ := List.mem_iff_getElem?.mp (pL.mem_iff.mp hz')
    obtain ⟨h1', h2'⟩ := List.getElem?_zip_eq_some.mp hi
    obtain ⟨a1, a2⟩ := List.getElem?_zip_eq_some.mp h1'
    obtain ⟨b1, b2⟩ := List.getElem?_zip_eq_some.mp h2'
    obtain ⟨u, c1, c2⟩ := rk.get a1
    rw [b1] at c1
    cases c1
    obtain ⟨u', d1, d2⟩ := rv.get a2
    rw [b2] at d1
    cases d1
    exact ⟨c2, d2, i, a1⟩
  have I6 : Inv X pins σ H s' := I5.unpinned
  have I7 : Inv X pins σ (upd H (h2.objs.size + 1) (.lst [])) { s' with heap := hm } := I6.take (h' := hm) (t' := s'.toks) (fun b o hb z => m1 b o hb z) fk ⟨Nat.zero_le _, [], n1, .nil, m2⟩
  have fa' : FpOk X pins (upd H (h2.objs.size + 1) (.lst [])) h1.objs.size := ⟨by rw [upd_ne hka.symm]; exact fa.1, fa.2⟩
  have rv' : Vals ((L.map (·.1)).map (·.2)) (out.map (·.2)) := by
    rw [← eL, List.map_map, List.map_map]
    clear eL pL o1 o2 m4
    induction L with
    | nil => exact .nil
    | cons z L ih => exact .cons (hrel z (by simp)).2.1 (ih fun y hy => hrel y (by simp [hy]))
  have hlen : ((L.map (·.1)).map (·.2)).length ≤ sizeLine := by
    rw [List.length_map, List.length_map, pL.length_eq, List.length_zip, List.length_zip]
    omega
  have I8 : Inv X pins σ (upd (upd H (h2.objs.size + 1) (.lst [])) h1.objs.size (.lst ((L.map (·.1)).map (·.2)))) { s' with heap := h' } :=
    I7.take (h' := h') (t' := s'.toks) (fun b o hb z => m3 b o hb z) fa' ⟨hlen, out.map (·.2), n2, rv', m4⟩
  refine ⟨.ref h1.objs.size, _, I8, rfl, q (L.map (·.1)) h1.objs.size _ ?_ ?_ fa.1 (fun b o z => ?_) upd_same⟩
  · have := pL.map (·.1)
    rwa [List.map_fst_zip (by simp only [List.length_zip]; have := rk.length; omega)] at this
  · rw [List.pairwise_map]
    have o1' := o1
    rw [← eL] at o1'
    have o3 := List.pairwise_map.mp o1'
    refine List.Pairwise.imp_of_mem (fun {x y} hx hy h => ?_) o3
    obtain ⟨x1, _, i, hi⟩ := hrel x hx
    obtain ⟨y1, _, j, hj⟩ := hrel y hy
    rw [← hlt j i _ _ _ _ hj hi y1 x1]
    exact h
  · rw [upd_ne (fun z' => by rw [z', fa.1] at z; cases z), upd_ne (fun z' => by rw [z', fk.1] at z; cases z)]
    exact z
end
end Fm
namespace Fm
open PySem PySem.Spec PyProof.Rows L2 SlX
section
variable {X : Cx} {K : PySem.W.Frag} {o e : Expr} {es : List Expr} {to : TE} {t : TA} {apos cpos : Pos} {T id : String} {name f : Str} {r : V → List V → Hp → VK → Prop}
theorem pe_bm0C (hK : X.K = K) (pa : PlainAttrs T) (slot : Slot T name id) (hty : typeOf (.builtin id) = pure (.type "method_descriptor")) (hm : MtR X id r) (ho : PE X o to)
    (hbase : attributeBase o name X.env (eval o X.env) = eval o X.env := by rfl) (hline : (apos.endLine == cpos.line) = true := by rfl) : PE X (.Call (.Attribute o name apos) [] [] cpos) (tBM0 K T r to) := by
  subst hK
  exact pe_bm0 pa slot hty hm ho hbase hline
theorem pe_slC (hK : X.K = K) (he : PE X e to) (hb : attributeBase e f X.env (eval e X.env) = eval e X.env := by rfl) : PE X (.Attribute e f apos) (SlX.tSl K to f) := by
  subst hK
  exact pe_sl he hb
end
theorem dc_it {J : It} {n : Nat} {G : Hp → Prop} {Y : Nat → Hp → V → Hp → Prop} (w : Walk J n G Y) {g : TG} {tt : TT} {tk tv : TE} {vs : List Nat} {σ : L2.St} {H1 : Hp} {D : Addr} {Qd : Hp → Prop} (Pv : Nat → Hp → Prop) (h0 : Pv 0 (upd H1 D (.dK []))) (hG : ∀ i H, i ≤ n → Pv i H → G H)
    (hs : ∀ i x H H', i < n → Pv i H → Y i H x H' → g x (wipe σ vs) H' fun σ2 H2 => wipe σ2 vs = wipe σ vs ∧ tt σ2 H2 fun b H3 =>
      if b = true then tk σ2 H3 fun y H4 => tv σ2 H4 fun z H5 => ∃ kvs k, y = kV k ∧ H5 D = some (.dK kvs) ∧ kvs.length < sizeLine ∧ Pv (i + 1) (upd H5 D (.dK (putK kvs k z))) else Pv (i + 1) H3) (hd : ∀ H, Pv n H → Qd H) :
    ∃ W : Nat → Nat → Hp → Prop, (∃ m, W 0 m (upd H1 D (.dK []))) ∧ ∀ i m H, W i m H →
      (J.stop i H ∧ Qd H) ∨ (J.go i H ∧ ∃ Nx : Hp → Prop, (∀ H', Nx H' → ∃ m', m' < m ∧ W (i + 1) m' H') ∧ ∀ x H', J.yld i H x H' → g x (wipe σ vs) H' fun σ2 H2 => wipe σ2 vs = wipe σ vs ∧ tt σ2 H2 fun b H3 =>
        if b = true then tk σ2 H3 fun y H4 => tv σ2 H4 fun z H5 => ∃ kvs k, y = kV k ∧ H5 D = some (.dK kvs) ∧ kvs.length < sizeLine ∧ Nx (upd H5 D (.dK (putK kvs k z))) else Nx H3) := by
  refine ⟨fun i m H => m = n - i ∧ i ≤ n ∧ Pv i H, ⟨n, by simp, Nat.zero_le _, h0⟩, ?_⟩
  rintro i m H ⟨rfl, hi, p⟩
  have q := hG i H hi p
  by_cases hlt : i < n
  · exact .inr ⟨w.goes i H hlt q, Pv (i + 1), fun H' p' => ⟨n - (i + 1), by omega, rfl, hlt, p'⟩, fun x H' y => hs i x H H' hlt p (w.yields i H x H' hlt q y)⟩
  · have e : i = n := by omega
    subst e
    exact .inl ⟨w.stops H q, hd H p⟩
structure TotO {κ : Type} (le : κ → κ → Bool) : Prop where
  tr : ∀ a b c, le a b = true → le b c = true → le a c = true
  to : ∀ a b, (le a b || le b a) = true
  an : ∀ a b, le a b = true → le b a = true → a = b
def leS (x y : Str) : Bool := !decide (y.cps.toList < x.cps.toList)
def leZ (i j : Int) : Bool := decide (i ≤ j)
theorem leS_iff {x y : Str} : leS x y = true ↔ x.cps.toList ≤ y.cps.toList := by
  unfold leS
  rw [Bool.not_eq_true', decide_eq_false_iff_not, List.not_lt]
theorem totS : TotO leS where
  tr a b c h k := leS_iff.mpr (List.le_trans (leS_iff.mp h) (leS_iff.mp k))
  to a b := by
    rcases List.le_total a.cps.toList b.cps.toList with h | h
    · rw [leS_iff.mpr h]; rfl
    · rw [leS_iff.mpr h, Bool.or_true]
  an a b h k := str_ext (List.le_antisymm (leS_iff.mp h) (leS_iff.mp k))
theorem totZ : TotO leZ where
  tr a b c h k := by
    have := of_decide_eq_true h
    have := of_decide_eq_true k
    exact decide_eq_true (by omega)
  to a b := by
    unfold leZ
    rw [← Bool.decide_or]
    exact decide_eq_true (by omega)
  an a b h k := by
    have := of_decide_eq_true h
    have := of_decide_eq_true k
    omega
theorem inj_of_nd {α κ : Type} {k : α → κ} : ∀ {xs : List α}, (xs.map k).Nodup → ∀ {a b}, a ∈ xs → b ∈ xs → k a = k b → a = b
  | [], _, _, _, h, _, _ => absurd h List.not_mem_nil
  | x :: xs, n, a, b, ha, hb, e => by
    rw [List.map_cons, List.nodup_cons] at n
    rcases List.mem_cons.mp ha with h1 | h1
    · rcases List.mem_cons.mp hb with h2 | h2
      · rw [h1, h2]
      · exact absurd (List.mem_map.mpr ⟨b, h2, by rw [← e, h1]⟩) n.1
    · rcases List.mem_cons.mp hb with h2 | h2
      · exact absurd (List.mem_map.mpr ⟨a, h1, by rw [e, h2]⟩) n.1
      · exact inj_of_nd n.2 h1 h2 e
section
variable {α κ : Type} {le : κ → κ → Bool} {k : α → κ}
def srt (le : κ → κ → Bool) (k : α → κ) (xs : List α) : List α := xs.mergeSort fun a b => le (k a) (k b)
theorem srt_perm (xs : List α) : (srt le k xs).Perm xs := List.mergeSort_perm _ _
theorem srt_pw (t : TotO le) (xs : List α) : (srt le k xs).Pairwise fun a b => le (k a) (k b) = true :=
  List.pairwise_mergeSort (le := fun a b => le (k a) (k b)) (fun a b c h h' => t.tr (k a) (k b) (k c) h h') (fun a b => t.to (k a) (k b)) xs
theorem srt_mem {xs : List α} {a : α} : a ∈ srt le k xs ↔ a ∈ xs := (srt_perm xs).mem_iff
theorem srt_len (xs : List α) : (srt le k xs).length = xs.length := (srt_perm xs).length_eq
theorem srt_one (t : TotO le) {xs ys : List α} (n : (xs.map k).Nodup) (p : ys.Perm xs) (s : ys.Pairwise fun a b => le (k a) (k b) = true) : ys = srt le k xs :=
  List.Perm.eq_of_pairwise (le := fun a b => le (k a) (k b) = true) (fun a b ha hb h h' => inj_of_nd n (p.mem_iff.mp ha) (srt_mem.mp hb) (t.an _ _ h h')) s (srt_pw t xs) (p.trans (srt_perm xs).symm)
theorem srt_keys (t : TotO le) {xs : List α} (n : (xs.map k).Nodup) {ys : List κ} (p : ys.Perm (xs.map k)) (s : ys.Pairwise fun a b => le a b = true) : ys = (srt le k xs).map k :=
  List.Perm.eq_of_pairwise (le := fun a b => le a b = true) (fun a b _ _ h h' => t.an _ _ h h') s (List.pairwise_map.mpr (srt_pw t xs)) (p.trans ((srt_perm xs).map k).symm)
theorem srt_nd {xs : List α} (n : (xs.map k).Nodup) : ((srt le k xs).map k).Nodup := ((srt_perm xs).map k).nodup_iff.mpr n
theorem srt_of_perm (t : TotO le) {xs ys : List α} (n : (xs.map k).Nodup) (p : ys.Perm xs) : srt le k ys = srt le k xs := srt_one t n ((srt_perm ys).trans p) (srt_pw t ys)
end
theorem srt_map {α β κ : Type} {le : κ → κ → Bool} {k : α → κ} {l : β → κ} (t : TotO le) {f : α → β} (hk : ∀ a, l (f a) = k a) {xs : List α} (n : (xs.map k).Nodup) : srt le l (xs.map f) = (srt le k xs).map f := by
  have e : (xs.map f).map l = xs.map k := by
    rw [List.map_map]
    exact List.map_congr_left fun a _ => hk a
  refine (srt_one t (by rw [e]; exact n) ((srt_perm xs).map f) ?_).symm
  rw [List.pairwise_map]
  refine (srt_pw t xs).imp fun {a b} h => ?_
  rw [hk, hk]
  exact h
theorem risingS_pw : ∀ (p : Str) (l : List Str), risingS p l = true → (p :: l).Pairwise fun a b => leS a b = true
  | p, [], _ => List.pairwise_singleton _ _
  | p, x :: r, h => by
    have h' : (!ltCps x.cps.toList p.cps.toList) = true ∧ risingS x r = true := by simpa [risingS] using h
    have h1 : leS p x = true := by
      have := h'.1
      rw [ltCps_eq] at this
      exact this
    have ih := risingS_pw x r h'.2
    refine .cons (fun c hc => ?_) ih
    rcases List.mem_cons.mp hc with rfl | hc
    · exact h1
    · exact totS.tr _ _ _ h1 ((List.pairwise_cons.mp ih).1 c hc)
theorem sortedS_pw : ∀ (l : List Str), sortedS l = true → l.Pairwise fun a b => leS a b = true
  | [], _ => .nil
  | x :: r, h => risingS_pw x r h
theorem nd_key {α β : Type} {f : α → β} : ∀ {xs : List α} {x y : α}, (xs.map f).Nodup → x ∈ xs → y ∈ xs → f x = f y → x = y
  | z :: xs, x, y, n, hx, hy, e => by
    rw [List.map_cons, List.nodup_cons] at n
    rcases List.mem_cons.mp hx with ex | mx
    · rcases List.mem_cons.mp hy with ey | my
      · rw [ex, ey]
      · exact absurd (List.mem_map.mpr ⟨y, my, by rw [← e, ex]⟩) n.1
    · rcases List.mem_cons.mp hy with ey | my
      · exact absurd (List.mem_map.mpr ⟨x, mx, by rw [e, ey]⟩) n.1
      · exact nd_key n.2 mx my e
section
variable {κ : Type} [DecidableEq κ]
theorem valV_mem {kvs : List (κ × V)} {k : κ} {v : V} (n : (kvs.map (·.1)).Nodup) (h : (k, v) ∈ kvs) : valV kvs k = some v := by
  induction kvs with
  | nil => exact absurd h List.not_mem_nil
  | cons p r ih =>
    rw [List.map_cons, List.nodup_cons] at n
    rcases List.mem_cons.mp h with rfl | h
    · exact valV_pos rfl
    · rw [valV_neg (fun e => n.1 (by rw [e]; exact List.mem_map.mpr ⟨_, h, rfl⟩))]
      exact ih n.2 h
theorem valV_none {kvs : List (κ × V)} {k : κ} (h : k ∉ kvs.map (·.1)) : valV kvs k = none := by
  induction kvs with
  | nil => rfl
  | cons p r ih =>
    rw [List.map_cons, List.mem_cons, not_or] at h
    rw [valV_neg (fun e => h.1 e.symm)]
    exact ih h.2
theorem putK_new {kvs : List (κ × V)} {k : κ} {v : V} (h : k ∉ kvs.map (·.1)) : putK kvs k v = kvs ++ [(k, v)] := by
  unfold putK
  rw [valV_any, valV_none h]
  rfl
end
theorem mergeK_nd : ∀ (more kvs : List (L2.Key × V)), ((kvs ++ more).map (·.1)).Nodup → mergeK kvs more = kvs ++ more
  | [], kvs, _ => by simp [mergeK]
  | p :: r, kvs, n => by
    have h : p.1 ∉ kvs.map (·.1) := by
      rw [List.map_append, List.nodup_append] at n
      intro h
      exact n.2.2 _ h p.1 (by simp) rfl
    show mergeK (putK kvs p.1 p.2) r = _
    rw [putK_new h, mergeK_nd r (kvs ++ [(p.1, p.2)]) (by simpa using n)]
    simp
section
variable {K : PySem.W.Frag} {H : Hp}
theorem dp_strs : ∀ o : List Str, DpAll K H (o.map V.str) (o.map PyData.str)
  | [] => .nil
  | x :: o => .cons (.str x) (dp_strs o)
theorem strs_shaped {o : List Str} (h : ∀ s ∈ o, PyData.strOk s = true) : SeqAt.shaped (.list (o.map PyData.str)) = true := by
  have h1 : ∀ o : List Str, (∀ s ∈ o, PyData.strOk s = true) → PyData.canLayAll0 (o.map PyData.str) = true := fun o => by
    induction o with
    | nil => intro _; rfl
    | cons x o ih =>
      intro h
      simp [PyData.canLayAll0, PyData.canLay0, ih fun s hs => h s (by simp [hs]), h x (by simp)]
  have h2 : ∀ o : List Str, PyData.depthAll (o.map PyData.str) = 0 := fun o => by
    induction o with
    | nil => rfl
    | cons x o ih => simp [PyData.depthAll, PyData.depth, ih]
  show (PyData.canLay0 (.list (o.map PyData.str)) && decide (PyData.depth (.list (o.map PyData.str)) ≤ 64)) = true
  simp only [PyData.canLay0, PyData.depth, h1 o h, h2]
  rfl
theorem shaped_lay {d : PyData} (h : SeqAt.shaped d = true) : d.canLay0 = true := by
  have h' : (d.canLay0 && decide (d.depth ≤ 64)) = true := h
  rw [Bool.and_eq_true] at h'
  exact h'.1
theorem rd_eqS {a b : Addr} {xs : List Str} {Q : VK} (ha : H a = some (.lst (xs.map V.str))) (hb : H b = some (.lst (xs.map V.str))) (hx : ∀ s ∈ xs, PyData.strOk s = true) (q : Q (.bl true) H) : rEqG K (.ref a) (.ref b) H Q := by
  refine Or.inr ⟨_, _, .lst (.inl (.inl ha)) (dp_strs xs), .lst (.inl (.inl hb)) (dp_strs xs), strs_shaped hx, strs_shaped hx, ?_⟩
  rw [SeqAt.eqv_refl _ (shaped_lay (strs_shaped hx))]
  exact q
theorem inV_strs (x : Str) : ∀ xs : List Str, inV (.str x) (xs.map V.str) = decide (x ∈ xs)
  | [] => rfl
  | y :: ys => by
    have ih := inV_strs x ys
    unfold inV at ih ⊢
    rw [List.map_cons, List.any_cons, ih]
    simp only [eqV, List.mem_cons, Bool.decide_or]
    congr 1
    rw [Bool.eq_iff_iff, beq_iff_eq, decide_eq_true_iff]
    exact eq_comm
theorem flat_strs (xs : List Str) : (xs.map V.str).all flatV = true := by
  rw [List.all_map, List.all_eq_true]
  intro _ _
  rfl
theorem rd_notS {a : Addr} {xs : List Str} {x : Str} {Q : VK} (ha : H a = some (.lst (xs.map V.str))) (q : Q (.bl (!decide (x ∈ xs))) H) : rIn K true (.str x) (.ref a) H Q := by
  refine ⟨a, _, rfl, .inl (.inl (.inl ha)), rfl, flat_strs xs, ?_⟩
  rw [inV_strs]
  exact q
end
section
variable {X : Cx}
def rNeE : R2 := fun x y H Q => ∃ (a b : Addr) (kvs : List (L2.Key × V)), x = .ref a ∧ y = .ref b ∧ H a = some (.dK kvs) ∧ H b = some (.dK []) ∧ Q (.bl (!kvs.isEmpty)) H
def rEqE : R2 := fun x y H Q => ∃ (a b : Addr) (kvs : List (L2.Key × V)), x = .ref a ∧ y = .ref b ∧ H a = some (.dK kvs) ∧ H b = some (.dK []) ∧ Q (.bl kvs.isEmpty) H
end
section
variable {b p : Addr} {H H' : Hp} {o : HO}
theorem Dr.getK (d : Dr b H H') (hB : Bag H b) (h : H p = some o) (ho : ∀ xs, o ≠ .lst xs) : H' p = some o := by
  refine d.get ?_ h
  rintro rfl
  obtain ⟨xs, e⟩ := hB.lst
  rw [e] at h
  exact ho xs (Option.some.inj h).symm
theorem Mv.unlock {d : Addr} {u : HO} {od : Obj} (h : H d = some u) (hu : ∀ xs, u ≠ .tup xs) (hv : ∀ o xs, u ≠ .frz o (.tup xs)) (m : Mv [] (upd H d (.frz od u)) H') : Mv [] H (upd H' d u) := by
  refine ⟨fun a xs r => ?_, fun a o _ e => ?_⟩
  · have hd : a ≠ d := by
      rintro rfl
      rcases r with r | ⟨o, r⟩
      · rw [h] at r
        exact hu xs (Option.some.inj r)
      · rw [h] at r
        exact hv o xs (Option.some.inj r)
    have r' : Rd (upd H d (.frz od u)) a (.tup xs) := r.imp (fun r => by rw [upd_ne hd]; exact r) fun ⟨o, r⟩ => ⟨o, by rw [upd_ne hd]; exact r⟩
    exact (m.tk a xs r').imp (fun r => by rw [upd_ne hd]; exact r) fun ⟨o, r⟩ => ⟨o, by rw [upd_ne hd]; exact r⟩
  · by_cases hd : a = d
    · subst hd
      rw [upd_same, ← e, h]
    · rw [upd_ne hd]
      exact m.keep a o (by simp) (by rw [upd_ne hd]; exact e)
theorem Mv.put {d : Addr} {u o : HO} (h : H d = some u) (hu : ∀ xs, u ≠ .tup xs) (hv : ∀ o xs, u ≠ .frz o (.tup xs)) : Mv [d] H (upd H d o) := by
  refine ⟨fun a xs r => ?_, fun a o n e => ?_⟩
  · have hd : a ≠ d := by
      rintro rfl
      rcases r with r | ⟨o, r⟩
      · rw [h] at r
        exact hu xs (Option.some.inj r)
      · rw [h] at r
        exact hv o xs (Option.some.inj r)
    exact r.imp (fun r => by rw [upd_ne hd]; exact r) fun ⟨o, r⟩ => ⟨o, by rw [upd_ne hd]; exact r⟩
  · rw [upd_ne (fun z => n (by rw [z]; exact List.mem_singleton.mpr rfl))]
    exact e
theorem Mv.putD {d : Addr} {kvs : List (L2.Key × V)} {o : HO} (h : H d = some (.dK kvs)) : Mv [d] H (upd H d o) := .put h (fun _ z => by cases z) (fun _ _ z => by cases z)
theorem Mv.lock {d : Addr} {u : HO} {od : Obj} (h : H d = some u) (hu : ∀ xs, u ≠ .tup xs) (hv : ∀ o xs, u ≠ .frz o (.tup xs)) : Mv [d] H (upd H d (.frz od u)) := .put h hu hv
theorem slO_nolst {a C dx : Addr} {vs : List (Option V)} (xs : List V) : SlO a C dx vs ≠ .lst xs := fun z => by
  unfold SlO at z
  cases z
theorem Slt.mv {a C dx : Addr} {vs : List (Option V)} (h : Slt H a C dx vs) (m : Mv [] H H') : Slt H' a C dx vs := h.imp (fun h => ⟨m.same _ _ h.1, h.2⟩) fun h => ⟨m.same _ _ h.1, m.same _ _ h.2⟩
theorem Slt.dr {a C dx : Addr} {vs : List (Option V)} (h : Slt H a C dx vs) (d : Dr b H H') (hB : Bag H b) : Slt H' a C dx vs :=
  h.imp (fun h => ⟨d.getK hB h.1 (fun _ z => by cases z), h.2⟩) fun h => ⟨d.getK hB h.1 slO_nolst, d.getK hB h.2 (fun _ z => by cases z)⟩
end
structure ActR where
  nm : Str
  ar : Int
  outs : List (Str × Int)
structure ActA where
  r : ActR
  a : Addr
  o : Addr
def ActA.kv (z : ActA) : L2.Key × V := (.inr z.r.nm, .ref z.a)
structure ActsAt (K : PySem.W.Frag) (H : Hp) (d : Addr) (zs : List ActA) : Prop where
  at_ : H d = some (.dK (zs.map ActA.kv))
  nd : (zs.map (·.r.nm)).Nodup
  tup : ∀ z ∈ zs, SqT K H z.a [.int z.r.ar, .ref z.o]
  out : ∀ z ∈ zs, H z.o = some (.dK (z.r.outs.map rowK))
  ond : ∀ z ∈ zs, (z.r.outs.map (·.1)).Nodup
section
variable {K : PySem.W.Frag} {H H' : Hp} {b d : Addr} {zs : List ActA}
theorem ActsAt.mv (h : ActsAt K H d zs) (m : Mv [] H H') : ActsAt K H' d zs := ⟨m.same _ _ h.at_, h.nd, fun z hz => m.sqT (h.tup z hz), fun z hz => m.same _ _ (h.out z hz), h.ond⟩
theorem ActsAt.dr (h : ActsAt K H d zs) (m : Dr b H H') (hB : Bag H b) : ActsAt K H' d zs :=
  ⟨m.getK hB h.at_ (fun _ z => by cases z), h.nd, fun z hz => m.mv.sqT (h.tup z hz), fun z hz => m.getK hB (h.out z hz) (fun _ z => by cases z), h.ond⟩
theorem kv_keys (zs : List ActA) : (zs.map ActA.kv).map (·.1) = (zs.map (·.r.nm)).map Sum.inr := by
  rw [List.map_map, List.map_map]
  rfl
theorem nd_inr {xs : List Str} (n : xs.Nodup) : (xs.map (Sum.inr : Str → L2.Key)).Nodup := by
  refine List.Pairwise.map _ (fun a b h => ?_) n
  exact fun e => h (Sum.inr.inj e)
theorem ActsAt.nk (h : ActsAt K H d zs) : ((zs.map ActA.kv).map (·.1)).Nodup := by
  rw [kv_keys]
  exact nd_inr h.nd
theorem ActsAt.val (h : ActsAt K H d zs) {z : ActA} (hz : z ∈ zs) : valV (zs.map ActA.kv) (.inr z.r.nm) = some (.ref z.a) := valV_mem h.nk (List.mem_map.mpr ⟨z, hz, rfl⟩)
theorem row_keys (rs : List (Str × Int)) : (rs.map rowK).map (·.1) = (rs.map (·.1)).map Sum.inr := by
  rw [List.map_map, List.map_map]
  rfl
theorem row_val {rs : List (Str × Int)} (n : (rs.map (·.1)).Nodup) {x : Str} {i : Int} (h : (x, i) ∈ rs) : valV (rs.map rowK) (.inr x) = some (.int i) :=
  valV_mem (by rw [row_keys]; exact nd_inr n) (List.mem_map.mpr ⟨(x, i), h, rfl⟩)
end
def ActR.norm (r : ActR) : ActR := { r with outs := srt leS (·.1) r.outs }
def normW (rs : List ActR) : List ActR := srt leS (·.nm) (rs.map ActR.norm)
theorem paired_rows {K : PySem.W.Frag} {H : Hp} : ∀ (ps : List (Addr × Str × Int)), (∀ z ∈ ps, H z.1 = some (.tup [.str z.2.1, .int z.2.2])) → Paired (fun p (kv : L2.Key × V) => SqT K H p [kV kv.1, kv.2]) (ps.map (·.1)) ((ps.map (·.2)).map rowK)
  | [], _ => .nil
  | z :: ps, h => .cons (.inl (.inl (h z (by simp)))) (paired_rows ps fun y hy => h y (by simp [hy]))
theorem srt_outs {rows qs : List (Str × Int)} (n : (rows.map (·.1)).Nodup) (p : qs.Perm rows) (s : qs.Pairwise fun e f => e.1.cps.toList < f.1.cps.toList) : qs = srt leS (·.1) rows :=
  srt_one totS n p (s.imp fun {a b} h => leS_iff.mpr (List.le_of_lt h))
def WldAt (K : PySem.W.Frag) (H : Hp) (C x : Addr) (rs : List ActR) : Prop := ∃ dx d zs, Slt H x C dx [some (.ref d)] ∧ ActsAt K H d zs ∧ zs.map (·.r) = rs
section
variable {K : PySem.W.Frag} {H H' : Hp} {b C x : Addr} {rs : List ActR}
theorem WldAt.mv (h : WldAt K H C x rs) (m : Mv [] H H') : WldAt K H' C x rs := by
  obtain ⟨dx, d, zs, h1, h2, h3⟩ := h
  exact ⟨dx, d, zs, Slt.mv h1 m, h2.mv m, h3⟩
theorem WldAt.dr (h : WldAt K H C x rs) (m : Dr b H H') (hB : Bag H b) : WldAt K H' C x rs := by
  obtain ⟨dx, d, zs, h1, h2, h3⟩ := h
  exact ⟨dx, d, zs, Slt.dr h1 m hB, h2.dr m hB, h3⟩
end
end Fm
namespace Fm
open PySem PySem.Spec PyProof.Rows L2 SlX
section
variable {X : Cx}
def rUpdateK : V → List V → Hp → VK → Prop := fun x xs H Q => ∃ (a b : Addr) (kvs more : List (L2.Key × V)), x = .ref a ∧ xs = [.ref b] ∧ a ≠ b ∧ H a = some (.dK kvs) ∧ H b = some (.dK more) ∧ kvs.length + more.length ≤ sizeLine ∧ (mergeK kvs more).length ≤ sizeLine ∧ Q .non (upd H a (.dK (mergeK kvs more)))
end
def ltTx (x y : Str) : Bool := decide (x.cps.toList < y.cps.toList)
def IsTx (h : Heap) (v : Value) (x : Str) : Prop := ∃ (a : Addr) (o : Obj) (t : Tok) (r : List Value) (arr : Array Value) (n : Nat), v = .ref a ∧ h.get? a = some o ∧ o.cls = .type "tuple" ∧ o.data = .seq arr n ∧ arr.toList = .str x t :: r
section
variable {prog : Program} {w : World} {A : Around} {E : Value → Shared → Prop} {s : Shared}
end
section
variable {X : Cx}
def rSortTx (K : PySem.W.Frag) : List V → Hp → VK → Prop := fun vs H Q => ∃ (a : Addr) (xs : List V) (k : V → Str), vs = [.ref a] ∧ SqL K H a xs ∧ (∀ x ∈ xs, ∃ t ys, x = .ref t ∧ SqT K H t (.str (k x) :: ys)) ∧ (∀ x ∈ xs, ∀ y ∈ xs, k x = k y → x = y) ∧
  ∀ ys p, ys.Perm xs → ys.Pairwise (fun x y => leS (k x) (k y) = true) → H p = none → Q (.ref p) (upd H p (.lst ys))
end
section
variable {X : Cx}
end
end Fm
namespace Fm
open PySem PySem.W PySem.Calls PyProof.Rows PySem.HandSPX
abbrev xA (f : Str) (p1 p2 : Pos) : Arguments :=
  { posonlyargs := [], args := [{ arg := "self", annotation := none, pos := p1 }, { arg := f, annotation := none, pos := p2 }],
    vararg := none, kwonlyargs := [], kw_defaults := [], kwarg := none, defaults := [] }
abbrev xCall (f : Str) (q1 q2 q3 q4 q5 : Pos) : Expr := .Call (.Attribute (.Call (.Name "super" q1) [] [] q2) "__init__" q3) [.Name f q4] [] q5
abbrev xB (f : Str) (q1 q2 q3 q4 q5 q6 q7 q8 q9 q10 : Pos) : List Stmt :=
  [.Expr (xCall f q1 q2 q3 q4 q5) q6, .Assign [.Attribute (.Name "self" q7) f q8] (.Name f q9) q10]
abbrev xS (f : Str) : Scope :=
  { kind := .function, names := [(PySem.Str.ofString "self", .local), (f, .local), (PySem.Str.ofString "__class__", .free), (PySem.Str.ofString "super", .globalImplicit)],
    isGenerator := false, isCoroutine := false, more := [] }
structure ExT (P : Program) (K : Frag) (mg : Str → Option Value) (x f : Str) (C : Addr) : Prop where
  gC : mg x = some (.ref C)
  cls : ∃ nm q N bs bm sn sub ab col dd k0 k1 k2 k3 k5, K.lookup C = some (excClassObj nm q C N bs bm true sn sub ab col dd k0 k1 k2 k3 k5 "ValueError.__new__") ∧ refsVE bm = true
  sa : findIn K (.ref C) "__setattr__" = some (some (.builtin "object.__setattr__"))
  no : findIn K (.ref C) f = some none
  kC : keepIn K (.ref C) = true
  exC : subIn K (.ref C) (.type "BaseException") = some true
  veC : subIn K (.ref C) (.type "ValueError") = some true
  tyC : typeIn K (.ref C) = some (.type "type")
  hdC : hasDictIn K C = true
  up : ks_superIn K C C "__init__" = some (some (.builtin "ValueError.__init__"))
  opq : nsIn K cStatics "thirdparty.any" = some none
  self : mroIn K C (.ref C) = some true
  fn : ∃ (fI cda cc : Addr) (oc : Value) (od : Option Addr) (kV doc pm : Value) (an : Option Addr) (ct : Value) (osl : Array (Option Value)) (p1 p2 q1 q2 q3 q4 q5 q6 q7 q8 q9 q10 : Pos) (ql : Str),
    findIn K (.ref C) "__init__" = some (some (.ref fI)) ∧ typeIn K (.ref fI) = some (.type "function") ∧
    K.lookup fI = some ⟨oc, od, .func (ksFn "__init__" ql (xA f p1 p2) (xB f q1 q2 q3 q4 q5 q6 q7 q8 q9 q10) (xS f) .none kV doc pm an (.ref cda) ct cc), osl⟩ ∧ codeIn K (.ref cda) ql = true ∧
    (∃ cl cld csl, K.lookup cc = some ⟨cl, cld, .cell (some (.ref C)), csl⟩) ∧
    ∃ ccl cdd vs ccs file tf, K.lookup cda = some ⟨ccl, cdd, .fields vs, ccs⟩ ∧ vs[2]? = some (.str file tf) ∧ ((P.main.file : Str) == file) = true ∧
    (∀ e v, bindArgs (ksFn "__init__" ql (xA f p1 p2) (xB f q1 q2 q3 q4 q5 q6 q7 q8 q9 q10) (xS f) .none kV doc pm an (.ref cda) ct cc) ⟨[.ref e, v], []⟩ = pure [((PySem.Str.ofString "self" : Str), .ref e), (f, v)]) ∧
    ∀ L : Addr, ∃ pl, eval (xCall f q1 q2 q3 q4 q5) (ksEnv ql (xS f) L fI (.ref cda) cc) = (do
      let ov ← attributeBase (.Call (.Name "super" q1) [] [] q2) "__init__" (ksEnv ql (xS f) L fI (.ref cda) cc) (eval (.Call (.Name "super" q1) [] [] q2) (ksEnv ql (xS f) L fI (.ref cda) cc))
      standAt q3.atName
      let (g, first) ← holding [ov] (getMethod ov "__init__" pl)
      callWith q5 g first (backTo q5 (starEach [.Name f q4] (ksEnv ql (xS f) L fI (.ref cda) cc))) [])
  top : (P.main.scope.names.lookup ("super" : Str)).isSome = false
  sup : mg "super" = none
  f1 : (("self" : Str) == f) = false
  f2 : (f == ("self" : Str)) = false
  f3 : (f == ("__debug__" : Str)) = false
  f4 : (("super" : Str) == f) = false
  f5 : (("__class__" : Str) == f) = false
structure XEnd (h h' : Heap) (x C dx : Addr) (f : Str) (v : Value) : Prop where
  keep : ∀ b o, b ≠ x → h.get? b = some o → h'.get? b = some o
  obj : ∃ t1 : Addr, h'.get? x = some { cls := .ref C, dict := some dx, data := .fields #[.ref t1, .none, .none, .none, .bool false, .none] }
  dbig : h.objs.size ≤ dx
  dne : dx ≠ x
  ns : h'.Ns1 dx (fun y => if y = f then some v else none)
section
variable {P : Program} {w : PySem.World} {A : Around} {E : Value → Shared → Prop} {R : Result → Shared → Prop} {s : Shared} {K : Frag} {mg : Str → Option Value} {C : Addr} {x f : Str}
theorem look_f (T1 : (("self" : Str) == f) = false) (v u : Value) : ([((PySem.Str.ofString "self" : Str), u), (f, v)].reverse.lookup f) = some v := by
  simp [List.lookup]
theorem look_self (T2 : (f == ("self" : Str)) = false) (T1 : (("self" : Str) == f) = false) (v u : Value) : ([((PySem.Str.ofString "self" : Str), u), (f, v)].reverse.lookup (PySem.Str.ofString "self")) = some u := by
  simp only [List.reverse_cons, List.reverse_nil, List.nil_append, List.singleton_append, List.lookup_cons]
  rw [show ((PySem.Str.ofString "self" : Str) == f) = false from T1]
  simp
theorem xs_f (T2 : (f == ("self" : Str)) = false) : (xS f).names.lookup f = some .local := by
  simp only [xS, List.lookup_cons]
  rw [show (f == (PySem.Str.ofString "self" : Str)) = false from T2]
  simp
theorem xs_self : (xS f).names.lookup (PySem.Str.ofString "self") = some .local := by
  simp only [xS, List.lookup_cons]
  simp
theorem xs_super (h : (("super" : Str) == f) = false) : (xS f).names.lookup ("super" : Str) = some .globalImplicit := by
  simp only [xS, List.lookup_cons, h]
  rw [show ((PySem.Str.ofString "super" : Str) == PySem.Str.ofString "self") = false by decide +kernel, show ((PySem.Str.ofString "super" : Str) == PySem.Str.ofString "__class__") = false by decide +kernel]
  simp
theorem xs_class (h : (("__class__" : Str) == f) = false) : (xS f).names.lookup ("__class__" : Str) = some .free := by
  simp only [xS, List.lookup_cons, h]
  rw [show ((PySem.Str.ofString "__class__" : Str) == PySem.Str.ofString "self") = false by decide +kernel]
  simp
theorem vx_call {hp : Heap} {g : Array GenState} {d : Drawn} {t : Nat} {os : OsState} {u e t0 : Addr} {rest : List Value} {Q : Value → Shared → Prop} {nm q : Str} {N : Addr} {bs bm : List Value} {hdct : Bool} {sn : List Str} {sub : List Value} {ab : Bool} {col : Option Bool} {dd : Option Addr} {k0 k1 k2 k3 k5 : Option Value}
    (hC : hp.get? C = some (excClassObj nm q C N bs bm hdct sn sub ab col dd k0 k1 k2 k3 k5 "ValueError.__new__")) (he : hp.get? e = some (excO C t0)) (hu : hp.get? u = some (kxs_mw "ValueError.__init__" e)) (hz : rest.length ≤ sizeLine)
    (fin : ∀ h', (∀ b o, b ≠ e → hp.get? b = some o → h'.get? b = some o) → h'.get? e = some (excO C hp.objs.size) → Q .none ⟨h', g, d, t, os⟩) :
    wpAny (model P w) A (call (.ref u) rest) Q E ⟨hp, g, d, t, os⟩ := by
  refine wpAny_call (codeAny_of_tree ?_)
  show wpAny (model P w) A.in1 (callAny (.ref u) ⟨rest, []⟩) _ _ _
  simp only [callAny]
  refine wpAny_bind (wpAny_load hu ?_)
  simp only [kxs_mw]
  refine KFB.if_so (by decide) ?_
  refine wpAny_bind (check_bound_init PySem.F.excBase_ValueError.toExcCallFacts hC he rfl ?_)
  refine wpAny_bind (wpAny_pure (wpAny_pure ?_))
  refine ⟨plainId_quiet PySem.F.excBase_ValueError.init.plain _, codeAny_builtin PySem.F.excBase_ValueError.initEntry ?_⟩
  exact exc_init_tree (cls := .ref C) (t0 := t0) (dv := none) (c2 := .none) (c3 := .none) (b4 := .bool false) he hz fun h' k e' _ => fin h' k e'
theorem vx_init (T : ExT P K mg x f C) {e t0 fI : Addr} {v : Value} (X : K.In s.heap) (hG : s.heap.Ns mainGlobals mg) (hB : ∃ mb, s.heap.Ns builtinsNs mb ∧ ∀ y : Str, y ≠ "__name__" → mb y = bootBuiltins y) (hlim : s.heap.NoLimit)
    (hx : s.heap.get? e = some (excO C t0)) (hnx : K.lookup e = none) (hroom : A.depth < recursionLimit) (hI : findIn K (.ref C) "__init__" = some (some (.ref fI)))
    (hq : ∀ h' tk dx, XEnd s.heap h' e C dx f v → R (.ok (.ret .none)) { s with heap := h', toks := tk }) :
    codeAny (model P w) A (.call (.ref fI) ⟨[.ref e, v], []⟩) R s := by
  obtain ⟨fI', cda, cc, oc, od, kV, doc, pm, an, ct, osl, p1, p2, q1, q2, q3, q4, q5, q6, q7, q8, q9, q10, ql, hi, tI, ho, hcd, ⟨cl, cld, csl, hcell⟩, ccl, cdd, vs, ccs, file, tf, hcode, hvs, hfile, hbind, hev⟩ := T.fn
  obtain rfl : fI = fI' := by
    rw [hi] at hI
    cases hI
    rfl
  obtain ⟨nm, q, N, bs, bm, sn, sub, ab, col, dd, k0, k1, k2, k3, k5, hC, hbm⟩ := T.cls
  have hcl : clsIn K C = some { name := nm, bases := bs, mro := .ref C :: bm, ns := N, qualname := q, hasDict := true, slotNames := sn, subclasses := sub, abstract := ab, collection := col, hasDel := false } := by
    unfold clsIn
    rw [hC] <;> rfl
  obtain ⟨mb, hmb, hbt⟩ := hB
  have hxC : e ≠ C := fun z => by
    rw [z, hC] at hnx
    cases hnx
  have hkf : (ksEnv ql (xS f) s.heap.objs.size fI (.ref cda) cc).kindOf f = some .local := xs_f T.f2
  refine ks_codeAny_call_defAt (binds := [("self", .ref e), (f, v)]) hroom (X _ _ ho) rfl hlim (codeRec_of X hcd) rfl (BindsTo.of_eq (hbind _ _)) ?_ ?_ (fun h₁ hn hk₁ => ?_)
  · intro y hy
    simp only [xS, List.mem_cons, List.not_mem_nil, or_false] at hy
    rcases hy with rfl | rfl | rfl | rfl <;> exact fun z => nomatch z
  · intro y hy
    simp only [List.mem_cons, List.not_mem_nil, or_false] at hy
    rcases hy with rfl | rfl
    · rfl
    · exact xs_f T.f2
  · have X₁ : K.In h₁ := X.keeps hk₁
    have hx₁ := hk₁ _ _ hx
    have I₁ : InstAt h₁ e (excO C t0) C none := ⟨hx₁, rfl, rfl, trivial⟩
    obtain ⟨hp, g, dr, tk, os⟩ := s
    obtain ⟨pl, hev⟩ := hev hp.objs.size
    refine ks_wpAt_execs_cons (ks_wpAt_Expr_any (ks_wpAt_MethodCall (he := hev) ?_))
    refine ks_wpAt_super_base (env := ksEnv ql (xS f) hp.objs.size fI (.ref cda) cc) (ar := { arg := "self", annotation := none, pos := p1 }) ?_ ?_ (by decide) rfl (X₁ _ _ ho) rfl rfl rfl (X₁ _ _ hcode) rfl hvs hfile T.top ?_
    · exact xs_super T.f4
    · exact xs_class T.f5
    · refine ks_loadName_global rfl (xs_super T.f4) (loadGlobal_builtin (env := ksEnv ql (xS f) hp.objs.size fI (.ref cda) cc) (hG.keeps hk₁) T.sup (hmb.keeps hk₁) ((hbt _ (by decide +kernel)).trans (show bootBuiltins "super" = some (.type "super") by decide +kernel)) ⟨rfl, ?_⟩)
      refine wpAny_loadName_free rfl (xs_class T.f5) rfl ⟨_, X₁ _ _ hcell, rfl⟩ ?_
      refine wpAny_loadName_local rfl xs_self hn (look_self T.f2 T.f1 v (.ref e)) ?_
      refine ks_wpAny_isType_cls (X₁ _ _ hC) rfl ⟨rfl, ?_⟩
      refine ks_wpAny_call_super (X₁ _ _ hC) rfl hx₁ rfl (fun c z => nomatch z) (looks_mroIn X₁ T.self) (fun h₂ hso hk₂ => ?_)
      have X₂ : K.In h₂ := X₁.keeps hk₂
      have hx₂ := hk₂ _ _ hx₁
      have I₂ : InstAt h₂ e (excO C t0) C none := ⟨hx₂, rfl, rfl, trivial⟩
      refine kxs_getMethod kxs_ValueError hso (looks_opaque X₂ T.opq) (l₀ := .ref C :: bm) (fun A Q E s k q => wpAny_bind ((looks_clsIn X₂ hcl) A _ E s k (wpAny_pure q))) rfl X₂ (by have := T.up; unfold ks_superIn at this; rw [hcl] at this; exact this) (I₂.type.andThen (looks_subIn X₂ T.veC)) hxC (by decide) ?_
      have k₃ : ∀ b o, h₂.get? b = some o → (h₂.push (kxs_mw "ValueError.__init__" e)).get? b = some o := fun b o z => Heap.get?_push_of_some _ z
      have hu : (h₂.push (kxs_mw "ValueError.__init__" e)).get? h₂.objs.size = some (kxs_mw "ValueError.__init__" e) := Heap.get?_push_at rfl rfl
      have k03 : ∀ b o, hp.get? b = some o → (h₂.push (kxs_mw "ValueError.__init__" e)).get? b = some o := fun b o z => k₃ _ _ (hk₂ _ _ (hk₁ _ _ z))
      have n03 : (h₂.push (kxs_mw "ValueError.__init__" e)).Ns hp.objs.size (fun y => [((PySem.Str.ofString "self" : Str), Value.ref e), (f, v)].reverse.lookup y) := (hn.keeps hk₂).keeps k₃
      have z03 : h₂.objs.size < (h₂.push (kxs_mw "ValueError.__init__" e)).objs.size := by
        rw [Heap.size_push]
        exact Nat.lt_succ_self _
      generalize h₂.push (kxs_mw "ValueError.__init__" e) = h₃ at hu k03 n03 z03 ⊢
      refine kxs_callWith (i := "ValueError.__init__") (x := e) (by rfl) (evalArgs_plain ?_)
      refine Calls.spliced_cons (wpAny_Name (env := ksEnv ql (xS f) hp.objs.size fI (.ref cda) cc) (wpAny_loadName_local rfl hkf n03 (look_f T.f1 v (.ref e)) (Calls.spliced_nil ⟨hu, ?_⟩)) T.f3)
      refine vx_call (k03 _ _ (X _ _ hC)) (k03 _ _ hx) hu (by show 1 ≤ sizeLine; decide) fun h₄ k₄ hx₄ => ?_
      have k04 : ∀ b o, b ≠ e → hp.get? b = some o → h₄.get? b = some o := fun b o hb z => k₄ _ _ hb (k03 _ _ z)
      have X₄ : K.In h₄ := fun b o z => k04 b o (fun y => by rw [y, hnx] at z; cases z) (X _ _ z)
      have hLe : hp.objs.size ≠ e := Nat.ne_of_gt (Heap.lt_size hx)
      have n04 : h₄.Ns hp.objs.size (fun y => [((PySem.Str.ofString "self" : Str), Value.ref e), (f, v)].reverse.lookup y) := n03.at fun o z => k₄ _ _ hLe z
      show PySem.wpAt _ _ _ (execs _ _) _ _ _
      refine wpAt_of_wpAny (wpAny_execs_cons (plainObj_wpAny_Assign_Attribute (env := ksEnv ql (xS f) hp.objs.size fI (.ref cda) cc) ?_))
      refine wpAny_Name (env := ksEnv ql (xS f) hp.objs.size fI (.ref cda) cc) (wpAny_loadName_local rfl hkf n04 (look_f T.f1 v (.ref e)) ?_) T.f3
      refine wpAny_Name (env := ksEnv ql (xS f) hp.objs.size fI (.ref cda) cc) (wpAny_loadName_local rfl xs_self n04 (look_self T.f2 T.f1 v (.ref e)) ?_) (by decide)
      refine set_plain X₄ (ox := excO C h₃.objs.size) (od := none) ⟨hx₄, rfl, rfl, trivial⟩ T.sa ?_
      refine exc_osa X₄ hx₄ hcl (show refsVE (.ref C :: bm) = true from hbm) rfl T.no (fun h₅ tk₅ dx k₅ dn dne hx₅ hn₅ => ?_)
      have z4 : hp.objs.size < h₄.objs.size := n04.lt
      exact wpAny_execs_nil (hq h₅ tk₅ dx ⟨fun b o hb z => k₅ b o hb (k04 b o hb z), ⟨_, hx₅⟩, Nat.le_of_lt (Nat.lt_of_lt_of_le z4 dn), dne, hn₅⟩)
structure XMade (h h' : Heap) (e C d : Addr) (f : Str) (v : Value) : Prop where
  keep : ∀ b o, h.get? b = some o → h'.get? b = some o
  new : h.objs.size ≤ e
  obj : ∃ t1 : Addr, h'.get? e = some { cls := .ref C, dict := some d, data := .fields #[.ref t1, .none, .none, .none, .bool false, .none] }
  dbig : h.objs.size ≤ d
  dne : d ≠ e
  ns : h'.Ns1 d (fun y => if y = f then some v else none)
theorem vx_made (T : ExT P K mg x f C) {v : Value} (X : K.In s.heap) (hG : s.heap.Ns mainGlobals mg) (hB : ∃ mb, s.heap.Ns builtinsNs mb ∧ ∀ y : Str, y ≠ "__name__" → mb y = bootBuiltins y) (hlim : s.heap.NoLimit)
    (hroom : A.depth + 1 < recursionLimit) (hq : ∀ h' tk e d, XMade s.heap h' e C d f v → R (.ok (.ret (.ref e))) { s with heap := h', toks := tk }) :
    codeAny (model P w) A (.call (.ref C) ⟨[v], []⟩) R s := by
  obtain ⟨nm, q, N, bs, bm, sn, sub, ab, col, dd, k0, k1, k2, k3, k5, hC, hbm⟩ := T.cls
  obtain ⟨fI, _, _, _, _, _, _, _, _, _, _, _, _, _, _, _, _, _, _, _, _, _, _, _, hi, tI, _⟩ := T.fn
  obtain ⟨hp, g, dr, tk, os⟩ := s
  have k : ∀ b o, hp.get? b = some o → ((hp.push (kdv_tup [v])).push (excO C hp.objs.size)).get? b = some o := fun b o z => Heap.get?_push_of_some _ (Heap.get?_push_of_some _ z)
  have hget : ((hp.push (kdv_tup [v])).push (excO C hp.objs.size)).get? (hp.objs.size + 1) = some (excO C hp.objs.size) := by heap_get
  have hnx : K.lookup (hp.objs.size + 1) = none := by
    cases z : K.lookup (hp.objs.size + 1) with
    | none => rfl
    | some o => exact absurd (Nat.lt_of_succ_lt (Heap.lt_size (show hp.get? (hp.objs.size + 1) = some o from X _ _ z))) (Nat.lt_irrefl _)
  obtain ⟨mb, hmb, hbt⟩ := hB
  refine call_own PySem.F.excBase_ValueError (fun X => refsVE_contains X bm hbm) (X _ _ hC) (looks_findIn X hi) (fun self => bind_fn X self tI) (by show 1 ≤ sizeLine; decide) ?_
  refine vx_init (s := ⟨(hp.push (kdv_tup [v])).push (excO C hp.objs.size), g, dr, tk, os⟩) T (X.keeps k) (hG.keeps k) ⟨mb, hmb.keeps k, hbt⟩ (hlim.keeps k) hget hnx hroom hi fun h' tk' dx M => ⟨rfl, ?_⟩
  have z : hp.objs.size + 1 + 1 ≤ dx := by
    have q := M.dbig
    simpa only [Heap.size_push] using q
  exact hq h' tk' (hp.objs.size + 1) dx ⟨fun b o y => M.keep b o (Nat.ne_of_lt (Nat.lt_succ_of_lt (Heap.lt_size y))) (k b o y), Nat.le_succ _, M.obj, (by show hp.objs.size ≤ dx; omega), M.dne, M.ns⟩
end
end Fm
namespace Fm
open PySem PySem.Spec PyProof.Rows L2
theorem relO_one {v : V} {u : Value} (r : RelV v u) (f g : Str) : RelO (List.lookup g [(f, v)]) (if g = f then some u else none) := by
  by_cases hw : g = f
  · subst hw
    rw [if_pos rfl]
    rw [show List.lookup g [(g, v)] = some v by simp [List.lookup]]
    exact r
  · rw [if_neg hw]
    have q : (g == f) = false := by simpa using hw
    rw [show List.lookup g [(f, v)] = none by simp [List.lookup, q]]
    trivial
section
variable {X : Cx} {C : Addr} {x f : Str}
def tMkX (C : Addr) (f : Str) (ta : TA) : L2.St → Hp → XK → Prop := fun σ H Q => ta σ H fun vs H1 => ∃ v, vs = [v] ∧ ∀ d, H1 d = none → Q (.ref C) (some d) (upd H1 d (.xd [(f, v)]))
theorem pmk_x {a : Expr} {ta : TA} {p pos : Pos} {k : Nat} (T : ExT X.prog X.K X.mg x f C) (hr : Room k X.A) (ha : PA X [a] ta) (hg : Gl X x := by rfl) (hdb : (x == ("__debug__" : Str)) = false := by decide)
    (he : starEach (a :: []) X.env = (false, eval a X.env) :: starEach [] X.env := by rfl) (hpl : (backTo pos (starEach [] X.env)).any (·.1) = false := by rfl) :
    PMk X (.Call (.Name x p) [a] [] pos) (tMkX C f ta) := by
  intro pins s σ H Q I h
  refine wpAny_Call_Name_kw (ld_glob I hg T.gC ?_ hdb)
  refine PySem.W.callWith_K (h₀ := X.base) I.ok.mod.kin T.kC (thn (ha.run pos pins s σ H _ I h) fun us s1 hh => ?_) he hpl
  obtain ⟨vs, H1, I1, r1, v, rfl, q1⟩ := hh
  refine ⟨I1.kIn, ?_⟩
  obtain ⟨v', rfl, rv⟩ := r1.one
  have keepB : ∀ b o, X.base.get? b = some o → s1.heap.get? b = some o := fun b o z => (I1.env0.bs b o z).1
  have hG := I1.env0.mod.glob.keeps keepB
  obtain ⟨mb, hmb, hbt⟩ := I1.env0.mod.blt
  show wpAny _ _ (call (.ref C) [v']) _ _ _
  have hlim := I1.nolimit
  have hmb' := hmb.keeps keepB
  obtain ⟨hp, g, dr, tk, os⟩ := s1
  refine wpAny_call (vx_made T I1.kIn hG ⟨mb, hmb', hbt⟩ hlim (by have := hr.dp; omega) fun h' tk' e d M => ?_)
  show MkP X pins σ Q (.ref e) ⟨h', g, dr, tk', os⟩
  obtain ⟨t1, hoe⟩ := M.obj
  have hns := M.ns
  obtain ⟨G', g1, g2⟩ := restrict h' fun b => decide (b ≠ e)
  have gk : ∀ b, b ≠ e → G'.get? b = h'.get? b := fun b hb => g1 b (decide_eq_true hb)
  have ge : G'.get? e = none := g2 e (by simp)
  have old : ∀ b o, hp.get? b = some o → G'.get? b = some o := fun b o q => (gk b (Nat.ne_of_lt (Nat.lt_of_lt_of_le (Heap.lt_size q) M.new))).trans (M.keep b o q)
  have ob : ObjOk X.prog X.w (upd H1 d (.xd [(f, v)])) G' d (.xd [(f, v)]) := ⟨_, hns.at (fun o q => (gk d M.dne).trans q), fun y => relO_one rv f y⟩
  have J : Inv X pins σ (upd H1 d (.xd [(f, v)])) ⟨G', g, dr, tk', os⟩ := I1.laid (t' := tk') old M.dbig ob
  refine ⟨e, _, _, ⟨G', g, dr, tk', os⟩, _, .ref C, some d, rfl, J, fun b o q => ?_, ge, hoe, ⟨rfl, rfl⟩, rfl, rfl, ?_, rfl, I1.bare, raises_own T.exC T.tyC, q1 d (I1.hok.fresh M.dbig)⟩
  · by_cases hb : b = e
    · have q' : G'.get? b = some o := q
      rw [hb, ge] at q'
      cases q'
    · exact (gk b hb).symm.trans q
  · rw [upd_ne (Ne.symm M.dne)]
    exact I1.hok.fresh M.new
end
end Fm
namespace Fm
open PySem PySem.Spec PyProof.Rows L2
structure MethAt (K : PySem.W.Frag) (C : Addr) (m q : Str) (st : Stmt) (ps : List Str) where
  f : Addr
  fd : FuncData
  F : Fun K m q st f fd
  M : Meth K C m f
  b : Binds K fd ps []
structure ExN (K : PySem.W.Frag) (mg : Str → Option Value) (x : Str) (C : Addr) : Prop where
  gC : mg x = some (.ref C)
  exC : PySem.W.subIn K (.ref C) (.type "BaseException") = some true
  hdC : PySem.W.hasDictIn K C = true
  tyC : PySem.W.typeIn K (.ref C) = some (.type "type")
section
variable {X : Cx} {a : Addr} {oe : Obj} {cls : Value} {d : Option Addr} {pn : List (Addr × Obj)}
def rIsX (K : PySem.W.Frag) (a : Addr) (cls : Value) (d : Option Addr) : List V → Hp → VK → Prop := fun xs H Q => ∃ (D : Addr) (c : V) (cv : Value) (b : Bool), cls = .ref D ∧ ExcC K D ∧
  (d = none ∨ ∃ dd fs, d = some dd ∧ H dd = some (.xd fs)) ∧ xs = [.ref a, c] ∧ (∀ u, RelV c u → u = cv) ∧ PySem.W.kitOne K (.ref D) cv = some b ∧ Q (.bl b) H
theorem call_isX (hz : Zc cls d oe) (hf : ∃ vs, oe.data = .fields vs) : CallR (X.suite a ((a, oe) :: pn)) (.builtin "isinstance") (rIsX X.K a cls d) := by
  intro pins s σ H xs us Q I r h
  obtain ⟨D, c, cv, b, rfl, C, hd, rfl, hcv, e, q⟩ := h
  obtain ⟨u1, u2, rfl, rx, rt⟩ := vals2 r
  cases (show u1 = Value.ref a from rx)
  have ec := hcv _ rt
  subst ec
  obtain ⟨hget, _⟩ := I.pin (a, oe) (List.mem_append.mpr (.inl List.mem_cons_self))
  obtain ⟨vs, hv⟩ := hf
  have no : PySem.W.notCls oe = true := by
    unfold PySem.W.notCls
    rw [hv] <;> rfl
  obtain ⟨od, J⟩ : ∃ od, PySem.W.InstAt s.heap a oe D od := by
    rcases hd with rfl | ⟨dd, fs, rfl, hx⟩
    · refine ⟨none, hget, hz.1, no, ?_⟩
      rw [hz.2]
      trivial
    · obtain ⟨mA, hns, _⟩ := (show ObjOk X.prog X.w H s.heap dd (.xd fs) from I.hok dd _ hx)
      obtain ⟨od, ho, _⟩ := lookIn_ns hns
      refine ⟨some od, hget, hz.1, no, ?_⟩
      rw [hz.2]
      exact ho
  have hcl : (PySem.W.clsIn X.K D).isSome = true := by
    obtain ⟨cd, hc, _⟩ := PySem.W.any_some C.hd
    rw [hc]
    rfl
  exact PySem.W.kia_one (PySem.W.kitx_exc hcl C.hg C.hk C.hs C.ha C.hn C.ht C.hm) I.kIn J e (fun z => nomatch z) fun tk => ⟨.bl b, H, I.kept (t' := tk) fun _ _ z => z, rfl, q⟩
def tXfG (K : PySem.W.Frag) (a : Addr) (cls : Value) (d : Option Addr) (f : Str) (te : TE) : TE := fun σ H Q => te σ H fun x H1 => x = .ref a ∧ ∃ (C dd : Addr) (fs : List (Str × V)) (v : V), cls = .ref C ∧ XfC K C ∧ PySem.W.findIn K (.ref C) f = some none ∧
  d = some dd ∧ H1 dd = some (.xd fs) ∧ fs.lookup f = some v ∧ Q v H1
theorem pe_xfG {e : Expr} {te : TE} {pos : Pos} {n : Str} (hz : Zc cls d oe) (hf : ∃ vs, oe.data = .fields vs) (he : PE (X.suite a ((a, oe) :: pn)) e te) (hb : attributeBase e n X.env (eval e X.env) = eval e X.env := by rfl) :
    PE (X.suite a ((a, oe) :: pn)) (.Attribute e n pos) (tXfG X.K a cls d n te) := by
  refine ⟨fun pins s σ H Q I h => ?_⟩
  refine attr_of hb (thn (he.run pins s σ H _ I h) fun u s1 hh => ?_)
  obtain ⟨x, H1, I1, rx, rfl, C, dd, fs, v, rfl, T, hno, rfl, ea, l, q⟩ := hh
  obtain rfl : u = Value.ref a := rx
  obtain ⟨ha, _⟩ := I1.pin (a, oe) (List.mem_append_left _ List.mem_cons_self)
  obtain ⟨vs, hd⟩ := hf
  obtain ⟨mA, hns, hr⟩ := (show ObjOk X.prog X.w H1 s1.heap dd (.xd fs) from I1.hok dd _ ea)
  obtain ⟨od, ho, hl⟩ := lookIn_ns hns
  obtain ⟨u, hu, ru⟩ := RelO.some_of (v := v) (o := mA n) (by rw [← l]; exact hr n)
  have no : PySem.W.notCls oe = true := by
    unfold PySem.W.notCls
    rw [hd] <;> rfl
  have J : PySem.W.InstAt s1.heap a oe C (some od) := ⟨ha, hz.1, no, by rw [hz.2]; exact ho⟩
  exact HandSPX.exc_get I1.kIn J T.ga T.gg T.exC (PySem.W.findObj_own T.hdC hno rfl (by rw [hl, hu])) (handed_of ru) ⟨v, H1, I1.tok _, ru, q⟩
end
end Fm
namespace Fm
open PySem PySem.Spec PyProof.Rows L2
theorem FnOk.up {P : Program} {w : World} {K : PySem.W.Frag} {mg : Str → Option Value} {base : Heap} {CX : CXT} {k : Nat} {f : Addr} {fd : FuncData} {ps : List Str} {sp : Sp} (F : FnOk P w K mg base CX0 k f fd ps sp) : FnOk P w K mg base CX k f fd ps sp :=
  ⟨F.len, fun A outer s H args us vs Q E hr he hb hv h => codeAny_mono (F.run A outer s H args us vs Q E hr he hb hv h) fun r s' hq => by
    cases r with
    | error e => exact False.elim hq
    | ok fl => cases fl <;> exact hq⟩
section
variable {X : Cx} {a : Addr} {oe : Obj} {cls : Value} {d : Option Addr} {pn : List (Addr × Obj)}
def rIsXT (K : PySem.W.Frag) (a : Addr) (cls : Value) (d : Option Addr) : List V → Hp → VK → Prop := fun xs H Q => ∃ (D tp : Addr) (cs : List V) (us : List Value) (b : Bool), cls = .ref D ∧ ExcC K D ∧
  (d = none ∨ ∃ dd fs, d = some dd ∧ H dd = some (.xd fs)) ∧ xs = [.ref a, .ref tp] ∧ H tp = some (.tup cs) ∧ Paired ClsV cs us ∧ PySem.W.kitAny K (.ref D) us = some b ∧ Q (.bl b) H
end
end Fm
namespace Fm
open PySem PySem.Spec PyProof.Rows L2 SlX
section
variable {prog : Program} {w : PySem.World} {A : Around} {E : Value → Shared → Prop} {s : Shared} {K : PySem.W.Frag} {x C f : Addr} {ox : Obj} {od : Option Obj} {b tb : Value}
end
section
variable {X : Cx} {CX : CXT} {pins : List (Addr × Obj)} {σ : L2.St} {H : Hp} {s : Shared} {C g : Addr} {n : Nat} {sp : Sp} {E : XK}
def Oth (K : PySem.W.Frag) (H : Hp) (C : Addr) (y : V) : Prop := (∃ b C' dy ws, y = .ref b ∧ Slt H b C' dy ws ∧ PySem.W.notFirst K C (.ref C') = true) ∨ ∃ tb, TyX K H y tb ∧ PySem.W.notFirst K C tb = true
theorem Oth.looks {y : V} {u : Value} (I : Inv X pins σ H s) (ry : RelV y u) (h : Oth X.K H C y) : ∃ tb, PySem.W.Looks (model X.prog X.w) s.heap (typeOf u) tb ∧ PySem.W.notFirst X.K C tb = true := by
  rcases h with ⟨b, C', dy, ws, rfl, hb, hn⟩ | ⟨tb, ht, hn⟩
  · cases (show u = Value.ref b from ry)
    obtain ⟨sl, od, _, J, _⟩ := slt_inst I hb
    exact ⟨_, J.type, hn⟩
  · obtain ⟨P, kx, hp, _⟩ := kit_of I ry ht
    exact ⟨tb, kx.ty _ _ I.kIn hp, hn⟩
def rOwnG (K : PySem.W.Frag) (C : Addr) (sp : Sp) (E : XK) : R2 := fun x y H Q => ∃ a dx vs, x = .ref a ∧ Slt H a C dx vs ∧ Oth K H C y ∧ sp [x, y] H Q E
theorem op_ownG (hs : PySem.W.findIn X.K (.ref C) "__eq__" = some (some (.ref g))) (hf : PySem.W.isFn X.K (.ref g) = true) (F : FnR X.prog X.w X.K X.mg X.base CX n g sp)
    (hr : Room n X.A) (hx : Passes CX X E) : OpR X (compareOp .Eq) (rOwnG X.K C sp E) := by
  intro pins s σ H x y v u Q I rx ry h
  obtain ⟨a, dx, vs, rfl, ha, ho, q⟩ := h
  cases (show v = Value.ref a from rx)
  obtain ⟨sl, od, _, J, _⟩ := slt_inst I ha
  obtain ⟨tb, L, hn⟩ := ho.looks I ry
  obtain ⟨m, hF⟩ := I.fr
  refine PySem.W.cmp_K (op := .Eq) (tb := tb) hr.units0 hF I.ok.mod.kin J L hn hs hf ?_
  refine wpAny_mono (wpAny_call (run_fnR (us := [.ref a, u]) (vs := [.ref a, y]) F hr hx I (.cons rfl (.cons ry .nil)) q)) (fun w s' z => ?_) fun _ _ x => x
  obtain ⟨z', H', I', rz, qz⟩ := z
  exact cmpback rz ⟨z', H', I', rz, qz⟩
def rNeOwn (K : PySem.W.Frag) (C : Addr) (sp : Sp) (E : XK) : R2 := fun x y H Q => ∃ a dx vs, x = .ref a ∧ Slt H a C dx vs ∧ Oth K H C y ∧ sp [x, y] H (fun z H' => ∃ k, z = .bl k ∧ Q (.bl (!k)) H') E
end
end Fm
namespace Fm
open PySem PySem.Spec PyProof.Rows L2 SlX
section
variable {prog : Program} {w : PySem.World} {A : Around} {E : Value → Shared → Prop} {s : Shared} {K : PySem.W.Frag} {x y C f : Addr} {ox oy : Obj} {od ody : Option Obj}
structure MulC (K : PySem.W.Frag) (C f : Addr) : Prop where
  self : PySem.W.selfFirst K C = true
  find : PySem.W.findIn K (.ref C) "__mul__" = some (some (.ref f))
  fn : PySem.W.isFn K (.ref f) = true
theorem MulC.cls (h : MulC K C f) : ∃ cd rest, PySem.W.clsIn K C = some cd ∧ cd.mro = .ref C :: rest := by
  have h1 := h.self
  unfold PySem.W.selfFirst at h1
  cases e : PySem.W.clsIn K C with
  | none =>
    rw [e] at h1
    cases h1
  | some cd =>
    rw [e] at h1
    have h2 : cd.mro.head? = some (.ref C) := by simpa using h1
    cases e2 : cd.mro with
    | nil =>
      rw [e2] at h2
      cases h2
    | cons c rest =>
      rw [e2] at h2
      cases h2
      exact ⟨cd, rest, rfl, e2⟩
end
section
variable {X : Cx} {CX : CXT} {C g : Addr} {n : Nat} {sp : Sp} {E : XK}
def rMulOwn (K : PySem.W.Frag) (C : Addr) (sp : Sp) (E : XK) : R2 := fun x y H Q => ∃ a b dx dy vs ws, x = .ref a ∧ y = .ref b ∧ Slt H a C dx vs ∧ Slt H b C dy ws ∧ sp [x, y] H (fun z H' => (∃ r, z = .ref r) ∧ Q z H') E
end
section
variable {prog : Program} {w : PySem.World} {A : Around} {E : Value → Shared → Prop} {s : Shared} {K : PySem.W.Frag} {x C f : Addr} {ox : Obj} {od : Option Obj}
end
section
variable {M : Model} {A : Around} {E : Value → Shared → Prop} {s : Shared}
end
section
variable {X : Cx} {CX : CXT} {C g : Addr} {n : Nat} {sp : Sp} {E : XK}
def tCallI (C : Addr) (sp : Sp) (E : XK) (to : TE) (t : TA) : TE := fun σ H Q => to σ H fun x H1 => ∃ a, x = .ref a ∧ t σ H1 fun us H2 => ∃ dx vs, Slt H2 a C dx vs ∧ sp (.ref a :: us) H2 Q E
end
section
variable {X : Cx} {CX : CXT} {C g : Addr} {n : Nat} {fd : FuncData} {ps : List Str} {sp : Sp} {E : XK}
def rReprOwn (C : Addr) (sp : Sp) (E : XK) : List V → Hp → VK → Prop := fun xs H Q => ∃ a dx vs, xs = [V.ref a] ∧ Slt H a C dx vs ∧ sp [.ref a] H (fun z H' => (∃ t : Str, z = .str t) ∧ Q z H') E
end
structure SMet (K : PySem.W.Frag) (C : Addr) (mc : Value) (m : Str) (p g : Addr) : Prop where
  rd : ClX.CRead K C mc
  ty : PySem.W.typeIn K (.ref C) = some mc
  at_ : PySem.W.findCls K (.ref C) mc m = some (.get (.builtin "staticmethod.__get__") (.ref p) .none (.ref C))
  rc : ∃ rest, PySem.W.recIn K p "staticmethod" = some (.ref g :: rest)
  kp : PySem.W.keepIn K (.ref g) = true
def tSMeth (C : Addr) (sp : Sp) (E : XK) (ta : TE) (t : TA) : TE := fun σ H Q => ta σ H fun x H1 => x = .ref C ∧ t σ H1 fun vs H2 => sp vs H2 Q E
section
variable {X : Cx} {CX : CXT} {k : Nat} {C p g : Addr} {mc : Value} {sp : Sp} {E : XK} {o e : Expr} {es : List Expr} {m : Str} {pos apos : Pos} {ta : TE} {t : TA} {pl : Sem Bool}
end
def tFmtRD (K : PySem.W.Frag) (te : TE) : TE := fun σ H Q => te σ H fun x H1 => ∃ (a : Addr) (d : PyData), x = .ref a ∧ Dp K H1 (.ref a) d ∧ d.showable = true ∧ d.hasDict = false ∧ d.depth ≤ 60 ∧ d.shown.length ≤ sizeLine ∧ Q (.str d.shown) H1
section
variable {X : Cx}
end
section
variable {X : Cx} {CX : CXT} {C g : Addr} {k : Nat} {fd : FuncData} {ps : List Str} {sp : Sp} {E : L2.St → XK} {a b : Expr} {ta tb : TE} {pos : Pos}
def tMulS (C : Addr) (sp : Sp) (E : L2.St → XK) (ta tb : TE) : TE := fun σ H Q => ta σ H fun x H1 => tb σ H1 fun y H2 => ∃ p q dx dy vs ws, x = .ref p ∧ y = .ref q ∧ Slt H2 p C dx vs ∧ Slt H2 q C dy ws ∧ sp [.ref p, .ref q] H2 (fun z H' => (∃ r, z = .ref r) ∧ Q z H') (E σ)
end
structure StatAt (K : PySem.W.Frag) (C : Addr) (m q : Str) (st : Stmt) (ps : List Str) where
  f : Addr
  fd : FuncData
  F : Fun K m q st f fd
  p : Addr
  S : SMet K C (.type "type") m p f
  b : Binds K fd ps []
end Fm
namespace Fm
open PySem PySem.Spec PyProof.Rows L2 SlX
def rIsiTX (K : PySem.W.Frag) : List V → Hp → VK → Prop := fun xs H Q => rIsiT K xs H Q ∨ ∃ (a C dx : Addr) (vs : List (Option V)) (tp : Addr) (cs : List V) (us : List Value) (b : Bool), xs = [.ref a, .ref tp] ∧ H tp = some (.tup cs) ∧ Paired ClsV cs us ∧ Slt H a C dx vs ∧ SCls K C ∧ SIsi K C ∧ PySem.W.kitAny K (.ref C) us = some b ∧ Q (.bl b) H
theorem call_isiTX {X : Cx} : CallR X (.builtin "isinstance") (rIsiTX X.K) := by
  intro pins s σ H xs us Q I r h
  rcases h with h | ⟨a, C, dx, vs, tp, cs, ws, b, rfl, hT, k, hsl, hc, hi, hk, q⟩
  · exact call_isiT pins s σ H xs us Q I r h
  · obtain ⟨u1, u2, rfl, r1, r2⟩ := r.two
    cases (show u1 = Value.ref a from r1)
    cases (show u2 = Value.ref tp from r2)
    obtain ⟨sl, od, _, J, _⟩ := slt_inst I hsl
    obtain ⟨_, its, rv, o, h1, h2, n, h3⟩ := (show ObjOk X.prog X.w H s.heap tp (.tup cs) from I.hok tp _ hT)
    have e3 := ClsV.all k rv
    subst e3
    obtain ⟨oc, od2, dt, sl2⟩ := o
    simp only at h2 h3
    subst h2 h3
    exact PySem.W.kia_tup (OwX.kitx_slt hc.ic (hc.get _) hi.ca hi.cn hi.ct hi.cm) I.kIn J h1 hk (fun z => nomatch z) fun tk => ⟨.bl b, H, I.tok _, rfl, q⟩
theorem kitAny_no {K : PySem.W.Frag} {C : Addr} (h1 : PySem.W.subIn K (.ref C) (.type "list") = some false) (h2 : PySem.W.subIn K (.ref C) (.type "tuple") = some false) : PySem.W.kitAny K (.ref C) [.type "list", .type "tuple"] = some false := by
  have k : ∀ T : String, PySem.W.kitMeta T = true → PySem.W.subIn K (.ref C) (.type T) = some false → PySem.W.kitOne K (.ref C) (.type T) = some false := fun T hm hs => by
    unfold PySem.W.kitOne
    rw [if_neg (by intro z; cases (of_decide_eq_true z))]
    show (if _ then _ else _) = _
    rw [if_pos hm]
    exact hs
  unfold PySem.W.kitAny
  rw [k "list" (by decide +kernel) h1]
  unfold PySem.W.kitAny
  rw [k "tuple" (by decide +kernel) h2]
  rfl
def Txo (x : Str) : Prop := ∀ c ∈ x.cps.toList, c < 0x110000
theorem Txo.ok {x : Str} (h : Txo x) : PyData.strOk x = true := by
  show x.cps.all (· < 0x110000) = true
  rw [Array.all_eq_true_iff_forall_mem]
  intro c hc
  have := h c (by simpa using hc)
  simpa using this
theorem txo_of {x : Str} (h : PyData.strOk x = true) : Txo x := fun c hc => by
  have h' : x.cps.all (· < 0x110000) = true := h
  rw [Array.all_eq_true_iff_forall_mem] at h'
  simpa using h' c (by simpa using hc)
theorem Txo.app {x y : Str} (h : Txo x) (k : Txo y) : Txo (x ++ y) := fun c hc => by
  have e : (x ++ y).cps = x.cps ++ y.cps := rfl
  rw [e, Array.toList_append, List.mem_append] at hc
  exact hc.elim (h c) (k c)
theorem char_lt (c : Char) : c.toNat < 0x110000 := by
  have := c.valid
  have e : c.toNat = c.val.toNat := rfl
  rcases this with h | ⟨_, h⟩ <;> omega
theorem txo_str (s : String) : Txo (Str.ofString s) := fun c hc => by
  rw [Str.ofString_eq_toList] at hc
  obtain ⟨d, _, rfl⟩ := List.mem_map.mp (by simpa using hc)
  exact char_lt d
theorem repr_lt {q c : Nat} (hq : q < 0x110000) (hc : c < 0x110000) : ∀ d ∈ Builtin.Str.reprChar q c, d < 0x110000 := by
  have hx : ∀ w : Nat, ∀ d ∈ List.replicate (w - ((Nat.toDigits 16 c).map Char.toNat).length) 48 ++ (Nat.toDigits 16 c).map Char.toNat, d < 0x110000 := fun w d hd => by
    rcases List.mem_append.mp hd with h | h
    · have := (List.mem_replicate.mp h).2
      omega
    · obtain ⟨e, _, rfl⟩ := List.mem_map.mp h
      exact char_lt e
  intro d hd
  unfold Builtin.Str.reprChar at hd
  dsimp only at hd
  repeat' split at hd
  all_goals first
    | (simp only [List.mem_cons, List.not_mem_nil, or_false] at hd; omega)
    | (simp only [List.mem_append, List.mem_cons, List.not_mem_nil, or_false] at hd
       rcases hd with h | h
       · omega
       · exact hx _ d (List.mem_append.mpr h))
theorem fold_lt {q : Nat} (hq : q < 0x110000) : ∀ (l : List Nat) (acc : Array Nat), (∀ c ∈ l, c < 0x110000) → (∀ c ∈ acc.toList, c < 0x110000) → ∀ c ∈ (l.foldl (fun out c => out ++ (Builtin.Str.reprChar q c).toArray) acc).toList, c < 0x110000
  | [], acc, _, h, c, hc => h c hc
  | x :: l, acc, hl, h, c, hc => by
    refine fold_lt hq l _ (fun d hd => hl d (List.mem_cons_of_mem _ hd)) (fun d hd => ?_) c hc
    rw [Array.toList_append, List.mem_append] at hd
    exact hd.elim (h d) (repr_lt hq (hl x List.mem_cons_self) d)
theorem txo_repr {x : Str} (h : Txo x) : Txo (reprText x) := fun c hc => by
  unfold reprText at hc
  have hq : reprQuote x < 0x110000 := by
    unfold reprQuote
    split <;> omega
  rw [Array.toList_push, List.mem_append, ← Array.foldl_toList] at hc
  rcases hc with hc | hc
  · refine fold_lt hq x.cps.toList #[reprQuote x] h (fun d hd => ?_) c hc
    simp at hd
    omega
  · simp at hc
    omega
theorem txo_from : ∀ (ts : List Str) (k : Nat) (acc : Str), Txo acc → (∀ t ∈ ts, Txo t) → Txo (textFrom k acc ts)
  | [], _, acc, h, _ => h
  | t :: ts, k, acc, h, hs => by
    show Txo (textFrom (k + 1) (acc ++ (if k > 0 then ", " else "" : String) ++ t) ts)
    exact txo_from ts (k + 1) _ ((h.app (txo_str _)).app (hs t List.mem_cons_self)) fun u hu => hs u (List.mem_cons_of_mem _ hu)
theorem txo_join {sep : Str} (hsep : Txo sep) : ∀ ts : List Str, (∀ t ∈ ts, Txo t) → Txo (Str.join sep ts)
  | [], _ => fun c hc => by
    have e : (Str.join sep []).cps.toList = [] := rfl
    rw [e] at hc
    cases hc
  | [t], h => h t List.mem_cons_self
  | t :: u :: ts, h => by
    show Txo (t ++ sep ++ Str.join sep (u :: ts))
    exact ((h t List.mem_cons_self).app hsep).app (txo_join hsep (u :: ts) fun v hv => h v (List.mem_cons_of_mem _ hv))
mutual
theorem txo_shown : ∀ d : PyData, fine d → Txo d.shown
  | .none, _ => by simp only [PyData.shown]; exact txo_str _
  | .bool b, _ => by cases b <;> (simp only [PyData.shown]; exact txo_str _)
  | .int i, _ => by simp only [PyData.shown]; exact txo_str _
  | .str x, h => by simp only [PyData.shown]; exact txo_repr (txo_of h)
  | .list xs, h => by
    simp only [PyData.shown]
    unfold listText
    exact (txo_from _ _ _ (txo_str _) (txo_showns xs h)).app (txo_str _)
  | .tuple xs, h => by
    simp only [PyData.shown]
    unfold tupleText
    exact ((txo_str _).app (txo_join (txo_str _) _ (txo_showns xs h))).app (txo_str _)
  | .dict _, h => h.elim
theorem txo_showns : ∀ xs : List PyData, fineAll xs → ∀ t ∈ PyData.shownAll xs, Txo t
  | [], _, t, ht => by simp [PyData.shownAll] at ht
  | x :: xs, h, t, ht => by
    simp only [PyData.shownAll, List.mem_cons] at ht
    rcases ht with rfl | ht
    · exact txo_shown x h.1
    · exact txo_showns xs h.2 t ht
end
end Fm
namespace Fm
open PySem PySem.Spec PyProof.Rows L2
def rRepTB (K : PySem.W.Frag) : R2 := fun x y H Q => ∃ l k xs, x = .ref l ∧ y = .int k ∧ SqT K H l xs ∧ xs ≠ [] ∧ 2 ≤ k ∧ k ≤ 1000000 ∧ xs.length * k.toNat ≤ 1000000 ∧ ∀ p, H p = none → Q (.ref p) (upd H p (.tup (List.replicate k.toNat xs).flatten))
section
variable {X : Cx}
end
end Fm
namespace Fm
open PySem PySem.Spec PyProof.Rows L2
section
variable {P : Program} {w : World}
def Apart (P : Program) (w : World) (e f : Int × Value) : Prop := ∀ k : Str, (strKind P w).is k e.2 = true → (strKind P w).is k f.2 = true → False
theorem apart_symm {e f : Int × Value} (h : Apart P w e f) : Apart P w f e := fun k a b => h k b a
def SetS (P : Program) (w : World) (h : Heap) (a : Addr) (S : Str → Bool) (n : Nat) : Prop := ∃ (o : Obj) (es : Array (Int × Value)) (ep : Nat) (t : SetTable), h.get? a = some o ∧ (o.ExactSet ∧ o.data = .set es ep t) ∧
  (ElemsOf (strKind P w) es.toList ∧ es.toList.Pairwise (Apart P w) ∧ ∀ k, S k = true ↔ ∃ e ∈ es.toList, (strKind P w).is k e.2 = true) ∧ (es.size < scanBound ∧ t.fits es.size = true ∧ es.size = n) ∧ Ris t.place.toList ∧ (w.params.followText "set-order" = true ∨ t.led = true)
theorem SetS.at {h h' : Heap} {a : Addr} {S : Str → Bool} {n : Nat} (R : SetS P w h a S n) (k : ∀ o, h.get? a = some o → h'.get? a = some o) : SetS P w h' a S n := by
  obtain ⟨o, es, ep, t, ho, r⟩ := R
  exact ⟨o, es, ep, t, k o ho, r⟩
theorem SetS.as {h : Heap} {a : Addr} {S S' : Str → Bool} {n : Nat} (R : SetS P w h a S n) (e : ∀ k, S' k = S k) : SetS P w h a S' n := by
  rw [funext e]
  exact R
theorem SetS.new {h : Heap} {a : Addr} {xs : List Str} (ho : h.get? a = some (eset w)) : SetS P w h a (fun k => decide (k ∈ xs.take 0)) 0 := by
  refine ⟨_, #[], 0, _, ho, ⟨⟨rfl, rfl, rfl⟩, rfl⟩, ⟨fun e he => by simp at he, .nil, fun k => by simp⟩, ⟨by decide, by rfl, rfl⟩, .nil, ?_⟩
  show _ ∨ (!w.params.followText "set-order") = true
  cases w.params.followText "set-order" with
  | true => exact .inl rfl
  | false => exact .inr rfl
abbrev rly (t : SetTable) (es : Array (Int × Value)) := relayAll t es (SetTable.grown es.size)
variable {A : Around} {E : Value → Shared → Prop} {s : Shared} {a : Addr} {S : Str → Bool} {n : Nat}
theorem sets_tail {g : Bool → Sem Unit} (hg : ∀ (b : Bool) (s1 : Shared) (Q : Unit → Shared → Prop), Q () s1 → wpAny (model P w) A (g b) Q E s1) {o : Obj} {es es1 : Array (Int × Value)} {ep : Nat} {t t2 : SetTable}
    (ho : s.heap.get? a = some o) (hx : o.ExactSet ∧ o.data = .set es ep t) (hE : ElemsOf (strKind P w) es1.toList ∧ es1.toList.Pairwise (Apart P w) ∧ ∀ k, S k = true ↔ ∃ e ∈ es1.toList, (strKind P w).is k e.2 = true)
    (hB : es1.size < scanBound) (hF : t2.fits es1.size = true) (hR : Ris t2.place.toList) (hL : w.params.followText "set-order" = true ∨ t2.led = true) {dm : Bool} {R : Option Bool → Shared → Prop}
    (fin : ∀ h', Heap.SameBut a s.heap h' → SetS P w h' a S es1.size → R (some true) { s with heap := h' }) :
    wpAny (model P w) A (do
      storeSet a es1 t2
      if (!dm && t2.tooFull) = true then do g (rly t2 es1).2.2; storeSet a (rly t2 es1).1 (rly t2 es1).2.1; pure (some true)
      else pure (some true)) R E s := by
  obtain ⟨hex, hd⟩ := hx
  obtain ⟨hE1, hE2, hE3⟩ := hE
  have put : ∀ {h : Heap} {o' : Obj} {e0 e1 : Array (Int × Value)} {ep' : Nat} {t0 t1 : SetTable}, h.get? a = some o' → o'.data = .set e0 ep' t0 → (h.update a (Obj.putSet e1 t1)).get? a = some { o' with data := .set e1 (ep' + 1) t1 } := fun hh hdd => store_at hh hdd
  refine wpAny_bind (wpAny_storeSet_of ho hd ?_ (fits_of_scanBound hB))
  have at1 := put (e1 := es1) (t1 := t2) ho hd
  have sb := Heap.SameBut.update s.heap a (Obj.putSet es1 t2)
  split
  · have q1 := relayAll_perm t2 es1 (SetTable.grown es1.size)
    have q2 := relayAll_fits t2 es1 (SetTable.grown es1.size)
    have q3 := relayAll_ris t2 es1 (SetTable.grown es1.size)
    have q4 := relayAll_led t2 es1 (SetTable.grown es1.size)
    rcases hz : relayAll t2 es1 (SetTable.grown es1.size) with ⟨f1, f2, f3⟩
    unfold rly
    rw [hz] at q1 q2 q3 q4 ⊢
    dsimp only at q1 q2 q3 q4 ⊢
    have hl : f1.size = es1.size := by rw [← Array.length_toList, q1.length_eq, Array.length_toList]
    refine wpAny_bind (hg _ _ _ (wpAny_bind (wpAny_storeSet_of at1 rfl ?_ (fits_of_scanBound (by rw [hl]; exact hB)))))
    refine wpAny_pure (fin _ (sb.trans (Heap.SameBut.update _ a _)) ⟨_, f1, _, f2, put at1 rfl, ⟨hex, rfl⟩, ⟨hE1.perm q1, (q1.pairwise_iff apart_symm).mpr hE2, fun k => ?_⟩, ⟨by rw [hl]; exact hB, q2, hl⟩, q3, hL.imp id fun z => q4.trans z⟩)
    rw [hE3 k]
    exact ⟨fun ⟨e, he, hk⟩ => ⟨e, q1.mem_iff.mpr he, hk⟩, fun ⟨e, he, hk⟩ => ⟨e, q1.mem_iff.mp he, hk⟩⟩
  · exact wpAny_pure (fin _ sb ⟨_, es1, _, t2, at1, ⟨hex, rfl⟩, ⟨hE1, hE2, hE3⟩, ⟨hB, hF, rfl⟩, hR, hL⟩)
theorem sets_add {k : Str} {tk : Tok} {Q : Bool → Shared → Prop} (R : SetS P w s.heap a S n) (room : n + 1 < scanBound)
    (fin : ∀ h', Heap.SameBut a s.heap h' → SetS P w h' a (fun j => S j || decide (j = k)) (if S k = true then n else n + 1) → Q (!S k) { s with heap := h' }) :
    wpAny (model P w) A (setAddHashed a (.str k tk) ((strKind P w).hash k)) Q E s := by
  obtain ⟨o, es, ep, t, ho, ⟨hex, hd⟩, ⟨hE1, hE2, hE3⟩, ⟨hB, hF, hN⟩, hR, hL⟩ := R
  have isk : (strKind P w).is k (.str k tk) = true := strKind_is P w k tk
  have sck : (Value.str k tk).scannable = true := rfl
  unfold setAddHashed setAddHashedIn
  refine wpAny_holding (wpAny_bind (wpAny_setState_of ho hd hF ?_))
  dsimp only
  rw [byScan_of sck hB hE1, if_pos rfl]
  unfold setAddByScan
  refine wpAny_bind (wpAny_bind (wpAny_rule (wpAny_bind (wpAny_setScan_of isk ho hd hF hE1 ?_))))
  rcases hfi : List.findIdx? (fun e : Int × Value => (strKind P w).is k e.2) es.toList with _ | j
  · dsimp only
    have no : ∀ e ∈ es.toList, (strKind P w).is k e.2 = true → False := fun e he z => by
      have := List.findIdx?_eq_none_iff.mp hfi e he
      rw [z] at this
      cases this
    have sk : S k = false := by
      cases z : S k with
      | false => rfl
      | true =>
        obtain ⟨e, he, hk⟩ := (hE3 k).mp z
        exact (no e he hk).elim
    have q1 := layNew_perm t es ((strKind P w).hash k) (.str k tk)
    have q2 := layNew_fits t es ((strKind P w).hash k) (.str k tk)
    have q3 := layNew_ris t es ((strKind P w).hash k) (.str k tk) hR
    have q4 := layNew_led t es ((strKind P w).hash k) (.str k tk)
    rcases hz : layNew t es ((strKind P w).hash k) (.str k tk) with ⟨f1, f2, dm, gv⟩
    rw [hz] at q1 q2 q3 q4
    dsimp only at q1 q2 q3 q4 ⊢
    rw [Array.toList_push] at q1
    have q5 : f1.toList.Perm (((strKind P w).hash k, Value.str k tk) :: es.toList) := q1.trans (List.perm_append_singleton _ _)
    have hl : f1.size = n + 1 := by rw [← Array.length_toList, q5.length_eq, List.length_cons, Array.length_toList, hN]
    have hE' : ElemsOf (strKind P w) f1.toList ∧ f1.toList.Pairwise (Apart P w) ∧ ∀ i, (S i || decide (i = k)) = true ↔ ∃ e ∈ f1.toList, (strKind P w).is i e.2 = true := by
      refine ⟨(hE1.push isk sck).perm q1, (q5.pairwise_iff apart_symm).mpr (.cons (fun e he j hj hje => ?_) hE2), fun i => ?_⟩
      · cases (strKind P w).inj _ j k hj isk
        exact no e he hje
      · rw [Bool.or_eq_true, decide_eq_true_eq, hE3 i]
        constructor
        · rintro (⟨e, he, hk⟩ | rfl)
          · exact ⟨e, q5.mem_iff.mpr (List.mem_cons_of_mem _ he), hk⟩
          · exact ⟨_, q5.mem_iff.mpr List.mem_cons_self, isk⟩
        · rintro ⟨e, he, hk⟩
          rcases List.mem_cons.mp (q5.mem_iff.mp he) with rfl | he
          · exact .inr ((strKind P w).inj _ i k hk isk)
          · exact .inl ⟨e, he, hk⟩
    have hL' : w.params.followText "set-order" = true ∨ f2.led = true := hL.imp id fun z => q4.trans z
    have fin' : ∀ h', Heap.SameBut a s.heap h' → SetS P w h' a (fun j => S j || decide (j = k)) f1.size → Q true { s with heap := h' } := fun h' sb r => by
      have := fin h' sb
      rw [sk] at this
      rw [hl] at r
      exact this r
    have hB' : f1.size < scanBound := by rw [hl]; exact room
    have gw : ∀ (b : Bool) {s1 : Shared} {Q' : Unit → Shared → Prop}, Q' () s1 → wpAny (model P w) A (match b with | true => rule "set.scan.the-table-gave-way" | false => pure ()) Q' E s1 := fun b s1 Q' q => by
      cases b
      · exact wpAny_pure q
      · exact wpAny_rule q
    refine wpAny_bind (gw _ ?_)
    split
    · refine wpAny_bind ?_
      rw [hashByValue_scannable 8 sck]
      refine wpAny_pure (sets_tail ?_ ho ⟨hex, hd⟩ hE' hB' ?_ ?_ ?_ ?_)
      · intro b s1 Q' q
        exact gw b q
      · first | (split <;> first | exact q2 | exact SetTable.fits_plain_off q2) | exact q2
      · first | (split <;> exact q3) | exact q3
      · first | (split <;> exact hL') | exact hL'
      · exact fun h' sb r => wpAny_pure (fin' h' sb r)
    · refine wpAny_bind (wpAny_pure ?_)
      rw [if_pos rfl]
      refine sets_tail ?_ ho ⟨hex, hd⟩ hE' hB' q2 q3 hL' ?_
      · intro b s1 Q' q
        exact gw b q
      · exact fun h' sb r => wpAny_pure (fin' h' sb r)
  · dsimp only
    obtain ⟨hj, pj, _⟩ := List.findIdx?_eq_some_iff_getElem.mp hfi
    have sk : S k = true := (hE3 k).mpr ⟨es.toList[j], List.getElem_mem hj, pj⟩
    have q := fin s.heap (Heap.SameBut.refl a s.heap) ⟨o, es, ep, t, ho, ⟨hex, hd⟩, ⟨hE1, hE2, fun i => ?_⟩, ⟨hB, hF, by rw [if_pos sk]; exact hN⟩, hR, hL⟩
    · rw [sk] at q
      exact wpAny_pure (wpAny_pure q)
    · rw [Bool.or_eq_true, decide_eq_true_eq, ← hE3 i]
      exact ⟨fun z => z.elim id fun e => by rw [e]; exact sk, .inl⟩
theorem sets_update {I : Addr} {fp wr : List Addr} {G : Array GenState → Array GenState → Prop} {m : Nat} {Pv : Nat → Value → Prop} {St : Nat → Shared → Prop} {R : Result → Shared → Prop}
    (W : WalksS P w A.in1 I fp wr G m Pv St) (a : Addr) (ha : a ∉ fp) (xs : List Str) (hm : m = xs.length) (hb : xs.length + 1 < scanBound) (hval : ∀ i v, Pv i v → ∃ k t, xs[i]? = some k ∧ v = .str k t) :
    ∀ (d i : Nat) (s : Shared), m - i = d → i ≤ m → St i s → (∃ c, c ≤ i ∧ SetS P w s.heap a (fun j => decide (j ∈ xs.take i)) c) →
      (∀ s' c, Moved (a :: wr) G s s' → c ≤ m → SetS P w s'.heap a (fun j => decide (j ∈ xs)) c → R (.ok (.ret .none)) s') → codeAny (model P w) A (.builtin "set.update.loop" ⟨[.ref a, .ref I], []⟩) R s := by
  have haw : a ∉ wr := fun z => ha (W.sub _ z)
  have more : ∀ b ∈ wr, b ∈ a :: wr := fun _ z => List.mem_cons_of_mem _ z
  intro d
  induction d with
  | zero =>
    rintro i s e1 e2 st ⟨c, hc, R0⟩ fin
    obtain rfl : i = m := by omega
    refine codeAny_builtin F.entry_set_update_loop ?_
    rw [Around.under_plainId F.plain_set_update_loop _]
    refine wpAny_bind (m := pyNext (.ref I)) (W.done s _ _ st fun s' mv => ?_)
    rw [List.take_of_length_le (by omega)] at R0
    exact wpAny_pure (fin s' c (mv.mono more) hc (R0.at fun o e => mv.heap a o haw e))
  | succ d ih =>
    rintro i s e1 e2 st ⟨c, hc, R0⟩ fin
    have lt : i < m := by omega
    refine codeAny_builtin F.entry_set_update_loop ?_
    rw [Around.under_plainId F.plain_set_update_loop _]
    refine wpAny_bind (m := pyNext (.ref I)) (W.item i s _ _ lt st fun v s' hP st' mv => ?_)
    obtain ⟨z, t, hz, rfl⟩ := hval i v hP
    have R1 := R0.at fun o e => mv.heap a o haw e
    refine wpAny_bind (m := holding [Value.str z t] (setAdd a (.str z t))) (wpAny_holding ?_)
    unfold setAdd
    refine wpAny_holding (wpAny_bind ((strKind P w).pyHash (k := z) (strKind_is P w z t) ?_))
    refine sets_add (s := { s' with toks := s'.toks + 1 }) R1 (by omega) fun g sb R2 => ?_
    have R3 : SetS P w g a (fun j => decide (j ∈ xs.take (i + 1))) (if decide (z ∈ xs.take i) = true then c else c + 1) := R2.as fun j => by
      rw [List.take_add_one, hz]
      simp [List.mem_append]
    have c3 : (if decide (z ∈ xs.take i) = true then c else c + 1) ≤ i + 1 := by split <;> omega
    have keep : ∀ b o, b ≠ a → s'.heap.get? b = some o → g.get? b = some o := fun b o hb e => by rw [sb.2 b hb]; exact e
    refine wpAny_pure ⟨plainId_quiet F.plain_set_update_loop _, ih (i + 1) _ (by omega) lt (W.frame _ s' _ _ st' (Nat.le_succ _) fun b hb o e => keep b o (fun z => ha (z ▸ hb)) e) ⟨_, c3, R3⟩ fun s2 c2 mv2 hc2 R4 => ?_⟩
    exact fin s2 c2 (Moved.trans W.gtrans ((mv.mono more).then_heap (Nat.le_succ _) fun b o hb e => keep b o (fun z => hb (z ▸ List.mem_cons_self)) e) mv2) hc2 R4
set_option maxHeartbeats 8000000 in
theorem set_of_strs {l : Addr} {its : Array Value} (xs : List Str) {Q : Value → Shared → Prop} (hh : A.handled = none) (hl : s.heap.IsList l its) (hi : StrsAre its.toList xs) (hb : xs.length + 1 < scanBound)
    (h : ∀ (g : Heap) (tk c : Nat), c ≤ xs.length → SetS P w g s.heap.objs.size (fun j => decide (j ∈ xs)) c → (∀ b o, s.heap.get? b = some o → g.get? b = some o) → Q (.ref s.heap.objs.size) { s with heap := g, toks := tk }) :
    wpAny (model P w) A (call (.type "set") [.ref l]) Q E s := by
  have hn : its.size = xs.length := by rw [← Array.length_toList]; exact StrsAre.length hi
  obtain ⟨mc, mt, mro⟩ := F.called_set.mro
  have mk1 := F.called_set.made
  have mk2 := F.called_set.sub
  refine wpAny_call (codeAny_of_tree (show wpAny _ _ (callAny (.type "set") _) _ _ _ from wpAny_pure ⟨Code.quiet_builtin _ (by decide +kernel), codeAny_builtin F.entry_type_call ?_⟩))
  rw [Around.under_plain (weight_type_call_type "set" [.ref l] []) rfl]
  have mk3 := F.called_set.notType
  have mk4 := F.called_set.canCreate
  have mk5 := F.typeCall_set_1 (.ref l)
  repeat (any_goals (first | assumption | wp_step))
  refine codeAny_mono (code_set_led1 (w := w) (s := s) (.ref l) (E := E)
    (Q₁ := fun obj s₁ => obj = .ref s.heap.objs.size ∧ s₁ = { s with heap := hset w s.heap }) ⟨rfl, rfl⟩) fun r s₁ hr => ?_
  match r, hr with
  | .error e, hr => exact hr
  | .ok (.ret obj), hr =>
    obtain ⟨rfl, rfl⟩ := hr
    have here : (hset w s.heap).get? s.heap.objs.size = some (eset w) := Heap.get?_push_size _ rfl
    have isS : Shared.TypeIs { s with heap := hset w s.heap } (.ref s.heap.objs.size) "set" := ⟨_, here, rfl⟩
    have in1 := F.called_set.init.lookup
    have in2 := F.called_set.init.bind (.ref s.heap.objs.size)
    repeat (any_goals (first | assumption | wp_step))
    have goes : codeAny (model P w) A.in1 (.call (.builtin "set.__init__") ⟨[.ref s.heap.objs.size, .ref l], []⟩) (wants (fun r s₂ => r = .none ∧ ∃ g tk c,
        s₂ = { s with heap := g, toks := tk } ∧ c ≤ xs.length ∧ SetS P w g s.heap.objs.size (fun j => decide (j ∈ xs)) c ∧ ∀ b o, s.heap.get? b = some o → g.get? b = some o) E) { s with heap := hset w s.heap } := by
      refine codeAny_call_builtin F.called_set.init.plain F.entry_set_init (check_set_init_1 isS ?_)
      obtain ⟨⟨oc, od, dt, sl⟩, hol, hcl, nl, hdl⟩ := id hl
      simp only at hcl hdl
      subst hcl hdl
      have lt := Heap.lt_size hol
      have hol2 : (hset w s.heap).get? l = some _ := Heap.get?_push_of_some _ hol
      have hl2 : (hset w s.heap).IsList l its := ⟨_, hol2, rfl, nl, rfl⟩
      have no1 := F.sub_list_set
      have no2 := F.sub_list_frozenset
      have no3 : (Value.type "list" == Value.type "dict") = false := by decide
      unfold Builtin.«set.__init__» noKeywords Builtin.Frozenset.updateFrom
      generalize hPI : pyIter = PI
      wp_walk
      subst hPI
      refine wpAny_pyIter_list hl2 (wpAny_bind (wpAny_runValue ?_))
      have sz2 : (hset w s.heap).objs.size = s.heap.objs.size + 1 := Heap.size_push ..
      have neI : l ≠ (hset w s.heap).objs.size := by
        rw [sz2]
        exact Nat.ne_of_lt (Nat.lt_succ_of_lt lt)
      have notIn : s.heap.objs.size ∉ [(hset w s.heap).objs.size, l] := by
        rw [sz2]
        intro z
        rcases List.mem_cons.mp z with z | z
        · exact Nat.ne_of_lt (Nat.lt_succ_self _) z
        · exact Nat.ne_of_gt lt (List.mem_singleton.mp z)
      have val : ∀ (i : Nat) (v : Value), its[i]? = some v → ∃ k t, xs[i]? = some k ∧ v = .str k t := fun i v hv => by
        obtain ⟨y, t, e1, e2⟩ := StrsAre.item hi i v (by rw [Array.getElem?_toList]; exact hv)
        exact ⟨y, t, e2, e1⟩
      have hh3 : A.in1.in1.in1.handled = none := by simp [hh]
      refine sets_update ((Walks.list hh3 _ l neI its).toS) s.heap.objs.size notIn xs hn hb val (its.size - 0) 0 _ (by omega) (Nat.zero_le _) ?st ?s0 ?fin
      case st => exact ⟨⟨_, Heap.get?_push_size _ rfl, rfl, rfl⟩, hl2.push _⟩
      case s0 => exact ⟨0, Nat.le_refl 0, .new (Heap.get?_push_of_some _ here)⟩
      case fin =>
        rintro ⟨g, gg, dd, tk, oo⟩ c' mv hc' hS'
        have e1 : gg = s.gens := mv.gens
        have e2 : dd = s.drawn := mv.drawn
        have e3 : oo = s.os := mv.os
        subst e1 e2 e3
        refine wpAny_pure (show wpAny _ _ (ret Value.none) _ _ _ from wpAny_pure ⟨rfl, g, tk, c', rfl, by omega, hS', fun b o e => ?_⟩)
        have b0 := Heap.lt_size e
        refine mv.heap b o (fun z => ?_) (Heap.get?_push_of_some _ (Heap.get?_push_of_some _ e))
        rcases List.mem_cons.mp z with z | z
        · exact Nat.ne_of_lt b0 z
        · have z2 := List.mem_singleton.mp z
          rw [sz2] at z2
          exact Nat.ne_of_lt (Nat.lt_succ_of_lt b0) z2
    refine codeAny_mono goes fun r₂ s₂ hr₂ => ?_
    match r₂, hr₂ with
    | .error e, hr₂ => exact hr₂
    | .ok (.ret r), hr₂ =>
      obtain ⟨rfl, g, tk, c', rfl, hc', hS', hk'⟩ := hr₂
      repeat (any_goals (first | assumption | wp_step))
      exact h _ _ _ hc' hS' hk'
end
end Fm
namespace Fm
open PySem PySem.Spec PyProof.Rows L2
def txtOf : Value → Str
  | .str k _ => k
  | _ => Str.empty
section
variable {P : Program} {w : World} {A : Around} {E : Value → Shared → Prop} {s : Shared} {a : Addr} {S : Str → Bool} {n : Nat}
end
def SetSO (P : Program) (w : World) (a : Addr) (S : Str → Bool) (n : Nat) : HO := .ext fun h => SetS P w h a S n
section
variable {X : Cx}
def rSetOfS (K : PySem.W.Frag) (P : Program) (w : World) : List V → Hp → VK → Prop := fun xs H Q => ∃ (l : Addr) (ts : List Str), xs = [V.ref l] ∧ SqL K H l (ts.map V.str) ∧ ts.length ≤ 1000 ∧
  ∀ p (n : Nat), H p = none → n ≤ ts.length → Q (.ref p) (upd H p (SetSO P w p (fun j => decide (j ∈ ts)) n))
def rSortedSS (P : Program) (w : World) : List V → Hp → VK → Prop := fun vs H Q => ∃ (a : Addr) (S : Str → Bool) (n : Nat), vs = [V.ref a] ∧ H a = some (SetSO P w a S n) ∧ n < 64 ∧
  ∀ (xs : List Str) (p : Addr), sortedS xs = true → xs.Nodup → (∀ k, k ∈ xs ↔ S k = true) → xs.length = n → H p = none → Q (.ref p) (upd H p (.lst (xs.map V.str)))
end
section
variable {P : Program} {w : World} {A : Around} {E : Value → Shared → Prop} {s : Shared}
abbrev LsAt (h : Heap) (a : Addr) (vs : List Value) : Prop := ∃ n, IsL h a vs.toArray n
end
section
variable {P : Program} {w : World} {fs ex : List Addr} {H : Hp} {h h' : Heap} {a : Addr} {o : HO}
end
section
variable {X : Cx}
def rSumL (K : PySem.W.Frag) : List V → Hp → VK → Prop := fun vs H Q => ∃ (a b : Addr) (ls : List (Addr × List V)), vs = [.ref a, .ref b] ∧ SqL K H a (ls.map fun e => V.ref e.1) ∧ H b = some (.lst []) ∧ (∀ e ∈ ls, H e.1 = some (.lst e.2)) ∧ ((ls.map (·.2)).flatten).length ≤ sizeLine ∧
  (ls = [] → Q (.ref b) H) ∧ ∀ p, H p = none → Q (.ref p) (upd H p (.lst ((ls.map (·.2)).flatten)))
end
abbrev veMro : List Value := [.type "ValueError", .type "Exception", .type "BaseException", .type "object"]
structure ExZ (K : PySem.W.Frag) (mg : Str → Option Value) (x : Str) (C : Addr) : Prop where
  gC : mg x = some (.ref C)
  exC : PySem.W.subIn K (.ref C) (.type "BaseException") = some true
  hdC : PySem.W.hasDictIn K C = true
  tyC : PySem.W.typeIn K (.ref C) = some (.type "type")
  kC : PySem.W.keepIn K (.ref C) = true
  q : PySem.W.excIn K C veMro "ValueError.__new__" = true
section
variable {X : Cx} {C : Addr} {x : Str}
theorem pmk_z {p pos : Pos} (T : ExZ X.K X.mg x C) (hg : Gl X x := by rfl) (hdb : (x == ("__debug__" : Str)) = false := by decide) : PMk X (.Call (.Name x p) [] [] pos) (fun _ H Q => Q (.ref C) none H) := by
  intro pins s σ H Q I h
  refine wpAny_Call_Name_kw (ld_glob I hg T.gC ?_ hdb)
  refine PySem.W.callWith_K0 I.kIn T.kC ?_
  obtain ⟨bm, N, nm, qn, bs, hdct, sn, sub, ab, col, dd, k0, k1, k2, k3, k5, mN, hC, hN, hni, tl⟩ := exc_obj I.kIn T.q
  exact wpAny_call_exc_subT PySem.F.excBase_ValueError tl hC hN hni (fun h' e hm => mk_of I hm (raises_own T.exC T.tyC) h (I.hok.gone hm.new)) (Nat.zero_le _)
end
theorem kitOne_exd {K : PySem.W.Frag} {C D : Addr} (h : PySem.W.subIn K (.ref D) (.ref C) = some false) (hne : D ≠ C) (hc : PySem.W.hasDictIn K C = true) (ht : PySem.W.typeIn K (.ref C) = some (.type "type")) : PySem.W.kitOne K (.ref D) (.ref C) = some false := by
  unfold PySem.W.kitOne
  rw [if_neg (by simpa using hne)]
  show (if _ then _ else _) = _
  rw [if_pos ?_]
  · exact h
  · rw [ht]
    obtain ⟨cd, e, _⟩ := PySem.W.any_some hc
    simp [e]
theorem kitOne_ve {K : PySem.W.Frag} {D : Addr} (h : PySem.W.subIn K (.ref D) (.type "ValueError") = some true) : PySem.W.kitOne K (.ref D) (.type "ValueError") = some true := by
  unfold PySem.W.kitOne
  rw [if_neg (by simp)]
  show (if PySem.W.kitMeta "ValueError" = true then PySem.W.subIn K (.ref D) (.type "ValueError") else none) = _
  rw [if_pos (by decide +kernel)]
  exact h
end Fm
namespace Fm
open PySem PySem.Spec PyProof.Rows L2 SlX
section
variable {X : Cx} {CX : CXT} {k : Nat} {f C : Addr} {fd : FuncData} {ps : List Str} {sp : Sp} {E : L2.St → XK} {x : Str} {p pos : Pos} {e : Expr} {es : List Expr} {t : TA}
theorem run_makeS {pins : List (Addr × Obj)} {σ : L2.St} {H : Hp} {s : Shared} {Q : VK} {us : List Value} {vs : List V} (M : Mk X.K C f) (F : FnOk X.prog X.w X.K X.mg X.base CX k f fd ps sp) (hr : Room (k + 1) X.A) (hb : Binds X.K fd ps [])
    (hx : PassesAt CX X σ (E σ)) (I : Inv X pins σ H s) (r : Vals vs us)
    (h : ∀ x dx, H x = none → H dx = none → dx ≠ x → sp (.ref x :: vs) (upd (upd H dx (.own x)) x (.ins C dx [])) (fun v H2 => v = .non ∧ Q (.ref x) H2) (E σ)) :
    wpAny (model X.prog X.w) X.A (call (.ref C) us) (EP X pins σ Q) X.xe s := by
  have hq := h (s.heap.objs.size + 1) s.heap.objs.size (I.hok.fresh (Nat.le_succ _)) (I.hok.fresh (Nat.le_refl _)) (Nat.ne_of_lt (Nat.lt_succ_self _))
  have I2 := Inv.made (C := C) I
  have r2 : Vals (V.ref (s.heap.objs.size + 1) :: vs) (Value.ref (s.heap.objs.size + 1) :: us) := .cons rfl r
  have hl : (Value.ref (s.heap.objs.size + 1) :: us).length = ps.length := by
    have e := r2.length
    rw [F.len _ _ _ _ hq] at e
    exact e.symm
  have b := hb { s with heap := (s.heap.push _).push _ } (Value.ref (s.heap.objs.size + 1) :: us) I2.kIn (by rw [List.append_nil]; exact hl)
  rw [List.append_nil] at b
  refine wpAny_call (make_map (f := f) I.kIn M.makes M.init (beq_iff_eq.mp M.fn) (codeAny_mono (F.run _ X.stack _ _ ⟨Value.ref (s.heap.objs.size + 1) :: us, []⟩ (Value.ref (s.heap.objs.size + 1) :: us) _ _ (E σ) (hr.make C us [])
    (I2.env0.make C us []) b r2 hq) fun r s' hq' => ?_))
  cases r with
  | error e => exact hx pins _ _ e s' I2 hq'
  | ok fl =>
    cases fl with
    | ret u =>
      obtain ⟨v, H', I3, rv, ev, q3⟩ := I2.after hq'
      subst ev
      exact ⟨rv, ⟨V.ref (s.heap.objs.size + 1), H', I3, rfl, q3⟩⟩
    | next => exact False.elim hq'
    | brk => exact False.elim hq'
    | cont => exact False.elim hq'
def tMakeS (C : Addr) (sp : Sp) (E : L2.St → XK) (t : TA) : TE := fun σ H Q => t σ H fun vs H1 => ∀ x dx, H1 x = none → H1 dx = none → dx ≠ x → sp (.ref x :: vs) (upd (upd H1 dx (.own x)) x (.ins C dx [])) (fun v H2 => v = .non ∧ Q (.ref x) H2) (E σ)
theorem pe_makeS (M : Mk X.K C f) (F : FnOk X.prog X.w X.K X.mg X.base CX k f fd ps sp) (hr : Room (k + 1) X.A) (hg : Gl X x) (hm : X.mg x = some (.ref C)) (hb : Binds X.K fd ps []) (hx : ∀ σ, PassesAt CX X σ (E σ))
    (ha : PA X (e :: es) t) (hdb : (x == ("__debug__" : Str)) = false := by decide) (he : starEach (e :: es) X.env = (false, eval e X.env) :: starEach es X.env := by rfl) (hpl : (backTo pos (starEach es X.env)).any (·.1) = false := by rfl) :
    PE X (.Call (.Name x p) (e :: es) [] pos) (tMakeS C sp E t) := by
  refine ⟨fun pins s σ H Q I h => ?_⟩
  refine wpAny_Call_Name_kw (ld_glob I hg hm ?_ hdb)
  refine PySem.W.callWith_K (h₀ := X.base) I.ok.mod.kin M.kp (thn (ha.run pos pins s σ H _ I h) fun us s1 ⟨vs, H1, I1, r, q⟩ => ⟨I1.kIn, ?_⟩) he hpl
  exact run_makeS M F hr hb (hx σ) I1 r q
end
end Fm
namespace Fm
open PySem PySem.Spec PyProof.Rows L2 SlX
structure PropAt (K : PySem.W.Frag) (C : Addr) (m q : Str) (st : Stmt) (ps : List Str) where
  f : Addr
  fd : FuncData
  F : Fun K m q st f fd
  p : Addr
  at_ : PySem.W.findIn K (.ref C) m = some (some (.ref p))
  get : PySem.W.specialIn K (.ref p) "__get__" = some (some (.builtin "property.__get__"))
  tk : PySem.W.takesIn K (.ref p) = some true
  rc : ∃ rest, PySem.W.recIn K p "property" = some (.ref f :: rest)
  b : Binds K fd ps []
section
variable {X : Cx} {CX : CXT} {C g : Addr} {n : Nat} {sp : Sp} {E : XK}
def rLenOwn (C : Addr) (sp : Sp) (E : XK) : List V → Hp → VK → Prop := fun xs H Q => ∃ a dx vs, xs = [V.ref a] ∧ Slt H a C dx vs ∧ sp [.ref a] H (fun z H' => ∃ i : Nat, z = .int i ∧ i ≤ 1000000 ∧ Q z H') E
theorem call_lenOwn (hs : PySem.W.findIn X.K (.ref C) "__len__" = some (some (.ref g))) (hf : PySem.W.isFn X.K (.ref g) = true) (F : FnR X.prog X.w X.K X.mg X.base CX n g sp) (hr : Room (n + 1) X.A) (hx : Passes CX X E) : CallR X (.builtin "len") (rLenOwn C sp E) := by
  intro pins s σ H xs us Q I r h
  obtain ⟨a, dx, vs, rfl, hsl, q⟩ := h
  obtain ⟨u, rfl, ru⟩ := r.one
  cases (show u = Value.ref a from ru)
  obtain ⟨sl, od, _, J, _⟩ := slt_inst I hsl
  obtain ⟨m, hF⟩ := I.fr
  refine PySem.W.len_K hF I.ok.mod.kin J hs hf (wpAny_mono (wpAny_call (run_at (us := [.ref a]) (ws := [.ref a]) F (Room.in1 hr) I.env0.in1 hx I (.cons rfl .nil) q)) (fun w s' z => ?_) fun _ _ x => x)
  obtain ⟨z', H', I', rz, i, ei, hi, qz⟩ := z
  subst ei
  obtain ⟨t, e⟩ := (show ∃ t, w = Value.int (i : Int) t from rz)
  subst e
  refine ⟨⟨by omega, by omega⟩, ?_⟩
  exact ⟨.int i, H', I'.tok _, ⟨_, rfl⟩, qz⟩
end
end Fm
namespace Fm
open PySem PySem.Spec PyProof.Rows L2 SlX
structure DefAt (K : PySem.W.Frag) (mg : Str → Option Value) (x : Str) (st : Stmt) (ps : List Str) where
  f : Addr
  fd : FuncData
  F : Fun K x x st f fd
  g : mg x = some (.ref f)
  b : Binds K fd ps []
def topS (i : Nat) : Stmt := PySem.Challenge.pw_framemoves_k82_loops_unrolled.main.body.getD i (.Pass ⟨0, 0, 0, 0⟩)
abbrev s__wall : Stmt := topS 0
abbrev N__wall : List Str := ["k"]
abbrev P__wall : List Str := ["k"]
abbrev s_is_integer : Stmt := topS 13
abbrev N_is_integer : List Str := ["thing"]
abbrev P_is_integer : List Str := ["thing"]
theorem sc_is_integer : FnScope N_is_integer P_is_integer (defScope s_is_integer) := ⟨rfl, rfl, rfl, by decide +kernel, rfl, by decide +kernel, by decide +kernel⟩
abbrev s_is_name : Stmt := topS 14
abbrev N_is_name : List Str := ["thing", "sign"]
abbrev P_is_name : List Str := ["thing"]
theorem sc_is_name : FnScope N_is_name P_is_name (defScope s_is_name) := ⟨rfl, rfl, rfl, by decide +kernel, rfl, by decide +kernel, by decide +kernel⟩
abbrev s_is_outcome : Stmt := topS 15
abbrev N_is_outcome : List Str := ["thing"]
abbrev P_is_outcome : List Str := ["thing"]
theorem sc_is_outcome : FnScope N_is_outcome P_is_outcome (defScope s_is_outcome) := ⟨rfl, rfl, rfl, by decide +kernel, rfl, by decide +kernel, by decide +kernel⟩
abbrev s_is_term : Stmt := topS 16
abbrev N_is_term : List Str := ["thing", "waiting", "one"]
abbrev P_is_term : List Str := ["thing"]
theorem sc_is_term : FnScope N_is_term P_is_term (defScope s_is_term) := ⟨rfl, rfl, rfl, by decide +kernel, rfl, by decide +kernel, by decide +kernel⟩
abbrev s_is_term_over : Stmt := topS 17
abbrev N_is_term_over : List Str := ["many", "thing", "waiting", "one"]
abbrev P_is_term_over : List Str := ["many", "thing"]
theorem sc_is_term_over : FnScope N_is_term_over P_is_term_over (defScope s_is_term_over) := ⟨rfl, rfl, rfl, by decide +kernel, rfl, by decide +kernel, by decide +kernel⟩
abbrev s_is_within : Stmt := topS 22
abbrev N_is_within : List Str := ["thing", "most"]
abbrev P_is_within : List Str := ["thing", "most"]
theorem sc_is_within : FnScope N_is_within P_is_within (defScope s_is_within) := ⟨rfl, rfl, rfl, by decide +kernel, rfl, by decide +kernel, by decide +kernel⟩
abbrev s_are_outcomes : Stmt := topS 23
abbrev N_are_outcomes : List Str := ["thing", "outcome"]
abbrev P_are_outcomes : List Str := ["thing"]
theorem sc_are_outcomes : FnScope N_are_outcomes P_are_outcomes (defScope s_are_outcomes) := ⟨rfl, rfl, rfl, by decide +kernel, rfl, by decide +kernel, by decide +kernel⟩
abbrev s_is_act : Stmt := topS 24
abbrev N_is_act : List Str := ["thing"]
abbrev P_is_act : List Str := ["thing"]
theorem sc_is_act : FnScope N_is_act P_is_act (defScope s_is_act) := ⟨rfl, rfl, rfl, by decide +kernel, rfl, by decide +kernel, by decide +kernel⟩
abbrev s_are_different : Stmt := topS 30
abbrev N_are_different : List Str := ["many", "thing", "one"]
abbrev P_are_different : List Str := ["many", "thing"]
theorem sc_are_different : FnScope N_are_different P_are_different (defScope s_are_different) := ⟨rfl, rfl, rfl, by decide +kernel, rfl, by decide +kernel, by decide +kernel⟩
abbrev s_are_terms_over : Stmt := topS 31
abbrev N_are_terms_over : List Str := ["many", "thing", "term"]
abbrev P_are_terms_over : List Str := ["many", "thing"]
theorem sc_are_terms_over : FnScope N_are_terms_over P_are_terms_over (defScope s_are_terms_over) := ⟨rfl, rfl, rfl, by decide +kernel, rfl, by decide +kernel, by decide +kernel⟩
abbrev s_is_place : Stmt := topS 32
abbrev N_is_place : List Str := ["places", "thing"]
abbrev P_is_place : List Str := ["places", "thing"]
theorem sc_is_place : FnScope N_is_place P_is_place (defScope s_is_place) := ⟨rfl, rfl, rfl, by decide +kernel, rfl, by decide +kernel, by decide +kernel⟩
abbrev s_is_pair : Stmt := topS 33
abbrev N_is_pair : List Str := ["thing"]
abbrev P_is_pair : List Str := ["thing"]
theorem sc_is_pair : FnScope N_is_pair P_is_pair (defScope s_is_pair) := ⟨rfl, rfl, rfl, by decide +kernel, rfl, by decide +kernel, by decide +kernel⟩
abbrev s_is_set : Stmt := topS 34
abbrev N_is_set : List Str := ["variables", "places", "thing", "change"]
abbrev P_is_set : List Str := ["variables", "places", "thing"]
theorem sc_is_set : FnScope N_is_set P_is_set (defScope s_is_set) := ⟨rfl, rfl, rfl, by decide +kernel, rfl, by decide +kernel, by decide +kernel⟩
abbrev s_is_way : Stmt := topS 35
abbrev N_is_way : List Str := ["world", "variables", "places", "act", "thing"]
abbrev P_is_way : List Str := ["world", "variables", "places", "act", "thing"]
theorem sc_is_way : FnScope N_is_way P_is_way (defScope s_is_way) := ⟨rfl, rfl, rfl, by decide +kernel, rfl, by decide +kernel, by decide +kernel⟩
abbrev s_is_ask : Stmt := topS 36
abbrev N_is_ask : List Str := ["world", "variables", "places", "thing", "word", "act", "terms", "ways", "way"]
abbrev P_is_ask : List Str := ["world", "variables", "places", "thing"]
theorem sc_is_ask : FnScope N_is_ask P_is_ask (defScope s_is_ask) := ⟨rfl, rfl, rfl, by decide +kernel, rfl, by decide +kernel, by decide +kernel⟩
abbrev s_is_end : Stmt := topS 37
abbrev N_is_end : List Str := ["variables", "thing"]
abbrev P_is_end : List Str := ["variables", "thing"]
theorem sc_is_end : FnScope N_is_end P_is_end (defScope s_is_end) := ⟨rfl, rfl, rfl, by decide +kernel, rfl, by decide +kernel, by decide +kernel⟩
abbrev s_is_statement : Stmt := topS 38
abbrev N_is_statement : List Str := ["world", "variables", "places", "thing"]
abbrev P_is_statement : List Str := ["world", "variables", "places", "thing"]
theorem sc_is_statement : FnScope N_is_statement P_is_statement (defScope s_is_statement) := ⟨rfl, rfl, rfl, by decide +kernel, rfl, by decide +kernel, by decide +kernel⟩
abbrev s_ordered : Stmt := topS 39
abbrev N_ordered : List Str := ["statement"]
abbrev P_ordered : List Str := ["statement"]
theorem sc_ordered : FnScope N_ordered P_ordered (defScope s_ordered) := ⟨rfl, rfl, rfl, by decide +kernel, rfl, by decide +kernel, by decide +kernel⟩
abbrev s_first_of : Stmt := topS 40
abbrev N_first_of : List Str := ["row"]
abbrev P_first_of : List Str := ["row"]
theorem sc_first_of : FnScope N_first_of P_first_of (defScope s_first_of) := ⟨rfl, rfl, rfl, by decide +kernel, rfl, by decide +kernel, by decide +kernel⟩
abbrev s_put : Stmt := topS 43
abbrev N_put : List Str := ["term", "values", "part"]
abbrev P_put : List Str := ["term", "values"]
theorem sc_put : FnScope N_put P_put (defScope s_put) := ⟨rfl, rfl, rfl, by decide +kernel, rfl, by decide +kernel, by decide +kernel⟩
abbrev s_put_all : Stmt := topS 44
abbrev N_put_all : List Str := ["terms", "values", "term"]
abbrev P_put_all : List Str := ["terms", "values"]
abbrev s_copied : Stmt := topS 48
abbrev N_copied : List Str := ["code"]
abbrev P_copied : List Str := ["code"]
theorem sc_copied : FnScope N_copied P_copied (defScope s_copied) := ⟨rfl, rfl, rfl, by decide +kernel, rfl, by decide +kernel, by decide +kernel⟩
abbrev s_with_statements : Stmt := topS 49
abbrev N_with_statements : List Str := ["code", "statements"]
abbrev P_with_statements : List Str := ["code", "statements"]
theorem sc_with_statements : FnScope N_with_statements P_with_statements (defScope s_with_statements) := ⟨rfl, rfl, rfl, by decide +kernel, rfl, by decide +kernel, by decide +kernel⟩
abbrev s_ways_from : Stmt := topS 50
abbrev N_ways_from : List Str := ["statement", "way"]
abbrev P_ways_from : List Str := ["statement"]
theorem sc_ways_from : FnScope N_ways_from P_ways_from (defScope s_ways_from) := ⟨rfl, rfl, rfl, by decide +kernel, rfl, by decide +kernel, by decide +kernel⟩
abbrev s_come_to : Stmt := topS 51
abbrev N_come_to : List Str := ["statements", "place", "found", "waiting", "to"]
abbrev P_come_to : List Str := ["statements", "place"]
theorem sc_come_to : FnScope N_come_to P_come_to (defScope s_come_to) := ⟨rfl, rfl, rfl, by decide +kernel, rfl, by decide +kernel, by decide +kernel⟩
abbrev s_loop_of : Stmt := topS 52
abbrev N_loop_of : List Str := ["code", "place", "statements", "one"]
abbrev P_loop_of : List Str := ["code", "place"]
theorem sc_loop_of : FnScope N_loop_of P_loop_of (defScope s_loop_of) := ⟨rfl, rfl, rfl, by decide +kernel, rfl, by decide +kernel, by decide +kernel⟩
abbrev s_led : Stmt := topS 53
abbrev N_led : List Str := ["statement", "goals", "ways", "outcome", "variables", "to"]
abbrev P_led : List Str := ["statement", "goals"]
theorem sc_led : FnScope N_led P_led (defScope s_led) := ⟨rfl, rfl, rfl, by decide +kernel, rfl, by decide +kernel, by decide +kernel⟩
abbrev s_unrolled : Stmt := topS 54
abbrev N_unrolled : List Str := ["code", "place", "loop", "second", "at", "one", "inner", "found", "statement", "recipe", "there", "back", "to", "pair"]
abbrev P_unrolled : List Str := ["code", "place"]
theorem sc_unrolled : FnScope N_unrolled P_unrolled (defScope s_unrolled) := ⟨rfl, rfl, rfl, by decide +kernel, rfl, by decide +kernel, by decide +kernel⟩
abbrev s__law_bag : Stmt := topS 56
abbrev N__law_bag : List Str := ["_law_script", "_law_cell"]
abbrev P__law_bag : List Str := ["_law_script"]
theorem sc__law_bag : FnScope N__law_bag P__law_bag (defScope s__law_bag) := ⟨rfl, rfl, rfl, by decide +kernel, rfl, by decide +kernel, by decide +kernel⟩
abbrev s__law_take : Stmt := topS 57
abbrev N__law_take : List Str := ["_law_bag_here", "_law_many", "_law_cell", "_law_mixed_here", "_law_value", "_law_begin", "_law_second"]
abbrev P__law_take : List Str := ["_law_bag_here", "_law_many"]
theorem sc__law_take : FnScope N__law_take P__law_take (defScope s__law_take) := ⟨rfl, rfl, rfl, by decide +kernel, rfl, by decide +kernel, by decide +kernel⟩
abbrev s__law_alike : Stmt := topS 58
abbrev N__law_alike : List Str := ["_law_found", "_law_due_here"]
abbrev P__law_alike : List Str := ["_law_found", "_law_due_here"]
theorem sc__law_alike : FnScope N__law_alike P__law_alike (defScope s__law_alike) := ⟨rfl, rfl, rfl, by decide +kernel, rfl, by decide +kernel, by decide +kernel⟩
abbrev s__law_mixed : Stmt := topS 59
abbrev N__law_mixed : List Str := ["_law_bag_here", "_law_things", "_law_found", "_law_thing"]
abbrev P__law_mixed : List Str := ["_law_bag_here", "_law_things"]
theorem sc__law_mixed : FnScope N__law_mixed P__law_mixed (defScope s__law_mixed) := ⟨rfl, rfl, rfl, by decide +kernel, rfl, by decide +kernel, by decide +kernel⟩
abbrev s__law_piece : Stmt := topS 60
abbrev N__law_piece : List Str := ["_law_bag_here", "_law_many", "_law_one", "_law_other", "_law_some"]
abbrev P__law_piece : List Str := ["_law_bag_here", "_law_many"]
theorem sc__law_piece : FnScope N__law_piece P__law_piece (defScope s__law_piece) := ⟨rfl, rfl, rfl, by decide +kernel, rfl, by decide +kernel, by decide +kernel⟩
abbrev s__law_small_row : Stmt := topS 61
abbrev N__law_small_row : List Str := ["_law_bag_here", "_law_acts", "_law_many", "_law_places", "_law_at", "_law_way", "_law_act", "_law_to", "_law_told", "_law_taken", "_law_terms", "_law_ways_here", "_law_one", "_law_k"]
abbrev P__law_small_row : List Str := ["_law_bag_here", "_law_acts", "_law_many", "_law_places", "_law_at"]
theorem sc__law_small_row : FnScope N__law_small_row P__law_small_row (defScope s__law_small_row) := ⟨rfl, rfl, rfl, by decide +kernel, rfl, by decide +kernel, by decide +kernel⟩
abbrev s__law_like_acts : Stmt := topS 62
abbrev N__law_like_acts : List Str := ["_law_bag_here", "_law_like"]
abbrev P__law_like_acts : List Str := ["_law_bag_here"]
theorem sc__law_like_acts : FnScope N__law_like_acts P__law_like_acts (defScope s__law_like_acts) := ⟨rfl, rfl, rfl, by decide +kernel, rfl, by decide +kernel, by decide +kernel⟩
abbrev s__law_small_code : Stmt := topS 63
abbrev N__law_small_code : List Str := ["_law_bag_here", "_law_acts", "_law_many", "_law_wide", "_law_places", "_law_rows", "_law_at"]
abbrev P__law_small_code : List Str := ["_law_bag_here", "_law_acts", "_law_many", "_law_wide"]
theorem sc__law_small_code : FnScope N__law_small_code P__law_small_code (defScope s__law_small_code) := ⟨rfl, rfl, rfl, by decide +kernel, rfl, by decide +kernel, by decide +kernel⟩
abbrev s__law_ways : Stmt := topS 64
abbrev N__law_ways : List Str := ["_law_row", "_law_way"]
abbrev P__law_ways : List Str := ["_law_row"]
theorem sc__law_ways : FnScope N__law_ways P__law_ways (defScope s__law_ways) := ⟨rfl, rfl, rfl, by decide +kernel, rfl, by decide +kernel, by decide +kernel⟩
abbrev s__law_behind_place : Stmt := topS 65
abbrev N__law_behind_place : List Str := ["_law_code", "_law_place", "_law_found", "_law_turn", "_law_one", "_law_to"]
abbrev P__law_behind_place : List Str := ["_law_code", "_law_place"]
theorem sc__law_behind_place : FnScope N__law_behind_place P__law_behind_place (defScope s__law_behind_place) := ⟨rfl, rfl, rfl, by decide +kernel, rfl, by decide +kernel, by decide +kernel⟩
abbrev s__law_led_on : Stmt := topS 66
abbrev N__law_led_on : List Str := ["_law_row", "_law_goals", "_law_ways_here", "_law_one", "_law_taken", "_law_to"]
abbrev P__law_led_on : List Str := ["_law_row", "_law_goals"]
theorem sc__law_led_on : FnScope N__law_led_on P__law_led_on (defScope s__law_led_on) := ⟨rfl, rfl, rfl, by decide +kernel, rfl, by decide +kernel, by decide +kernel⟩
abbrev s__law_due : Stmt := topS 67
abbrev N__law_due : List Str := ["_law_code", "_law_place", "_law_loop", "_law_many", "_law_found", "_law_copies", "_law_at", "_law_inner", "_law_one"]
abbrev P__law_due : List Str := ["_law_code", "_law_place", "_law_loop"]
theorem sc__law_due : FnScope N__law_due P__law_due (defScope s__law_due) := ⟨rfl, rfl, rfl, by decide +kernel, rfl, by decide +kernel, by decide +kernel⟩
abbrev s__law_tried : Stmt := topS 68
abbrev N__law_tried : List Str := ["_law_real", "_law_place", "e"]
abbrev P__law_tried : List Str := ["_law_real", "_law_place"]
theorem sc__law_tried : FnScope N__law_tried P__law_tried (defScope s__law_tried) := ⟨rfl, rfl, rfl, by decide +kernel, rfl, by decide +kernel, by decide +kernel⟩
abbrev s_law : Stmt := topS 69
abbrev N_law : List Str := ["_law_script", "_law_bag_here", "_law_turn", "_law_code", "_law_world", "_law_straight", "_law_real", "_law_place", "_law_loop", "_law_again", "_law_found", "_law_rows", "_law_pairs", "_law_back", "_law_moves", "_law_far", "_law_one", "_law_some", "_law_to", "_law_pair"]
abbrev P_law : List Str := ["_law_script"]
theorem sc_law : FnScope N_law P_law (defScope s_law) := ⟨rfl, rfl, rfl, by decide +kernel, rfl, by decide +kernel, by decide +kernel⟩
abbrev s_World___init__ : Stmt := inClass (topS 25) 1
abbrev N_World___init__ : List Str := ["self", "acts", "name"]
abbrev P_World___init__ : List Str := ["self", "acts"]
theorem sc_World___init__ : FnScope N_World___init__ P_World___init__ (defScope s_World___init__) := ⟨rfl, rfl, rfl, by decide +kernel, rfl, by decide +kernel, by decide +kernel⟩
abbrev s_World_acts : Stmt := inClass (topS 25) 2
abbrev N_World_acts : List Str := ["self"]
abbrev P_World_acts : List Str := ["self"]
theorem sc_World_acts : FnScope N_World_acts P_World_acts (defScope s_World_acts) := ⟨rfl, rfl, rfl, by decide +kernel, rfl, by decide +kernel, by decide +kernel⟩
abbrev s_World_arguments : Stmt := inClass (topS 25) 3
abbrev N_World_arguments : List Str := ["self", "act"]
abbrev P_World_arguments : List Str := ["self", "act"]
theorem sc_World_arguments : FnScope N_World_arguments P_World_arguments (defScope s_World_arguments) := ⟨rfl, rfl, rfl, by decide +kernel, rfl, by decide +kernel, by decide +kernel⟩
abbrev s_World_outcomes : Stmt := inClass (topS 25) 4
abbrev N_World_outcomes : List Str := ["self", "act"]
abbrev P_World_outcomes : List Str := ["self", "act"]
theorem sc_World_outcomes : FnScope N_World_outcomes P_World_outcomes (defScope s_World_outcomes) := ⟨rfl, rfl, rfl, by decide +kernel, rfl, by decide +kernel, by decide +kernel⟩
abbrev s_World_brings : Stmt := inClass (topS 25) 5
abbrev N_World_brings : List Str := ["self", "act", "outcome"]
abbrev P_World_brings : List Str := ["self", "act", "outcome"]
theorem sc_World_brings : FnScope N_World_brings P_World_brings (defScope s_World_brings) := ⟨rfl, rfl, rfl, by decide +kernel, rfl, by decide +kernel, by decide +kernel⟩
abbrev s_World___eq__ : Stmt := inClass (topS 25) 6
abbrev N_World___eq__ : List Str := ["self", "other"]
abbrev P_World___eq__ : List Str := ["self", "other"]
theorem sc_World___eq__ : FnScope N_World___eq__ P_World___eq__ (defScope s_World___eq__) := ⟨rfl, rfl, rfl, by decide +kernel, rfl, by decide +kernel, by decide +kernel⟩
abbrev s_Code___init__ : Stmt := inClass (topS 41) 1
abbrev N_Code___init__ : List Str := ["self", "world", "variables", "given", "statements", "fits", "at", "statement"]
abbrev P_Code___init__ : List Str := ["self", "world", "variables", "given", "statements"]
theorem sc_Code___init__ : FnScope N_Code___init__ P_Code___init__ (defScope s_Code___init__) := ⟨rfl, rfl, rfl, by decide +kernel, rfl, by decide +kernel, by decide +kernel⟩
abbrev s_Code_world : Stmt := inClass (topS 41) 2
abbrev N_Code_world : List Str := ["self"]
abbrev P_Code_world : List Str := ["self"]
theorem sc_Code_world : FnScope N_Code_world P_Code_world (defScope s_Code_world) := ⟨rfl, rfl, rfl, by decide +kernel, rfl, by decide +kernel, by decide +kernel⟩
abbrev s_Code_variables : Stmt := inClass (topS 41) 3
abbrev N_Code_variables : List Str := ["self"]
abbrev P_Code_variables : List Str := ["self"]
theorem sc_Code_variables : FnScope N_Code_variables P_Code_variables (defScope s_Code_variables) := ⟨rfl, rfl, rfl, by decide +kernel, rfl, by decide +kernel, by decide +kernel⟩
abbrev s_Code_given : Stmt := inClass (topS 41) 4
abbrev N_Code_given : List Str := ["self"]
abbrev P_Code_given : List Str := ["self"]
theorem sc_Code_given : FnScope N_Code_given P_Code_given (defScope s_Code_given) := ⟨rfl, rfl, rfl, by decide +kernel, rfl, by decide +kernel, by decide +kernel⟩
abbrev s_Code___len__ : Stmt := inClass (topS 41) 5
abbrev N_Code___len__ : List Str := ["self"]
abbrev P_Code___len__ : List Str := ["self"]
theorem sc_Code___len__ : FnScope N_Code___len__ P_Code___len__ (defScope s_Code___len__) := ⟨rfl, rfl, rfl, by decide +kernel, rfl, by decide +kernel, by decide +kernel⟩
abbrev s_Code_statement : Stmt := inClass (topS 41) 6
abbrev N_Code_statement : List Str := ["self", "place"]
abbrev P_Code_statement : List Str := ["self", "place"]
theorem sc_Code_statement : FnScope N_Code_statement P_Code_statement (defScope s_Code_statement) := ⟨rfl, rfl, rfl, by decide +kernel, rfl, by decide +kernel, by decide +kernel⟩
abbrev s_Code_statements : Stmt := inClass (topS 41) 7
abbrev N_Code_statements : List Str := ["self"]
abbrev P_Code_statements : List Str := ["self"]
theorem sc_Code_statements : FnScope N_Code_statements P_Code_statements (defScope s_Code_statements) := ⟨rfl, rfl, rfl, by decide +kernel, rfl, by decide +kernel, by decide +kernel⟩
abbrev s_Code_first : Stmt := inClass (topS 41) 8
abbrev N_Code_first : List Str := ["self"]
abbrev P_Code_first : List Str := ["self"]
abbrev s_Code_showing : Stmt := inClass (topS 41) 9
abbrev N_Code_showing : List Str := ["self", "place"]
abbrev P_Code_showing : List Str := ["self", "place"]
abbrev s_Code_parts : Stmt := inClass (topS 41) 10
abbrev N_Code_parts : List Str := ["self"]
abbrev P_Code_parts : List Str := ["self"]
theorem sc_Code_parts : FnScope N_Code_parts P_Code_parts (defScope s_Code_parts) := ⟨rfl, rfl, rfl, by decide +kernel, rfl, by decide +kernel, by decide +kernel⟩
abbrev s_Code___eq__ : Stmt := inClass (topS 41) 11
abbrev N_Code___eq__ : List Str := ["self", "other"]
abbrev P_Code___eq__ : List Str := ["self", "other"]
theorem sc_Code___eq__ : FnScope N_Code___eq__ P_Code___eq__ (defScope s_Code___eq__) := ⟨rfl, rfl, rfl, by decide +kernel, rfl, by decide +kernel, by decide +kernel⟩
abbrev s_Recipe___init__ : Stmt := inClass (topS 46) 1
abbrev N_Recipe___init__ : List Str := ["self", "variables", "terms", "term"]
abbrev P_Recipe___init__ : List Str := ["self", "variables", "terms"]
theorem sc_Recipe___init__ : FnScope N_Recipe___init__ P_Recipe___init__ (defScope s_Recipe___init__) := ⟨rfl, rfl, rfl, by decide +kernel, rfl, by decide +kernel, by decide +kernel⟩
abbrev s_Recipe_variables : Stmt := inClass (topS 46) 2
abbrev N_Recipe_variables : List Str := ["self"]
abbrev P_Recipe_variables : List Str := ["self"]
abbrev s_Recipe_terms : Stmt := inClass (topS 46) 3
abbrev N_Recipe_terms : List Str := ["self"]
abbrev P_Recipe_terms : List Str := ["self"]
abbrev s_Recipe_keeping : Stmt := inClass (topS 46) 4
abbrev N_Recipe_keeping : List Str := ["many"]
abbrev P_Recipe_keeping : List Str := ["many"]
abbrev s_Recipe___call__ : Stmt := inClass (topS 46) 5
abbrev N_Recipe___call__ : List Str := ["self", "values"]
abbrev P_Recipe___call__ : List Str := ["self", "values"]
abbrev s_Recipe___mul__ : Stmt := inClass (topS 46) 6
abbrev N_Recipe___mul__ : List Str := ["self", "other"]
abbrev P_Recipe___mul__ : List Str := ["self", "other"]
abbrev s_Recipe___eq__ : Stmt := inClass (topS 46) 7
abbrev N_Recipe___eq__ : List Str := ["self", "other"]
abbrev P_Recipe___eq__ : List Str := ["self", "other"]
theorem sc_Recipe___eq__ : FnScope N_Recipe___eq__ P_Recipe___eq__ (defScope s_Recipe___eq__) := ⟨rfl, rfl, rfl, by decide +kernel, rfl, by decide +kernel, by decide +kernel⟩
abbrev s_Recipe___len__ : Stmt := inClass (topS 46) 8
abbrev N_Recipe___len__ : List Str := ["self"]
abbrev P_Recipe___len__ : List Str := ["self"]
abbrev s_Recipe___repr__ : Stmt := inClass (topS 46) 9
abbrev N_Recipe___repr__ : List Str := ["self"]
abbrev P_Recipe___repr__ : List Str := ["self"]
structure TX (K : PySem.W.Frag) (mg : Str → Option Value) where
  d__wall : DefAt K mg "_wall" s__wall P__wall
  d_is_integer : DefAt K mg "is_integer" s_is_integer P_is_integer
  d_is_name : DefAt K mg "is_name" s_is_name P_is_name
  d_is_outcome : DefAt K mg "is_outcome" s_is_outcome P_is_outcome
  d_is_term : DefAt K mg "is_term" s_is_term P_is_term
  d_is_term_over : DefAt K mg "is_term_over" s_is_term_over P_is_term_over
  d_is_within : DefAt K mg "is_within" s_is_within P_is_within
  d_are_outcomes : DefAt K mg "are_outcomes" s_are_outcomes P_are_outcomes
  d_is_act : DefAt K mg "is_act" s_is_act P_is_act
  d_are_different : DefAt K mg "are_different" s_are_different P_are_different
  d_are_terms_over : DefAt K mg "are_terms_over" s_are_terms_over P_are_terms_over
  d_is_place : DefAt K mg "is_place" s_is_place P_is_place
  d_is_pair : DefAt K mg "is_pair" s_is_pair P_is_pair
  d_is_set : DefAt K mg "is_set" s_is_set P_is_set
  d_is_way : DefAt K mg "is_way" s_is_way P_is_way
  d_is_ask : DefAt K mg "is_ask" s_is_ask P_is_ask
  d_is_end : DefAt K mg "is_end" s_is_end P_is_end
  d_is_statement : DefAt K mg "is_statement" s_is_statement P_is_statement
  d_ordered : DefAt K mg "ordered" s_ordered P_ordered
  d_first_of : DefAt K mg "first_of" s_first_of P_first_of
  d_put : DefAt K mg "put" s_put P_put
  d_put_all : DefAt K mg "put_all" s_put_all P_put_all
  d_copied : DefAt K mg "copied" s_copied P_copied
  d_with_statements : DefAt K mg "with_statements" s_with_statements P_with_statements
  d_ways_from : DefAt K mg "ways_from" s_ways_from P_ways_from
  d_come_to : DefAt K mg "come_to" s_come_to P_come_to
  d_loop_of : DefAt K mg "loop_of" s_loop_of P_loop_of
  d_led : DefAt K mg "led" s_led P_led
  d_unrolled : DefAt K mg "unrolled" s_unrolled P_unrolled
  d__law_bag : DefAt K mg "_law_bag" s__law_bag P__law_bag
  d__law_take : DefAt K mg "_law_take" s__law_take P__law_take
  d__law_alike : DefAt K mg "_law_alike" s__law_alike P__law_alike
  d__law_mixed : DefAt K mg "_law_mixed" s__law_mixed P__law_mixed
  d__law_piece : DefAt K mg "_law_piece" s__law_piece P__law_piece
  d__law_small_row : DefAt K mg "_law_small_row" s__law_small_row P__law_small_row
  d__law_like_acts : DefAt K mg "_law_like_acts" s__law_like_acts P__law_like_acts
  d__law_small_code : DefAt K mg "_law_small_code" s__law_small_code P__law_small_code
  d__law_ways : DefAt K mg "_law_ways" s__law_ways P__law_ways
  d__law_behind_place : DefAt K mg "_law_behind_place" s__law_behind_place P__law_behind_place
  d__law_led_on : DefAt K mg "_law_led_on" s__law_led_on P__law_led_on
  d__law_due : DefAt K mg "_law_due" s__law_due P__law_due
  d__law_tried : DefAt K mg "_law_tried" s__law_tried P__law_tried
  d_law : DefAt K mg "law" s_law P_law
  C_World : Addr
  g_World : mg "World" = some (.ref C_World)
  k_World : PySem.W.keepIn K (.ref C_World) = true
  c_World : SCls K C_World
  mk_World : PySem.W.makesIn K C_World = true
  is_World : SIsi K C_World
  ne_World : PySem.W.findIn K (.ref C_World) "__ne__" = some (some (.builtin "object.__ne__"))
  ty_World : PySem.W.typeIn K (.ref C_World) = some (.type "type")
  p_World_its_acts : Addr
  sl_World_its_acts : Slot1 K C_World "its_acts" p_World_its_acts 0
  d_World___init__ : MethAt K C_World "__init__" "World.__init__" s_World___init__ P_World___init__
  d_World_acts : MethAt K C_World "acts" "World.acts" s_World_acts P_World_acts
  d_World_arguments : MethAt K C_World "arguments" "World.arguments" s_World_arguments P_World_arguments
  d_World_outcomes : MethAt K C_World "outcomes" "World.outcomes" s_World_outcomes P_World_outcomes
  d_World_brings : MethAt K C_World "brings" "World.brings" s_World_brings P_World_brings
  d_World___eq__ : MethAt K C_World "__eq__" "World.__eq__" s_World___eq__ P_World___eq__
  C_Code : Addr
  g_Code : mg "Code" = some (.ref C_Code)
  k_Code : PySem.W.keepIn K (.ref C_Code) = true
  c_Code : SCls K C_Code
  mk_Code : PySem.W.makesIn K C_Code = true
  is_Code : SIsi K C_Code
  df_World_Code : PySem.W.subIn K (.ref C_World) (.ref C_Code) = some false
  dn_World_Code : C_World ≠ C_Code
  ne_Code : PySem.W.findIn K (.ref C_Code) "__ne__" = some (some (.builtin "object.__ne__"))
  ty_Code : PySem.W.typeIn K (.ref C_Code) = some (.type "type")
  p_Code_its_given : Addr
  sl_Code_its_given : Slot1 K C_Code "its_given" p_Code_its_given 0
  p_Code_its_statements : Addr
  sl_Code_its_statements : Slot1 K C_Code "its_statements" p_Code_its_statements 1
  p_Code_its_variables : Addr
  sl_Code_its_variables : Slot1 K C_Code "its_variables" p_Code_its_variables 2
  p_Code_its_world : Addr
  sl_Code_its_world : Slot1 K C_Code "its_world" p_Code_its_world 3
  d_Code___init__ : MethAt K C_Code "__init__" "Code.__init__" s_Code___init__ P_Code___init__
  d_Code_world : PropAt K C_Code "world" "Code.world" s_Code_world P_Code_world
  d_Code_variables : PropAt K C_Code "variables" "Code.variables" s_Code_variables P_Code_variables
  d_Code_given : PropAt K C_Code "given" "Code.given" s_Code_given P_Code_given
  d_Code___len__ : MethAt K C_Code "__len__" "Code.__len__" s_Code___len__ P_Code___len__
  d_Code_statement : MethAt K C_Code "statement" "Code.statement" s_Code_statement P_Code_statement
  d_Code_statements : MethAt K C_Code "statements" "Code.statements" s_Code_statements P_Code_statements
  d_Code_first : MethAt K C_Code "first" "Code.first" s_Code_first P_Code_first
  d_Code_showing : MethAt K C_Code "showing" "Code.showing" s_Code_showing P_Code_showing
  d_Code_parts : MethAt K C_Code "parts" "Code.parts" s_Code_parts P_Code_parts
  d_Code___eq__ : MethAt K C_Code "__eq__" "Code.__eq__" s_Code___eq__ P_Code___eq__
  C_Recipe : Addr
  g_Recipe : mg "Recipe" = some (.ref C_Recipe)
  k_Recipe : PySem.W.keepIn K (.ref C_Recipe) = true
  c_Recipe : SCls K C_Recipe
  mk_Recipe : PySem.W.makesIn K C_Recipe = true
  is_Recipe : SIsi K C_Recipe
  ne_Recipe : PySem.W.findIn K (.ref C_Recipe) "__ne__" = some (some (.builtin "object.__ne__"))
  ty_Recipe : PySem.W.typeIn K (.ref C_Recipe) = some (.type "type")
  p_Recipe_its_terms : Addr
  sl_Recipe_its_terms : Slot1 K C_Recipe "its_terms" p_Recipe_its_terms 0
  p_Recipe_its_variables : Addr
  sl_Recipe_its_variables : Slot1 K C_Recipe "its_variables" p_Recipe_its_variables 1
  d_Recipe___init__ : MethAt K C_Recipe "__init__" "Recipe.__init__" s_Recipe___init__ P_Recipe___init__
  d_Recipe_variables : PropAt K C_Recipe "variables" "Recipe.variables" s_Recipe_variables P_Recipe_variables
  d_Recipe_terms : PropAt K C_Recipe "terms" "Recipe.terms" s_Recipe_terms P_Recipe_terms
  d_Recipe_keeping : StatAt K C_Recipe "keeping" "Recipe.keeping" s_Recipe_keeping P_Recipe_keeping
  d_Recipe___call__ : MethAt K C_Recipe "__call__" "Recipe.__call__" s_Recipe___call__ P_Recipe___call__
  d_Recipe___mul__ : MethAt K C_Recipe "__mul__" "Recipe.__mul__" s_Recipe___mul__ P_Recipe___mul__
  d_Recipe___eq__ : MethAt K C_Recipe "__eq__" "Recipe.__eq__" s_Recipe___eq__ P_Recipe___eq__
  d_Recipe___len__ : MethAt K C_Recipe "__len__" "Recipe.__len__" s_Recipe___len__ P_Recipe___len__
  d_Recipe___repr__ : MethAt K C_Recipe "__repr__" "Recipe.__repr__" s_Recipe___repr__ P_Recipe___repr__
  mul_Recipe : PySem.W.selfFirst K C_Recipe = true
  nl_Recipe : PySem.W.subIn K (.ref C_Recipe) (.type "list") = some false
  nt_Recipe : PySem.W.subIn K (.ref C_Recipe) (.type "tuple") = some false
  b_ValueError : mg "ValueError" = none
  b_abs : mg "abs" = none
  b_all : mg "all" = none
  b_bool : mg "bool" = none
  b_dict : mg "dict" = none
  b_enumerate : mg "enumerate" = none
  b_int : mg "int" = none
  b_isinstance : mg "isinstance" = none
  b_len : mg "len" = none
  b_list : mg "list" = none
  b_range : mg "range" = none
  b_repr : mg "repr" = none
  b_set : mg "set" = none
  b_sorted : mg "sorted" = none
  b_str : mg "str" = none
  b_tuple : mg "tuple" = none
  v_LETTERS : Value
  c_LETTERS : mg "LETTERS" = some v_LETTERS
  r_LETTERS : RelV (.str "abcdefghijklmnopqrstuvwxyz") v_LETTERS
  v_MOST_LETTERS : Value
  c_MOST_LETTERS : mg "MOST_LETTERS" = some v_MOST_LETTERS
  r_MOST_LETTERS : RelV (.int 8) v_MOST_LETTERS
  v_MOST_PARTS : Value
  c_MOST_PARTS : mg "MOST_PARTS" = some v_MOST_PARTS
  r_MOST_PARTS : RelV (.int 3) v_MOST_PARTS
  v_MOST_ARGUMENTS : Value
  c_MOST_ARGUMENTS : mg "MOST_ARGUMENTS" = some v_MOST_ARGUMENTS
  r_MOST_ARGUMENTS : RelV (.int 2) v_MOST_ARGUMENTS
  v_MOST_OUTCOMES : Value
  c_MOST_OUTCOMES : mg "MOST_OUTCOMES" = some v_MOST_OUTCOMES
  r_MOST_OUTCOMES : RelV (.int 6) v_MOST_OUTCOMES
  v_MOST_BROUGHT : Value
  c_MOST_BROUGHT : mg "MOST_BROUGHT" = some v_MOST_BROUGHT
  r_MOST_BROUGHT : RelV (.int 2) v_MOST_BROUGHT
  a_NIL : Addr
  c_NIL : mg "NIL" = some (.ref a_NIL)
  q_NIL : ∀ H : Hp, SqT K H a_NIL [.str "nil"]
  v_MOST_VARIABLES : Value
  c_MOST_VARIABLES : mg "MOST_VARIABLES" = some v_MOST_VARIABLES
  r_MOST_VARIABLES : RelV (.int 24) v_MOST_VARIABLES
  v_MOST_TOLD : Value
  c_MOST_TOLD : mg "MOST_TOLD" = some v_MOST_TOLD
  r_MOST_TOLD : RelV (.int 2) v_MOST_TOLD
structure TY (P : Program) (K : PySem.W.Frag) (mg : Str → Option Value) where
  C_MoveError : Addr
  x_MoveError : ExN K mg "MoveError" C_MoveError
  C_Wrong : Addr
  x_Wrong : ExT P K mg "Wrong" "place" C_Wrong
  C_BadAct : Addr
  x_BadAct : ExT P K mg "BadAct" "name" C_BadAct
  C_BadPlace : Addr
  x_BadPlace : ExT P K mg "BadPlace" "at" C_BadPlace
  C_Unlike : Addr
  x_Unlike : ExZ K mg "Unlike" C_Unlike
  C_NoPlace : Addr
  x_NoPlace : ExT P K mg "NoPlace" "place" C_NoPlace
  C_Unfit : Addr
  x_Unfit : ExZ K mg "Unfit" C_Unfit
  xc_NoPlace : ExcC K C_NoPlace
  xc_Unfit : ExcC K C_Unfit
  ed_NoPlace_Unfit : PySem.W.kitOne K (.ref C_NoPlace) (.ref C_Unfit) = some false
  ed_Unlike_Wrong : PySem.W.kitOne K (.ref C_Unlike) (.ref C_Wrong) = some false
  ed_Unfit_NoPlace : PySem.W.kitOne K (.ref C_Unfit) (.ref C_NoPlace) = some false
  ev_Unfit : PySem.W.kitOne K (.ref C_Unfit) (.type "ValueError") = some true
  em_NoPlace_MoveError : PySem.W.exmOne K (.ref C_NoPlace) (.ref C_MoveError) = some true
  em_Unfit_MoveError : PySem.W.exmOne K (.ref C_Unfit) (.ref C_MoveError) = some true
end Fm
namespace Fm
open PySem PySem.Spec PyProof.Rows L2
section
variable {P : Program} {w : World} {K : PySem.W.Frag} {mg : Str → Option Value} {base : Heap}
def sp_bag (K : PySem.W.Frag) : Sp := fun vs H Q _ => ∃ (a : Addr) (ns : List Int), vs = [.ref a] ∧ SqL K H a (ns.map V.int) ∧ ns.length ≤ 63 ∧ ∀ H' p, Mv [] H H' → H p = none → Bag H' p → Q (.ref p) H'
theorem cut63 (xs : List V) (h : xs.length ≤ 63) : cutV xs none (some 63) = xs := by
  unfold cutV
  rw [HT.sIx_none, show HT.sIx xs.length xs.length (some 63) = min 63 xs.length from HT.sIx_nat xs.length xs.length 63, List.drop_zero, List.take_of_length_le (by omega)]
theorem ok__law_bag (T : TX K mg) {k : Nat} : FnOk P w K mg base CX0 (k + 1) T.d__law_bag.f T.d__law_bag.fd P__law_bag (sp_bag K) := by
  refine T.d__law_bag.F.ok sc__law_bag (fun vs H Q E h => ?_) (fun cdv A outer s H vs Q E hr h => ?_)
  · obtain ⟨a, ns, rfl, _⟩ := h
    rfl
  · obtain ⟨a, ns, rfl, hS, hl, q⟩ := h
    refine ⟨_, (pss_one (ps_ret (pe_lst (pa_cons pe_int (pa_cons pe_int (pa_cons pe_int (pa_cons (pe_lc (own := [("_law_cell", 1)]) (g := gName 1) (by rfl) sc__law_bag.nd (pi_seq (pe_slice (r := rSlG K) sl_G (pv 0) po_none (po_some pe_int))) (blkOk_by (own := [("_law_cell", 1)]) (N := N__law_bag) (sc := defScope s__law_bag) (by decide +kernel)) (fun _ _ _ _ _ => pg_name (i := 1) sc__law_bag.nd rfl (Or.inl rfl)) (fun _ _ _ _ _ => pts_nil) (fun _ _ _ _ _ => (pe_callB call_abs (by rfl) T.b_abs bt_abs (pa_cons (pv 1) pa_nil)))) pa_nil))))))), ?_⟩
    refine ⟨.ref a, rfl, 63, rfl, Or.inl ⟨a, _, rfl, hS, fun c nc => ⟨c, rfl, Or.inl ⟨⟨_, .inl (.inl upd_same)⟩, fun D nD => ?_⟩⟩⟩⟩
    have hlen : (ns.map V.int).length ≤ 63 := by rw [List.length_map]; exact hl
    rw [cut63 _ hlen] at nD ⊢
    refine lc_list (K := K) (a := c) (xs := ns.map V.int) (fun i H3 => ∃ ms : List Int, H3 c = some (.lst (ns.map V.int)) ∧ H3 D = some (.lst (ms.map V.int)) ∧ ms.length = i ∧ (∀ n ∈ ms, 0 ≤ n) ∧ Mv [] H H3)
      ⟨[], ?_, upd_same, rfl, by simp, ?_⟩ (fun i H3 _ h3 => ?_) (fun i x H3 hx h3 => ?_) (fun H3 h3 => ?_)
    · rw [upd_ne (ne_of_none upd_same nD), upd_same]
    · exact (Mv.new nc).trans (.new nD)
    · obtain ⟨ms, h1, _⟩ := h3
      exact .inl (.inl h1)
    · obtain ⟨ms, h1, h2, h4, h5, h6⟩ := h3
      obtain ⟨n, hn, rfl⟩ : ∃ n ∈ ns, x = .int n := by
        have := List.mem_of_getElem? hx
        obtain ⟨n, hn, e⟩ := List.mem_map.mp this
        exact ⟨n, hn, e.symm⟩
      have hDc : c ≠ D := ne_of_none upd_same nD
      refine ⟨rfl, .int n, rfl, n, rfl, _, h2, ?_, ms ++ [if n < 0 then -n else n], ?_, ?_, ?_, ?_, ?_⟩
      · rw [List.length_map]
        have := (List.getElem?_eq_some_iff.mp hx).1
        rw [List.length_map] at this
        exact small1000 (by omega)
      · rw [upd_ne hDc]
        exact h1
      · rw [upd_same, List.map_append]
        rfl
      · simp [h4]
      · intro z hz
        rcases List.mem_append.mp hz with hz | hz
        · exact h5 z hz
        · rw [List.mem_singleton.mp hz]
          split <;> omega
      · exact h6.wr ((Mv.new nc).free nD)
    · obtain ⟨ms, h1, h2, h4, h5, h6⟩ := h3
      refine ⟨(by decide : 4 ≤ sizeLine), fun p np => q _ p (h6.trans (.new np)) (h6.free np) ⟨D, 0, 1234567891, 0, ms, upd_same, ?_, ?_, h5, by decide, by decide, by decide⟩⟩
      · rw [upd_ne (ne_of_none h2 np)]
        exact h2
      · rw [h4, List.length_map]
        exact hl
def sp_take : Sp := fun vs H Q _ => ∃ (b : Addr) (n : Int), vs = [.ref b, .int n] ∧ Bag H b ∧ 0 < n ∧ n ≤ 1000000 ∧ ∀ (i : Int) H', 0 ≤ i → i < n → Dr b H H' → Q (.int i) H'
theorem Bag.set {H : Hp} {b c : Addr} {ns : List Int} {s m k : Int} {xs : List V} (hb : H b = some (.lst xs)) (hc : H c = some (.lst (ns.map V.int))) (hcb : c ≠ b)
    (hl : ns.length ≤ 63) (hn : ∀ n ∈ ns, 0 ≤ n) (h1 : 0 ≤ s) (h2 : 0 ≤ k) (h3 : 0 ≤ m) : BagC (upd H b (.lst [.int s, .int m, .int k, .ref c])) b c :=
  ⟨s, m, k, ns, upd_same, by rw [upd_ne hcb]; exact hc, hl, hn, h1, h2, h3⟩
theorem rd_set {p : Addr} {xs ys : List V} {k : Int} {j : Nat} {v : V} {H : Hp} {Q : Hp → Prop} (hp : H p = some (.lst xs)) (hj : ixN xs.length k = some j) (hy : xs.set j v = ys)
    (h : ∀ H', H' p = some (.lst ys) → Mv [p] H H' → (∀ a, a ≠ p → H' a = H a) → Q H') : rSetL (.ref p) (.int k) v H Q := by
  refine ⟨p, xs, k, j, rfl, rfl, hp, hj, ?_⟩
  rw [hy]
  exact h _ upd_same (.set hp (by simp)) fun a ha => upd_ne ha
theorem ok__law_take (T : TX K mg) {k : Nat} : FnOk P w K mg base CX0 (k + 1) T.d__law_take.f T.d__law_take.fd P__law_take sp_take := by
  refine T.d__law_take.F.ok sc__law_take (fun vs H Q E h => ?_) (fun cdv A outer s H vs Q E hr h => ?_)
  · obtain ⟨a, ns, rfl, _⟩ := h
    rfl
  · obtain ⟨b, n, rfl, hB, h0, h1, q⟩ := h
    have hu64 := hr.units
    refine ⟨_, (Evl.pss_cut (ps_if (pt_cmpR (r := rEqG K) (op_eqG hu64) (pe_ix (r := rIx K) ix_seq (pv 0) pe_int (fun _ _ => rfl)) pe_int (nomark _)) (pss_cons (ps_set (i := 2) sc__law_take.nd rfl (Or.inl rfl) pe_int) (Evl.pss_cut (ps_if (pt_cmpR op_lt (pe_ix (r := rIx K) ix_seq (pv 0) pe_int (fun _ _ => rfl)) (pe_callB (r := rLenG K) call_lenG (by rfl) T.b_len bt_len (pa_cons (pe_ix (r := rIx K) ix_seq (pv 0) pe_int (fun _ _ => rfl)) pa_nil)) (nomark _)) (pss_one (ps_set (i := 2) sc__law_take.nd rfl (Or.inl rfl) (pe_ix (r := rIx K) ix_seq (pe_ix (r := rIx K) ix_seq (pv 0) pe_int (fun _ _ => rfl)) (pe_ix (r := rIx K) ix_seq (pv 0) pe_int (fun _ _ => rfl)) (fun _ _ => rfl)))) pss_nil) (pss_cons (ps_augS (pv 0) pe_int get_G pe_int ip_add set_list) (Evl.pss_cut (ps_if (pt_cmpR op_ge (pv 2) pe_int (nomark _)) (pss_one (ps_asg (pv 2) (pg_sub (pv 0) pe_int set_list))) pss_nil) (pss_cons (ps_set (i := 3) sc__law_take.nd rfl (Or.inl rfl) (pe_op (r := rAddG K) op_addG (pe_op (r := rAddG K) op_addG (pe_op op_mulG (pe_ix (r := rIx K) ix_seq (pv 0) pe_int (fun _ _ => rfl)) pe_int) (pe_op op_mod (pe_callTy call_int1 (by rfl) T.b_int bt_int (pa_cons (pv 2) pa_nil)) pe_int)) (pe_op op_mulG pe_int (pe_ix (r := rIx K) ix_seq (pv 0) pe_int (fun _ _ => rfl))))) (pss_one (ps_asg (pe_op op_mod (pe_callTy call_int1 (by rfl) T.b_int bt_int (pa_cons (pv 3) pa_nil)) pe_int) (pg_sub (pv 0) pe_int set_list)))))))) pss_nil) (pss_cons (ps_if (pt_cmpR op_gt (pe_ix (r := rIx K) ix_seq (pv 0) pe_int (fun _ _ => rfl)) pe_int (nomark _)) (pss_cons (ps_set (i := 4) sc__law_take.nd rfl (Or.inl rfl) (pe_op op_mod (pe_callTy call_int1 (by rfl) T.b_int bt_int (pa_cons (pe_ix (r := rIx K) ix_seq (pv 0) pe_int (fun _ _ => rfl)) pa_nil)) (pv 1))) (pss_cons (ps_asg (pe_op op_fdivW (pe_ix (r := rIx K) ix_seq (pv 0) pe_int (fun _ _ => rfl)) (pv 1)) (pg_sub (pv 0) pe_int set_list)) (pss_one (ps_ret (pv 4))))) pss_nil) (pss_cons (ps_set (i := 5) sc__law_take.nd rfl (Or.inl rfl) (pe_op op_mod (pe_callTy call_int1 (by rfl) T.b_int bt_int (pa_cons (pe_op op_mulG (pe_op (r := rAddG K) op_addG (pe_ix (r := rIx K) ix_seq (pv 0) pe_int (fun _ _ => rfl)) pe_int) pe_int) pa_nil)) pe_int)) (pss_cons (ps_set (i := 6) sc__law_take.nd rfl (Or.inl rfl) (pe_op op_mod (pe_callTy call_int1 (by rfl) T.b_int bt_int (pa_cons (pe_op op_mulG (pe_op op_mod (pe_callTy call_int1 (by rfl) T.b_int bt_int (pa_cons (pe_op op_mulG (pv 5) (pv 5)) pa_nil)) pe_int) pe_int) pa_nil)) pe_int)) (pss_cons (ps_if (pt_cmpR op_gt (pv 1) pe_int (nomark _)) (pss_one (ps_ret (pe_op op_mod (pe_callTy call_int1 (by rfl) T.b_int bt_int (pa_cons (pe_op (r := rAddG K) op_addG (pe_op op_mulG (pv 6) pe_int) (pv 5)) pa_nil)) (pv 1)))) pss_nil) (pss_one (ps_ret (pe_op op_mod (pe_callTy call_int1 (by rfl) T.b_int bt_int (pa_cons (pe_op op_fdivW (pv 6) pe_int) pa_nil)) (pv 1))))))))), ?_⟩
    obtain ⟨c, hB⟩ := hB
    have hBC := hB
    obtain ⟨z, m, j, ns, eb, ec, hl, hn, hz, hj, hm⟩ := hB
    have hcb : c ≠ b := Bag.ne (xs := [.int z, .int m, .int j]) eb ec
    have sq : ∀ {H : Hp} {xs : List V}, H b = some (.lst xs) → SqL K H b xs := fun h => .inl (.inl h)
    refine ⟨fun σ H1 => ∃ y2 y3 y4 y5 y6, σ = [some (.ref b), some (.int n), y2, y3, y4, y5, y6] ∧ Dr b H H1 ∧ BagC H1 b c, ?_, fun σ H1 hM => ?_⟩
    · refine ⟨.ref b, rfl, Or.inl ⟨b, _, 0, .int z, rfl, rfl, sq eb, rfl, Or.inl ⟨rfl, _, rfl, ite2 (fun e => ?_) (fun e => ?_)⟩⟩⟩
      · -- cell = 0; the next cell
        refine ⟨fun σ H1 => ∃ x : Int, 0 ≤ x ∧ σ = [some (.ref b), some (.int n), some (.int x), none, none, none, none] ∧ H1 = H, ?_, fun σ H1 hM => ?_⟩
        · refine ⟨.ref b, rfl, Or.inl ⟨b, _, 2, .int j, rfl, rfl, sq eb, rfl, .ref b, rfl, Or.inl ⟨b, _, 3, .ref c, rfl, rfl, sq eb, rfl, Or.inl ⟨c, _, rfl, .inl (.inl (.inl ec)), j, _, rfl, rfl, _, rfl, ite2 (fun e => ?_) (fun e => ?_)⟩⟩⟩⟩
          · have e' : j < (ns.map V.int).length := of_decide_eq_true e
            obtain ⟨i, rfl⟩ := Int.eq_ofNat_of_zero_le hj
            have hi : i < ns.length := by
              rw [List.length_map] at e'
              omega
            have gi : (ns.map V.int)[i]? = some (.int ns[i]) := by
              rw [List.getElem?_map, List.getElem?_eq_getElem hi]
              rfl
            refine ⟨.ref b, rfl, Or.inl ⟨b, _, 3, .ref c, rfl, rfl, sq eb, rfl, .ref b, rfl, Or.inl ⟨b, _, 2, .int (i : Int), rfl, rfl, sq eb, rfl, Or.inl ⟨c, _, _, .int ns[i], rfl, rfl, .inl (.inl ec), atI_nat gi, ?_⟩⟩⟩⟩
            exact ⟨ns[i], hn _ (List.getElem_mem hi), rfl, rfl⟩
          · exact ⟨0, Int.le_refl _, rfl, rfl⟩
        · obtain ⟨x, hx, rfl, rfl⟩ := hM
          refine ⟨.ref b, rfl, b, _, 2, .int j, rfl, rfl, sq eb, rfl, j, 1, rfl, rfl, rd_set eb rfl rfl fun H2 eb2 m1 k1 => ?_⟩
          have ec2 : H2 c = some (.lst (ns.map V.int)) := by rw [k1 c hcb]; exact ec
          refine ⟨fun σ H3 => ∃ z' : Int, 0 ≤ z' ∧ σ = [some (.ref b), some (.int n), some (.int x), none, none, none, none] ∧ H3 b = some (.lst [.int z', .int m, .int (j + 1), .ref c]) ∧ H3 c = some (.lst (ns.map V.int)) ∧ Mv [b] H2 H3, ?_, fun σ H3 hM => ?_⟩
          · refine ⟨.int x, rfl, x, _, rfl, rfl, _, rfl, ite2 (fun e => ?_) (fun e => ?_)⟩
            · refine ⟨.int x, rfl, .ref b, rfl, b, _, 0, 0, rfl, rfl, eb2, rfl, x, hx, rfl, upd_same, ?_, .set eb2 (by simp)⟩
              rw [upd_ne hcb]
              exact ec2
            · exact ⟨z, hz, rfl, eb2, ec2, .refl⟩
          · obtain ⟨z', hz', rfl, eb3, ec3, m3⟩ := hM
            refine ⟨.ref b, rfl, Or.inl ⟨b, _, 1, .int m, rfl, rfl, sq eb3, rfl, Or.inl ⟨m, 48271, rfl, rfl, .inr ⟨by decide, by decide⟩, .int x, rfl, Or.inl ⟨x, rfl, x, _, rfl, rfl, (by decide : (0 : Int) < _), ?_⟩⟩⟩⟩
            refine Or.inl ⟨_, _, rfl, rfl, .ref b, rfl, Or.inl ⟨b, _, 2, .int (j + 1), rfl, rfl, sq eb3, rfl, Or.inl ⟨7919, j + 1, rfl, rfl, .inl ⟨by decide, by decide⟩, Or.inl ⟨_, _, rfl, rfl, ?_⟩⟩⟩⟩
            refine ⟨_, rfl, Or.inl ⟨_, rfl, _, _, rfl, rfl, (by decide : (0 : Int) < _), .ref b, rfl, b, _, 1, 1, rfl, rfl, eb3, rfl, _, _, _, _, _, rfl, ?_, ?_⟩⟩
            · exact .mkc ((m1.trans m3).trans (.set eb3 (by simp))) hBC (Bag.set eb3 ec3 hcb hl hn hz' (by omega) (Int.emod_nonneg _ (by decide)))
            · exact Bag.set eb3 ec3 hcb hl hn hz' (by omega) (Int.emod_nonneg _ (by decide))
      · exact ⟨_, _, _, _, _, rfl, .refl, z, m, j, ns, eb, ec, hl, hn, hz, hj, hm⟩
    · obtain ⟨y2, y3, y4, y5, y6, rfl, hD, hB⟩ := hM
      have hBC1 := hB
      obtain ⟨z, m, j, ns, eb, ec, hl, hn, hz, hj, hm⟩ := hB
      have hcb : c ≠ b := Bag.ne (xs := [.int z, .int m, .int j]) eb ec
      refine ⟨.ref b, rfl, Or.inl ⟨b, _, 0, .int z, rfl, rfl, sq eb, rfl, z, 0, rfl, rfl, _, rfl, ite2 (fun e => ?_) (fun e => ?_)⟩⟩
      · -- value = int(bag[0]) % many; bag[0] = bag[0] // many; return value
        refine ⟨.ref b, rfl, Or.inl ⟨b, _, 0, .int z, rfl, rfl, sq eb, rfl, Or.inl ⟨z, rfl, .int n, rfl, z, n, rfl, rfl, h0, ?_⟩⟩⟩
        refine ⟨.ref b, rfl, Or.inl ⟨b, _, 0, .int z, rfl, rfl, sq eb, rfl, .int n, rfl, z, n, rfl, rfl, ?_, ?_⟩⟩
        · exact wide_div (b := 64) h0 (by omega) (by decide) (by decide)
        · refine ⟨.ref b, rfl, b, _, 0, 0, rfl, rfl, eb, rfl, ?_⟩
          refine ⟨.int (z % n), rfl, q _ _ (Int.emod_nonneg z (by omega)) (Int.emod_lt_of_pos z h0) (hD.trans (.mkc (.set eb (by simp)) hBC1 ?_))⟩
          exact Bag.set eb ec hcb hl hn (Int.ediv_nonneg hz (by omega)) hj hm
      · refine ⟨.ref b, rfl, Or.inl ⟨b, _, 1, .int m, rfl, rfl, sq eb, rfl, Or.inl ⟨m, 1, rfl, rfl, Or.inl ⟨_, _, rfl, rfl, .inr ⟨by decide, by decide⟩, Or.inl ⟨_, rfl, _, _, rfl, rfl, (by decide : (0 : Int) < _), ?_⟩⟩⟩⟩⟩
        have hx0 : 0 ≤ (m + 1) * 39373 % 1000000007 := Int.emod_nonneg _ (by decide)
        have hx1 : (m + 1) * 39373 % 1000000007 < 1000000007 := Int.emod_lt_of_pos _ (by decide)
        refine ⟨_, rfl, _, rfl, Or.inl ⟨(m + 1) * 39373 % 1000000007, (m + 1) * 39373 % 1000000007, rfl, rfl, .inl ⟨by omega, by omega⟩, Or.inl ⟨_, rfl, _, _, rfl, rfl, (by decide : (0 : Int) < _), Or.inl ⟨_, _, rfl, rfl, .inr ⟨by decide, by decide⟩, Or.inl ⟨_, rfl, _, _, rfl, rfl, (by decide : (0 : Int) < _), ?_⟩⟩⟩⟩⟩
        refine ⟨.int n, rfl, n, _, rfl, rfl, _, rfl, ite2 (fun e => ?_) (fun e => ?_)⟩
        · exact absurd (of_decide_eq_true e) (by omega)
        · refine ⟨_, rfl, _, 7, rfl, rfl, ⟨by decide, by decide⟩, Or.inl ⟨_, rfl, .int n, rfl, _, n, rfl, rfl, h0, ?_⟩⟩
          exact q _ _ (Int.emod_nonneg _ (by omega)) (Int.emod_lt_of_pos _ h0) hD
end
end Fm
namespace Fm
open PySem PySem.Spec PyProof.Rows L2
def sp_names : Sp := fun vs H Q _ => ∃ (b : Addr) (n : Nat), vs = [.ref b, .int n] ∧ Bag H b ∧ 0 < n ∧ n ≤ 12 ∧
  ∀ (p : Addr) (xs : List Str) H', xs.length = n → (∀ x ∈ xs, Nm x) → H p = none → H' p = some (.lst (xs.map V.str)) → Dr b H H' → Q (.ref p) H'
theorem cutV_to {xs : List V} {i : Int} (h0 : 0 ≤ i) : cutV xs none (some i) = xs.take i.toNat := by
  obtain ⟨j, rfl⟩ := Int.eq_ofNat_of_zero_le h0
  unfold cutV
  rw [HT.sIx_none, HT.sIx_nat, List.drop_zero]
  show xs.take (min j xs.length - 0) = xs.take j
  rw [Nat.sub_zero]
  by_cases e : j ≤ xs.length
  · rw [Nat.min_eq_left e]
  · rw [Nat.min_eq_right (by omega), List.take_of_length_le (Nat.le_refl _), List.take_of_length_le (by omega)]
section
variable {P : Program} {w : World} {K : PySem.W.Frag} {mg : Str → Option Value} {base : Heap}
end
end Fm
namespace Fm
open PySem PySem.Spec PyProof.Rows L2
def sp_term (K : PySem.W.Frag) (d : Nat) : Sp := fun vs H Q _ => ∃ (b nm : Addr) (xs : List Str) (many deep : Int), vs = [.ref b, .ref nm, .int many, .int deep] ∧ Bag H b ∧
  H nm = some (.lst (xs.map V.str)) ∧ nm ≠ b ∧ xs ≠ [] ∧ xs.length ≤ 1000 ∧ (∀ x ∈ xs, Nm x) ∧ 0 ≤ many ∧ many ≤ 1000000 ∧ deep.toNat < d ∧
  ∀ v (t : Tm) H', t.ok (fun i => 0 ≤ i ∧ i < many) → t.dep ≤ max deep.toNat 1 → (0 < many → t.dep ≤ deep.toNat) → Im K H' v t.d → Dr b H H' → Q v H'
local macro_rules | `(tactic| walk_at "nn") => `(tactic| dsimp only [tC, tNil, tCons, tCB, tCall, gName, tSeq, tAsg, tPar, tDrop, tRet])
section
variable {P : Program} {w : World} {K : PySem.W.Frag} {mg : Str → Option Value} {base : Heap}
end
end Fm
namespace Fm
open PySem PySem.Spec PyProof.Rows L2
local macro_rules | `(tactic| walk_at "nn") => `(tactic| dsimp only [tC, tNil, tCons, tCB, tCall, gName, tSeq, tAsg, tPar, tDrop, tRet])
local macro_rules | `(tactic| walk_at "nc") => `(tactic| dsimp only [tC, tNil, tCons, tCB])
theorem hu65_of {k : Nat} {A : Around} (h : Room k A) : A.units + 65 < cLine := by
  have := h.un
  omega
def sp_kind (K : PySem.W.Frag) (f : Th → Bool) : Sp := fun vs H Q _ => ∃ (v : V) (t : Th) (b : Addr), vs = [v] ∧ Is K b H v t ∧ ∀ H', Mv [] H H' → Q (.bl (f t)) H'
section
variable {P : Program} {w : World} {K : PySem.W.Frag} {mg : Str → Option Value} {base : Heap}
theorem ok_is_integer (T : TX K mg) {k : Nat} : FnOk P w K mg base CX0 (k + 1) T.d_is_integer.f T.d_is_integer.fd P_is_integer (sp_kind K isWhole) := by
  refine T.d_is_integer.F.ok sc_is_integer (fun vs H Q E h => ?_) (fun cdv A outer s H vs Q E hr h => ?_)
  · obtain ⟨_, _, _, rfl, _⟩ := h
    rfl
  · obtain ⟨v, t, b, rfl, hv, q⟩ := h
    refine ⟨_, (pss_one (ps_ret (pe_and (pe_callB (r := rIsi K) call_isi (by rfl) T.b_isinstance bt_isinstance (pa_cons (pv 0) (pa_cons (pe_ty T.b_int bt_int) pa_nil))) (pe_one (pe_not (pe_callB (r := rIsi K) call_isi (by rfl) T.b_isinstance bt_isinstance (pa_cons (pv 0) (pa_cons (pe_ty T.b_bool bt_bool) pa_nil)))))))), ?_⟩
    refine ⟨v, rfl, ?_⟩
    walk_at "nn"
    refine rd_isi hv (kit_int t) ?_
    refine ⟨_, rfl, ?_⟩
    cases t with
    | int j =>
      refine ⟨v, rfl, ?_⟩
      walk_at "nc"
      exact rd_isi hv (kit_bool (.int j)) ⟨_, rfl, q H .refl⟩
    | bl c =>
      refine ⟨v, rfl, ?_⟩
      walk_at "nc"
      exact rd_isi hv (kit_bool (.bl c)) ⟨_, rfl, q H .refl⟩
    | non => exact q H .refl
    | str x => exact q H .refl
    | tup ts => exact q H .refl
    | lst => exact q H .refl
    | dct => exact q H .refl
theorem ok_is_name (T : TX K mg) {k : Nat} : FnOk P w K mg base CX0 (k + 1) T.d_is_name.f T.d_is_name.fd P_is_name (sp_kind K isNamed) := by
  refine T.d_is_name.F.ok sc_is_name (fun vs H Q E h => ?_) (fun cdv A outer s H vs Q E hr h => ?_)
  · obtain ⟨_, _, _, rfl, _⟩ := h
    rfl
  · obtain ⟨v, t, b, rfl, hv, q⟩ := h
    have hu65 := hu65_of hr
    refine ⟨_, (pss_cons (ps_if (PW.pt (pw_or (pt_not (pt_val (pe_callB (r := rIsi K) call_isi (by rfl) T.b_isinstance bt_isinstance (pa_cons (pv 0) (pa_cons (pe_ty T.b_str bt_str) pa_nil))))) (pw_or1 (pt_not (pt_chain op_le op_le pe_int (pe_callB (r := rLenG K) call_lenG (by rfl) T.b_len bt_len (pa_cons (pv 0) pa_nil)) (pe_glob rfl T.c_MOST_LETTERS T.r_MOST_LETTERS)))))) (pss_one (ps_ret pe_bl)) pss_nil) (pss_one (ps_ret (pe_callB (r := rAll K) (cr_all rfl) (by rfl) T.b_all bt_all (pa_cons (pe_lc (own := [("sign", 1)]) (g := gName 1) (by rfl) sc_is_name.nd (pi_str (pv 0)) (blkOk_by (own := [("sign", 1)]) (N := N_is_name) (sc := defScope s_is_name) (by decide +kernel)) (fun _ _ _ _ _ => pg_name (i := 1) sc_is_name.nd rfl (Or.inl rfl)) (fun _ _ _ _ _ => pts_nil) (fun _ _ _ _ _ => (pe_cmpR (r := rInG K) (op_inG hu65) (pv 1) (pe_glob rfl T.c_LETTERS T.r_LETTERS) rfl))) pa_nil))))), ?_⟩
    refine ⟨v, rfl, ?_⟩
    walk_at "nn"
    refine rd_isi hv (kit_str t) ?_
    refine ⟨_, rfl, ?_⟩
    cases t with
    | int j => exact q H .refl
    | bl c => exact q H .refl
    | non => exact q H .refl
    | tup ts => exact q H .refl
    | lst => exact q H .refl
    | dct => exact q H .refl
    | str x =>
      obtain ⟨rfl, hlen⟩ := hv
      refine ⟨.str x, rfl, ?_⟩
      walk_at "nc"
      refine Or.inr (Or.inl ⟨x, rfl, Nat.le_of_lt (small1000 (by omega)), 1, _, rfl, rfl, _, rfl, ite2 (fun e1 => ?_) (fun e1 => ?_)⟩)
      · refine ⟨_, 8, rfl, rfl, _, rfl, ite2 (fun e2 => ?_) (fun e2 => ?_)⟩
        · have e : isNamed (.str x) = false := by
            simp only [isNamed, nmd]
            have : ¬ x.length ≤ 8 := by simp at e2; omega
            rw [decide_eq_false this]
            simp
          rw [e] at q
          exact q H .refl
        · have h1 : 1 ≤ x.length := by simp at e1; omega
          have h2 : x.length ≤ 8 := by simp at e2; omega
          refine ⟨.str x, rfl, x, rfl, fun D nD => ?_⟩
          have hsz : x.cps.toList.length = x.cps.size := by simp
          have hsl : x.cps.size = x.length := rfl
          refine lc_it walk_str (fun i H1 => H1 D = some (.lst (((x.cps.toList.take i).map fun c => decide (c ∈ lettersS.cps.toList)).map V.bl)) ∧ Mv [] H H1) ⟨upd_same, .new nD⟩ (fun _ _ _ _ => trivial) (fun i y H1 H2 hi h1 hy => ?_) (fun H1 h1 => ?_)
          · obtain ⟨e1, m1⟩ := h1
            obtain ⟨rfl, c, hc, rfl⟩ := hy
            have hc' : x.cps.toList[i]? = some c := by simpa using hc
            refine ⟨rfl, .str ⟨#[c]⟩, rfl, Or.inr ⟨c, _, rfl, rfl, _, e1, ?_, ?_, m1.wr nD⟩⟩
            · rw [List.length_map, List.length_map, List.length_take]
              exact small1000 (by omega)
            · rw [upd_same, List.take_add_one, hc']
              simp
              rfl
          · obtain ⟨e1, m1⟩ := h1
            rw [← hsz, List.take_length] at e1
            refine ⟨D, _, rfl, .inl (.inl e1), ?_⟩
            have e : isNamed (.str x) = ((x.cps.toList.map fun c => decide (c ∈ lettersS.cps.toList)).all id) := by
              simp only [isNamed, nmd]
              rw [decide_eq_true h1, decide_eq_true h2, List.all_map]
              rfl
            rw [← e]
            exact q H1 m1
      · have e : isNamed (.str x) = false := by
          simp only [isNamed, nmd]
          have : ¬ 1 ≤ x.length := by simp at e1; omega
          rw [decide_eq_false this]
          simp
        rw [e] at q
        exact ⟨_, rfl, q H .refl⟩
end
end Fm
namespace Fm
open PySem PySem.Spec PyProof.Rows L2
local macro_rules | `(tactic| walk_at "nn") => `(tactic| dsimp only [tC, tNil, tCons, tCB, tCall, gName, tSeq, tAsg, tPar, tDrop, tRet])
local macro_rules | `(tactic| walk_at "nc") => `(tactic| dsimp only [tC, tNil, tCons, tCB])
theorem isTerms_append (ts us : List Th) : isTerms (ts ++ us) = (isTerms ts && isTerms us) := by
  rw [isTerms_all, isTerms_all, isTerms_all, List.all_append]
theorem Th.cnt_pos (t : Th) : 1 ≤ t.cnt := by cases t <;> simp [Th.cnt]
theorem Th.cnts_len : ∀ ts : List Th, ts.length ≤ Th.cnts ts
  | [] => Nat.zero_le _
  | t :: ts => by
    have := Th.cnts_len ts
    have := t.cnt_pos
    simp only [Th.cnts, List.length_cons]
    omega
def sp_isTerm (K : PySem.W.Frag) : Sp := fun vs H Q _ => ∃ (v : V) (t : Th) (b : Addr), vs = [v] ∧ Is K b H v t ∧ t.cnt ≤ 90000 ∧ ∀ H', Mv [] H H' → Q (.bl (isTerm t)) H'
section
variable {P : Program} {w : World} {K : PySem.W.Frag} {mg : Str → Option Value} {base : Heap}
theorem ok_is_term (T : TX K mg) {k : Nat} : FnOk P w K mg base CX0 (k + 2) T.d_is_term.f T.d_is_term.fd P_is_term (sp_isTerm K) := by
  have G_is_integer : FnOk P w K mg base CX0 1 T.d_is_integer.f T.d_is_integer.fd P_is_integer (sp_kind K isWhole) := ok_is_integer T
  have G_is_name : FnOk P w K mg base CX0 1 T.d_is_name.f T.d_is_name.fd P_is_name (sp_kind K isNamed) := ok_is_name T
  refine T.d_is_term.F.ok sc_is_term (fun vs H Q E h => ?_) (fun cdv A outer s H vs Q E hr h => ?_)
  · obtain ⟨_, _, _, rfl, _⟩ := h
    rfl
  · obtain ⟨v, t, b, rfl, hv, hcn, q⟩ := h
    have hu65 := hu65_of hr
    refine ⟨_, (pss_cons (ps_set (i := 1) sc_is_term.nd rfl (Or.inl rfl) (pe_lst (pa_cons (pv 0) pa_nil))) (pss_cons (ps_while PassesOwn.never (pt_cmpR (r := rNeNil K) (op_neNil (Nat.lt_of_le_of_lt (Nat.le_add_right _ 65) hu65)) (pv 1) (pe_lst pa_nil) (nomark _)) (pss_cons (ps_set (i := 2) sc_is_term.nd rfl (Or.inl rfl) (pe_bm0 PySem.F.plainAttrs_list PySem.F.slot_list_pop PySem.F.type_list_pop mt_pop (pv 1))) (pss_one (ps_if (pt_val (pe_call G_is_integer (hr.mono (by omega)) rfl T.d_is_integer.g T.d_is_integer.F.kp T.d_is_integer.b .nil pass0 (pa_cons (pv 2) pa_nil))) (pss_one (ps_if (pt_cmpR op_lt (pv 2) pe_int (nomark _)) (pss_one (ps_ret pe_bl)) pss_nil)) (pss_one (ps_if (PW.pt (pw_or (pt_not (pt_val (pe_callB (r := rIsi K) call_isi (by rfl) T.b_isinstance bt_isinstance (pa_cons (pv 2) (pa_cons (pe_ty T.b_tuple bt_tuple) pa_nil))))) (pw_or (pt_not (pt_chain op_le op_le pe_int (pe_callB (r := rLenG K) call_lenG (by rfl) T.b_len bt_len (pa_cons (pv 2) pa_nil)) (pe_op (r := rAddG K) op_addG pe_int (pe_glob rfl T.c_MOST_PARTS T.r_MOST_PARTS)))) (pw_or1 (pt_not (pt_val (pe_call G_is_name (hr.mono (by omega)) rfl T.d_is_name.g T.d_is_name.F.kp T.d_is_name.b .nil pass0 (pa_cons (pe_ix (r := rIx K) ix_seq (pv 2) pe_int (fun _ _ => rfl)) pa_nil)))))))) (pss_one (ps_ret pe_bl)) (pss_one (ps_expr (pe_bm PySem.F.plainAttrs_list PySem.F.slot_list_extend PySem.F.type_list_extend (r := rExtG K) mt_extendG (pv 1) (pa_cons (pe_slice (r := rSlG K) sl_G (pv 2) (po_some pe_int) po_none) pa_nil)))))))))) (pss_one (ps_ret pe_bl)))), ?_⟩
    refine ⟨v, rfl, (by decide : 1 ≤ sizeLine), fun l nl => ?_⟩
    refine ⟨fun m σ H2 => ∃ (ys : List V) (us : List Th) (y : Option V), σ = [some v, some (.ref l), y] ∧ H2 l = some (.lst ys) ∧ IsAll K b H ys us ∧ isTerms us = isTerm t ∧ Th.cnts us ≤ 90000 ∧ m = Th.cnts us ∧ Mv [] H H2,
      ⟨_, [v], [t], none, rfl, upd_same, IsAll.cons hv IsAll.nil, by simp [isTerms], by simp only [Th.cnts]; omega, rfl, .new nl⟩, fun m σ H2 hW => ?_⟩
    obtain ⟨ys, us, y, rfl, e2, i2, s2, b2, rfl, m2⟩ := hW
    refine ⟨.ref l, rfl, Nat.zero_le _, fun q1 n1 => ⟨l, q1, ys, rfl, rfl, .inl (.inl (same_new n1 _ _ e2)), .inl (.inl upd_same), ?_⟩⟩
    have m23 : Mv [] H (upd H2 q1 (.lst [])) := m2.trans (.new n1)
    have e3 : upd H2 q1 (.lst []) l = some (.lst ys) := same_new n1 _ _ e2
    generalize upd H2 q1 (.lst []) = H3 at m23 e3 ⊢
    refine ⟨_, rfl, ?_⟩
    rcases List.eq_nil_or_concat us with rfl | ⟨us', u, rfl⟩
    · have hy : ys = [] := i2
      subst hy
      rw [show isTerms ([] : List Th) = true from by simp [isTerms]] at s2
      rw [← s2] at q
      exact q H3 m23
    · rw [List.concat_eq_append] at *
      obtain ⟨ys', z, rfl, i4, hz⟩ := IsAll.last rfl i2
      rw [show (!(ys' ++ [z]).isEmpty) = true by simp]
      refine ⟨fun σ' H' => ∃ m', m' < Th.cnts (us' ++ [u]) ∧ _, fun _ _ h => h, ?_⟩
      refine ⟨.ref l, rfl, .inl ⟨rfl, _, .inl (.inl e3)⟩, l, _, z, rfl, rfl, e3, by simp, ?_⟩
      have m25 : Mv [] H (upd H3 l (.lst (ys' ++ [z]).dropLast)) := m23.wr nl
      have e5 : upd H3 l (.lst (ys' ++ [z]).dropLast) l = some (.lst ys') := by rw [upd_same, List.dropLast_concat]
      generalize upd H3 l (.lst (ys' ++ [z]).dropLast) = H5 at m25 e5 ⊢
      rw [Th.cnts_append] at b2 ⊢
      rw [isTerms_append] at s2
      have e1u : isTerms [u] = isTerm u := by simp [isTerms]
      have c1u : Th.cnts [u] = u.cnt := by simp [Th.cnts]
      rw [e1u] at s2
      rw [c1u] at b2 ⊢
      have hpos := u.cnt_pos
      have hbad : isTerm u = false → isTerm t = false := fun e => by rw [← s2, e, Bool.and_false]
      refine ⟨z, rfl, z, u, b, rfl, hz.mv0 m25, fun H6 m6 => ?_⟩
      have m26 := m25.trans m6
      have e6 := m6.same _ _ e5
      refine ⟨_, rfl, ?_⟩
      have bad : isTupT u = false → isWhole u = false → isTerm u = false := fun h1 h2 => by
        cases u <;> simp [isTupT, isWhole, isTerm] at *
      cases u with
      | int i =>
        cases (show z = V.int i from hz)
        refine ⟨.int i, rfl, i, 0, rfl, rfl, _, rfl, ite2 (fun e => ?_) (fun e => ?_)⟩
        · have h0 : ¬ 0 ≤ i := by simp at e; omega
          have e9 := hbad (by simp only [isTerm]; exact decide_eq_false h0)
          rw [e9] at q
          exact q H6 m26
        · have h0 : 0 ≤ i := by simp at e; omega
          refine ⟨Th.cnts us', by omega, ys', us', _, rfl, e6, i4, ?_, by omega, rfl, m26⟩
          rw [← s2]
          simp only [isTerm]
          rw [decide_eq_true h0, Bool.and_true]
      | tup ts =>
        obtain ⟨a1, zs0, rfl, ha1, hzs0⟩ := hz
        have hl0 := hzs0.length
        have ha6 := m26.sqT ha1
        refine ⟨.ref a1, rfl, ?_⟩
        walk_at "nn"
        refine rd_isi (show Is K b H6 (.ref a1) (.tup ts) from ⟨a1, zs0, rfl, ha6, hzs0.mv0 m26⟩) (kit_tup (.tup ts)) ⟨_, rfl, ?_⟩
        refine ⟨.ref a1, rfl, ?_⟩
        walk_at "nc"
        refine rd_len (.inr ha6) ⟨1, _, rfl, rfl, _, rfl, ite2 (fun e => ?_) (fun e => ?_)⟩
        · have h1 : 1 ≤ zs0.length := by simp at e; omega
          refine Or.inl ⟨1, 3, rfl, rfl, _, _, rfl, rfl, _, rfl, ite2 (fun e1 => ?_) (fun e1 => ?_)⟩
          · have h2 : ¬ zs0.length ≤ 4 := by simp at e1; omega
            have e9 := hbad (by
              cases ts with
              | nil => simp [isTerm]
              | cons t0 tr =>
                simp only [List.length_cons] at hl0
                simp only [isTerm]
                rw [decide_eq_false (show ¬ tr.length ≤ 3 by omega)]
                simp)
            rw [e9] at q
            exact q H6 m26
          · have h2 : zs0.length ≤ 4 := by simp at e1; omega
            cases ts with
            | nil =>
              simp only [List.length_nil] at hl0
              omega
            | cons t0 tr =>
              obtain ⟨z0, zs, rfl, hz0, hzs⟩ := hzs0
              simp only [List.length_cons] at hl0 h2
              refine ⟨.ref a1, rfl, rd_ixT ha6 (by decide) (v := z0) rfl ?_⟩
              refine ⟨z0, t0, b, rfl, hz0.mv0 m26, fun H7 m7 => ⟨_, rfl, ite2 (fun e2 => ?_) (fun e2 => ?_)⟩⟩
              · have e9 := hbad (by
                  simp only [isTerm]
                  rw [show isNamed t0 = false by simpa using e2]
                  simp)
                rw [e9] at q
                exact q H7 (m26.trans m7)
              · have m27 := m26.trans m7
                have e7 := m7.same _ _ e6
                refine ⟨.ref l, rfl, .inl ⟨rfl, _, .inl (.inl e7)⟩, .ref a1, rfl, 1, rfl, rd_sl1 (m27.sqT ha1) fun p8 H8 m8 e8 => ?_⟩
                have hl4 := i4.length
                have hc4 := Th.cnts_len us'
                simp only [Th.cnt, Th.cnts] at b2 ⊢
                have hpos0 := t0.cnt_pos
                have hczs := Th.cnts_len tr
                refine Or.inr ⟨l, p8, ys', zs, rfl, rfl, m8.same _ _ e7, e8, Nat.le_trans (show ys'.length + zs.length ≤ 100000 by omega) (by decide), ?_⟩
                refine ⟨Th.cnts (us' ++ tr), by rw [Th.cnts_append]; omega, ys' ++ zs, us' ++ tr, _, rfl, upd_same, i4.append hzs, ?_, by rw [Th.cnts_append]; omega, rfl, (m27.trans m8).wr nl⟩
                rw [← s2, isTerms_append]
                simp only [isTerm]
                rw [show isNamed t0 = true by simpa using e2, decide_eq_true (show tr.length ≤ 3 by omega)]
                rfl
        · have h1 : ¬ 1 ≤ zs0.length := by simp at e; omega
          have e9 := hbad (by
            cases ts with
            | nil => simp [isTerm]
            | cons t0 tr =>
              simp only [List.length_cons] at hl0
              omega)
          rw [e9] at q
          exact ⟨_, rfl, q H6 m26⟩
      | non =>
        refine ⟨z, rfl, ?_⟩
        walk_at "nn"
        refine rd_isi (hz.mv0 m26) (kit_tup .non) ⟨_, rfl, ?_⟩
        have e9 := hbad (by simp [isTerm])
        rw [e9] at q
        exact q H6 m26
      | bl c =>
        refine ⟨z, rfl, ?_⟩
        walk_at "nn"
        refine rd_isi (hz.mv0 m26) (kit_tup (.bl c)) ⟨_, rfl, ?_⟩
        have e9 := hbad (by simp [isTerm])
        rw [e9] at q
        exact q H6 m26
      | str x =>
        refine ⟨z, rfl, ?_⟩
        walk_at "nn"
        refine rd_isi (hz.mv0 m26) (kit_tup (.str x)) ⟨_, rfl, ?_⟩
        have e9 := hbad (by simp [isTerm])
        rw [e9] at q
        exact q H6 m26
      | lst =>
        refine ⟨z, rfl, ?_⟩
        walk_at "nn"
        refine rd_isi (hz.mv0 m26) (kit_tup .lst) ⟨_, rfl, ?_⟩
        have e9 := hbad (by simp [isTerm])
        rw [e9] at q
        exact q H6 m26
      | dct =>
        refine ⟨z, rfl, ?_⟩
        walk_at "nn"
        refine rd_isi (hz.mv0 m26) (kit_tup .dct) ⟨_, rfl, ?_⟩
        have e9 := hbad (by simp [isTerm])
        rw [e9] at q
        exact q H6 m26
end
end Fm
namespace Fm
open PySem PySem.Spec PyProof.Rows L2
local macro_rules | `(tactic| walk_at "nn") => `(tactic| dsimp only [tC, tNil, tCons, tCB, tCall, gName, tSeq, tAsg, tPar, tDrop, tRet])
local macro_rules | `(tactic| walk_at "nc") => `(tactic| dsimp only [tC, tNil, tCons, tCB])
def initS (x : Str) : Str := ⟨(x.cps.toList.take (x.length - 1)).toArray⟩
def dashed (x : Str) : Bool := decide (x.cps.toList.drop (x.length - 1) = [45])
def isOutc : Th → Bool
  | .str x => if dashed x = true then nmd (initS x) else nmd x
  | _ => false
theorem toList_len (x : Str) : x.cps.toList.length = x.length := by simp; rfl
theorem sIx_m1 (n d : Nat) : HT.sIx n d (some (-1)) = n - 1 := by
  show (if (-1 : Int) < 0 then ((-1 : Int) + (n : Int)).toNat else min (-1 : Int).toNat n) = n - 1
  rw [if_pos (by decide)]
  omega
theorem cut_last (x : Str) : cutS x (some (-1)) none = ⟨(x.cps.toList.drop (x.length - 1)).toArray⟩ := by
  unfold cutS
  rw [sIx_m1, HT.sIx_none, List.take_of_length_le]
  rw [List.length_drop, toList_len]
  omega
theorem cut_init (x : Str) : cutS x none (some (-1)) = initS x := by
  unfold cutS initS
  rw [sIx_m1, HT.sIx_none, List.drop_zero, Nat.sub_zero]
theorem dash_eq (x : Str) : decide (V.str (cutS x (some (-1)) none) = V.str "-") = dashed x := by
  rw [cut_last]
  unfold dashed
  rw [Bool.eq_iff_iff, decide_eq_true_iff, decide_eq_true_iff]
  constructor
  · intro h
    injection h with h
    have h2 := congrArg (fun s : Str => s.cps.toList) h
    have e45 : (Str.ofString "-").cps.toList = [45] := by decide +kernel
    rw [← e45]
    simpa using h2
  · intro h
    rw [h]
    rfl
theorem initS_len (x : Str) : (initS x).length = x.length - 1 := by
  show (x.cps.toList.take (x.length - 1)).toArray.size = _
  rw [List.size_toArray, List.length_take, toList_len]
  omega
def sp_vals (K : PySem.W.Frag) : Sp := fun vs H Q _ => ∃ (n : Int) (v : V) (t : Th) (b : Addr), vs = [.int n, v] ∧ Is K b H v t ∧ t.cnt ≤ 90000 ∧ ∀ H', Mv [] H H' → Q (.bl (match t with | .tup ts => decide ((ts.length : Int) = n) && isTerms ts | _ => false)) H'
section
variable {P : Program} {w : World} {K : PySem.W.Frag} {mg : Str → Option Value} {base : Heap}
theorem ok_is_outcome (T : TX K mg) {k : Nat} : FnOk P w K mg base CX0 (k + 2) T.d_is_outcome.f T.d_is_outcome.fd P_is_outcome (sp_kind K isOutc) := by
  have G_is_name : FnOk P w K mg base CX0 1 T.d_is_name.f T.d_is_name.fd P_is_name (sp_kind K isNamed) := ok_is_name T
  refine T.d_is_outcome.F.ok sc_is_outcome (fun vs H Q E h => ?_) (fun cdv A outer s H vs Q E hr h => ?_)
  · obtain ⟨_, _, _, rfl, _⟩ := h
    rfl
  · obtain ⟨v, t, b, rfl, hv, q⟩ := h
    have hu64 := hr.units
    refine ⟨_, (pss_cons (ps_if (PW.pt (pw_and (pt_val (pe_callB (r := rIsi K) call_isi (by rfl) T.b_isinstance bt_isinstance (pa_cons (pv 0) (pa_cons (pe_ty T.b_str bt_str) pa_nil)))) (pw_and1 (pt_cmpR (r := rEqG K) (op_eqG hu64) (pe_slice (r := rSlG K) sl_G (pv 0) (po_some (pe_un un_neg pe_int)) po_none) pe_str (nomark _))))) (pss_one (ps_ret (pe_call G_is_name (hr.mono (by omega)) rfl T.d_is_name.g T.d_is_name.F.kp T.d_is_name.b .nil pass0 (pa_cons (pe_slice (r := rSlG K) sl_G (pv 0) po_none (po_some (pe_un un_neg pe_int))) pa_nil)))) pss_nil) (pss_one (ps_ret (pe_call G_is_name (hr.mono (by omega)) rfl T.d_is_name.g T.d_is_name.F.kp T.d_is_name.b .nil pass0 (pa_cons (pv 0) pa_nil))))), ?_⟩
    refine ⟨v, rfl, ?_⟩
    walk_at "nn"
    refine rd_isi hv (kit_str t) ⟨_, rfl, ?_⟩
    cases t with
    | int j => exact ⟨v, rfl, v, .int j, b, rfl, hv, q⟩
    | bl c => exact ⟨v, rfl, v, .bl c, b, rfl, hv, q⟩
    | non => exact ⟨v, rfl, v, .non, b, rfl, hv, q⟩
    | tup ts => exact ⟨v, rfl, v, .tup ts, b, rfl, hv, q⟩
    | lst => exact ⟨v, rfl, v, .lst, b, rfl, hv, q⟩
    | dct => exact ⟨v, rfl, v, .dct, b, rfl, hv, q⟩
    | str x =>
      obtain ⟨rfl, hlen⟩ := hv
      have hsz : x.length ≤ sizeLine := Nat.le_of_lt (small1000 (by omega))
      refine ⟨.str x, rfl, 1, rfl, -1, rfl, Or.inr (Or.inr ⟨x, rfl, hsz, Or.inl ⟨rfl, ?_⟩⟩)⟩
      have ed := dash_eq x
      rw [show (("-" : String) : Str) = Str.ofString "-" from rfl] at ed
      rw [ed]
      refine ⟨_, rfl, ite2 (fun e => ?_) (fun e => ?_)⟩
      · refine ⟨.str x, rfl, 1, rfl, -1, rfl, Or.inr (Or.inr ⟨x, rfl, hsz, ?_⟩)⟩
        rw [cut_init]
        refine ⟨_, .str (initS x), b, rfl, ⟨rfl, by rw [initS_len]; omega⟩, fun H' m => ?_⟩
        have := q H' m
        simp only [isOutc] at this
        rw [if_pos e] at this
        exact this
      · refine ⟨.str x, rfl, _, .str x, b, rfl, ⟨rfl, hlen⟩, fun H' m => ?_⟩
        have := q H' m
        simp only [isOutc] at this
        rw [if_neg e] at this
        exact this
end
end Fm
namespace Fm
open PySem PySem.Spec PyProof.Rows L2
local macro_rules | `(tactic| walk_at "nn") => `(tactic| dsimp only [tC, tNil, tCons, tCB, tCall, gName, tSeq, tAsg, tPar, tDrop, tRet])
local macro_rules | `(tactic| walk_at "nc") => `(tactic| dsimp only [tC, tNil, tCons, tCB, tCall])
mutual
def under (many : Int) : Th → Bool
  | .int i => decide (i < many)
  | .tup (_ :: ts) => unders many ts
  | _ => true
def unders (many : Int) : List Th → Bool
  | [] => true
  | t :: ts => under many t && unders many ts
end
theorem unders_append (many : Int) (ts us : List Th) : unders many (ts ++ us) = (unders many ts && unders many us) := by
  induction ts with
  | nil => simp [unders]
  | cons t ts ih => simp [unders, ih, Bool.and_assoc]
def sp_termOver (K : PySem.W.Frag) : Sp := fun vs H Q _ => ∃ (many : Int) (v : V) (t : Th) (b : Addr), vs = [.int many, v] ∧ Is K b H v t ∧ t.cnt ≤ 90000 ∧ ∀ H', Mv [] H H' → Q (.bl (isTerm t && under many t)) H'
section
variable {P : Program} {w : World} {K : PySem.W.Frag} {mg : Str → Option Value} {base : Heap}
theorem ok_is_term_over (T : TX K mg) {k : Nat} : FnOk P w K mg base CX0 (k + 3) T.d_is_term_over.f T.d_is_term_over.fd P_is_term_over (sp_termOver K) := by
  have G_is_term : FnOk P w K mg base CX0 2 T.d_is_term.f T.d_is_term.fd P_is_term (sp_isTerm K) := ok_is_term T
  refine T.d_is_term_over.F.ok sc_is_term_over (fun vs H Q E h => ?_) (fun cdv A outer s H vs Q E hr h => ?_)
  · obtain ⟨_, _, _, _, rfl, _⟩ := h
    rfl
  · obtain ⟨many, v, t, b, rfl, hv, hcn, q⟩ := h
    have hu65 := hu65_of hr
    refine ⟨_, (pss_cons (ps_if (pt_not (pt_val (pe_call G_is_term (hr.mono (by omega)) rfl T.d_is_term.g T.d_is_term.F.kp T.d_is_term.b .nil pass0 (pa_cons (pv 1) pa_nil)))) (pss_one (ps_ret pe_bl)) pss_nil) (pss_cons (ps_set (i := 2) sc_is_term_over.nd rfl (Or.inl rfl) (pe_lst (pa_cons (pv 1) pa_nil))) (pss_cons (ps_while PassesOwn.never (pt_cmpR (r := rNeNil K) (op_neNil (Nat.lt_of_le_of_lt (Nat.le_add_right _ 65) hu65)) (pv 2) (pe_lst pa_nil) (nomark _)) (pss_cons (ps_set (i := 3) sc_is_term_over.nd rfl (Or.inl rfl) (pe_bm0 PySem.F.plainAttrs_list PySem.F.slot_list_pop PySem.F.type_list_pop mt_pop (pv 2))) (pss_one (ps_if (pt_not (pt_val (pe_callB (r := rIsi K) call_isi (by rfl) T.b_isinstance bt_isinstance (pa_cons (pv 3) (pa_cons (pe_ty T.b_int bt_int) pa_nil))))) (pss_one (ps_expr (pe_bm PySem.F.plainAttrs_list PySem.F.slot_list_extend PySem.F.type_list_extend (r := rExtG K) mt_extendG (pv 2) (pa_cons (pe_slice (r := rSlG K) sl_G (pv 3) (po_some pe_int) po_none) pa_nil)))) (pss_one (ps_if (pt_cmpR op_ge (pv 3) (pv 0) (nomark _)) (pss_one (ps_ret pe_bl)) pss_nil)))))) (pss_one (ps_ret pe_bl))))), ?_⟩
    refine ⟨v, rfl, v, t, b, rfl, hv, hcn, fun H1 m1 => ⟨_, rfl, ite2 (fun e1 => ?_) (fun e1 => ?_)⟩⟩
    · have e9 : isTerm t = false := by simpa using e1
      rw [e9] at q
      exact q H1 m1
    have e9 : isTerm t = true := by simpa using e1
    rw [e9] at q
    refine ⟨v, rfl, (by decide : 1 ≤ sizeLine), fun l nl => ?_⟩
    have nl0 := m1.free nl
    refine ⟨fun m σ H2 => ∃ (ys : List V) (us : List Th) (y : Option V), σ = [some (.int many), some v, some (.ref l), y] ∧ H2 l = some (.lst ys) ∧ IsAll K b H ys us ∧ isTerms us = true ∧ unders many us = under many t ∧ Th.cnts us ≤ 90000 ∧ m = Th.cnts us ∧ Mv [] H H2,
      ⟨_, [v], [t], none, rfl, upd_same, IsAll.cons hv IsAll.nil, by simp [isTerms, e9], by simp [unders], by simp only [Th.cnts]; omega, rfl, m1.trans (.new nl)⟩, fun m σ H2 hW => ?_⟩
    obtain ⟨ys, us, y, rfl, e2, i2, s2, t2, b2, rfl, m2⟩ := hW
    refine ⟨.ref l, rfl, Nat.zero_le _, fun q1 n1 => ⟨l, q1, ys, rfl, rfl, .inl (.inl (same_new n1 _ _ e2)), .inl (.inl upd_same), ?_⟩⟩
    have m23 : Mv [] H (upd H2 q1 (.lst [])) := m2.trans (.new n1)
    have e3 : upd H2 q1 (.lst []) l = some (.lst ys) := same_new n1 _ _ e2
    generalize upd H2 q1 (.lst []) = H3 at m23 e3 ⊢
    refine ⟨_, rfl, ?_⟩
    rcases List.eq_nil_or_concat us with rfl | ⟨us', u, rfl⟩
    · have hy : ys = [] := i2
      subst hy
      rw [show unders many ([] : List Th) = true from by simp [unders]] at t2
      rw [← t2] at q
      exact q H3 m23
    · rw [List.concat_eq_append] at *
      obtain ⟨ys', z, rfl, i4, hz⟩ := IsAll.last rfl i2
      rw [show (!(ys' ++ [z]).isEmpty) = true by simp]
      refine ⟨fun σ' H' => ∃ m', m' < Th.cnts (us' ++ [u]) ∧ _, fun _ _ h => h, ?_⟩
      refine ⟨.ref l, rfl, .inl ⟨rfl, _, .inl (.inl e3)⟩, l, _, z, rfl, rfl, e3, by simp, ?_⟩
      have m25 : Mv [] H (upd H3 l (.lst (ys' ++ [z]).dropLast)) := m23.wr nl0
      have e5 : upd H3 l (.lst (ys' ++ [z]).dropLast) l = some (.lst ys') := by rw [upd_same, List.dropLast_concat]
      generalize upd H3 l (.lst (ys' ++ [z]).dropLast) = H5 at m25 e5 ⊢
      rw [Th.cnts_append] at b2 ⊢
      rw [isTerms_append, Bool.and_eq_true] at s2
      rw [unders_append] at t2
      have e1u : isTerms [u] = isTerm u := by simp [isTerms]
      have c1u : Th.cnts [u] = u.cnt := by simp [Th.cnts]
      rw [e1u] at s2
      rw [show unders many [u] = under many u by simp [unders]] at t2
      rw [c1u] at b2 ⊢
      have hpos := u.cnt_pos
      refine ⟨z, rfl, ?_⟩
      walk_at "nn"
      refine rd_isi (hz.mv0 m25) (kit_int u) ⟨_, rfl, ?_⟩
      cases u with
      | int i =>
        cases (show z = V.int i from hz)
        refine ⟨.int i, rfl, .int many, rfl, i, many, rfl, rfl, _, rfl, ite2 (fun e => ?_) (fun e => ?_)⟩
        · have h0 : ¬ i < many := by simp at e; omega
          rw [show under many t = false by rw [← t2]; simp only [under]; rw [decide_eq_false h0, Bool.and_false]] at q
          exact q H5 m25
        · have h0 : i < many := by simp at e; omega
          refine ⟨Th.cnts us', by omega, ys', us', _, rfl, e5, i4, s2.1, ?_, by omega, rfl, m25⟩
          rw [← t2]
          simp only [under]
          rw [decide_eq_true h0, Bool.and_true]
      | tup ts =>
        obtain ⟨a1, zs0, rfl, ha1, hzs0⟩ := hz
        cases ts with
        | nil => simp [isTerm] at s2
        | cons t0 tr =>
          obtain ⟨z0, zs, rfl, hz0, hzs⟩ := hzs0
          have s3 : isTerms tr = true ∧ tr.length ≤ 3 := by
            have := s2.2
            simp only [isTerm, Bool.and_eq_true, decide_eq_true_eq] at this
            exact ⟨this.2, this.1.2⟩
          have hlz := hzs.length
          refine ⟨.ref l, rfl, .inl ⟨rfl, _, .inl (.inl e5)⟩, .ref a1, rfl, 1, rfl, rd_sl1 (m25.sqT ha1) fun p8 H8 m8 e8 => ?_⟩
          have hl4 := i4.length
          have hc4 := Th.cnts_len us'
          simp only [Th.cnt, Th.cnts] at b2 ⊢
          have hpos0 := t0.cnt_pos
          have hczs := Th.cnts_len tr
          refine Or.inr ⟨l, p8, ys', zs, rfl, rfl, m8.same _ _ e5, e8, Nat.le_trans (show ys'.length + zs.length ≤ 100000 by omega) (by decide), ?_⟩
          refine ⟨Th.cnts (us' ++ tr), by rw [Th.cnts_append]; omega, ys' ++ zs, us' ++ tr, _, rfl, upd_same, i4.append hzs, ?_, ?_, by rw [Th.cnts_append]; omega, rfl, (m25.trans m8).wr nl0⟩
          · rw [isTerms_append, s2.1, s3.1]
            rfl
          · rw [← t2, unders_append]
            simp only [under]
      | non => simp [isTerm] at s2
      | bl c => simp [isTerm] at s2
      | str x => simp [isTerm] at s2
      | lst => simp [isTerm] at s2
      | dct => simp [isTerm] at s2
end
mutual
theorem isTerm_th {R : Int → Prop} (hR : ∀ i, R i → 0 ≤ i) : ∀ t : Tm, t.ok R → isTerm t.th = true
  | .var i, h => by simpa [Tm.th, isTerm] using hR i h
  | .op x ts, h => by
    simp only [Tm.th, isTerm, isNamed, nmd_nm h.1, isTerms_ths hR ts h.2.2, Bool.true_and, Bool.and_true, ths_len, decide_eq_true_eq]
    exact h.2.1
theorem isTerms_ths {R : Int → Prop} (hR : ∀ i, R i → 0 ≤ i) : ∀ ts : List Tm, Tm.oks R ts → isTerms (Tm.ths ts) = true
  | [], _ => by simp [Tm.ths, isTerms]
  | t :: ts, h => by simp [Tm.ths, isTerms, isTerm_th hR t h.1, isTerms_ths hR ts h.2]
theorem ths_len : ∀ ts : List Tm, (Tm.ths ts).length = ts.length
  | [] => by simp [Tm.ths]
  | t :: ts => by simp [Tm.ths, ths_len ts]
end
mutual
theorem under_th {R : Int → Prop} {n : Int} (hR : ∀ i, R i → i < n) : ∀ t : Tm, t.ok R → under n t.th = true
  | .var i, h => by simpa [Tm.th, under] using hR i h
  | .op x ts, h => by
    simp only [Tm.th, under]
    exact unders_ths hR ts h.2.2
theorem unders_ths {R : Int → Prop} {n : Int} (hR : ∀ i, R i → i < n) : ∀ ts : List Tm, Tm.oks R ts → unders n (Tm.ths ts) = true
  | [], _ => by simp [Tm.ths, unders]
  | t :: ts, h => by simp [Tm.ths, unders, under_th hR t h.1, unders_ths hR ts h.2]
end
mutual
theorem cnt_th : ∀ t : Tm, t.th.cnt ≤ t.cst + t.lv
  | .var i => by simp [Tm.th, Th.cnt, Tm.lv]
  | .op x ts => by
    have := cnts_ths ts
    simp only [Tm.th, Th.cnt, Th.cnts, Tm.cst, Tm.lv]
    omega
theorem cnts_ths : ∀ ts : List Tm, Th.cnts (Tm.ths ts) ≤ Tm.csts ts + Tm.lvs ts
  | [] => by simp [Tm.ths, Th.cnts]
  | t :: ts => by
    have := cnt_th t
    have := cnts_ths ts
    simp only [Tm.ths, Th.cnts, Tm.csts, Tm.lvs]
    omega
end
end Fm
namespace Fm
open PySem PySem.Spec PyProof.Rows L2 SlX
local macro_rules | `(tactic| walk_at "nn") => `(tactic| dsimp only [tC, tNil, tCons, tCB, tCall, gName, tSeq, tAsg, tPar, tDrop, tRet])
local macro_rules | `(tactic| walk_at "nc") => `(tactic| dsimp only [tC, tNil, tCons, tCB, tCall])
def On (x : Str) : Prop := isOutc (.str x) = true ∧ x.length ≤ 9
theorem on_nm {x : Str} (h : Nm x) : On x := by
  refine ⟨?_, by have := h.2.1; omega⟩
  have hd : dashed x = false := by
    unfold dashed
    refine decide_eq_false fun e => ?_
    have h1 : 45 ∈ x.cps.toList := List.mem_of_mem_drop (i := x.length - 1) (by rw [e]; simp)
    have := h.2.2 45 h1
    omega
  simp only [isOutc]
  rw [hd]
  exact nmd_nm h
theorem on_ok {x : Str} (h : On x) : PyData.strOk x = true := by
  show x.cps.all (· < 0x110000) = true
  rw [Array.all_eq_true_iff_forall_mem]
  have low : ∀ z : Str, nmd z = true → ∀ c ∈ z.cps.toList, c < 0x110000 := fun z hz c hc => by
    unfold nmd at hz
    rw [Bool.and_eq_true, List.all_eq_true] at hz
    have := hz.2 c hc
    have k : ∀ c ∈ lettersS.cps.toList, c < 0x110000 := by decide +kernel
    exact k c (of_decide_eq_true this)
  intro c hc
  have hc' : c ∈ x.cps.toList := by simpa using hc
  have h1 := h.1
  simp only [isOutc] at h1
  simp only [decide_eq_true_eq]
  split at h1
  · rename_i hd
    have hd' : x.cps.toList.drop (x.length - 1) = [45] := of_decide_eq_true hd
    rw [← List.take_append_drop (x.length - 1) x.cps.toList, hd'] at hc'
    rcases List.mem_append.mp hc' with hc' | hc'
    · exact low _ h1 c (by simpa [initS] using hc')
    · rw [List.mem_singleton] at hc'
      omega
  · exact low x h1 c hc'
structure ActR.ok (r : ActR) : Prop where
  nm : Nm r.nm
  ar0 : 0 ≤ r.ar
  ar2 : r.ar ≤ 2
  o1 : 1 ≤ r.outs.length
  o6 : r.outs.length ≤ 6
  on : ∀ e ∈ r.outs, On e.1 ∧ 0 ≤ e.2 ∧ e.2 ≤ 2
theorem ActR.ok_norm {r : ActR} (h : r.ok) : r.norm.ok := ⟨h.nm, h.ar0, h.ar2, by simp only [ActR.norm]; rw [srt_len]; exact h.o1, by simp only [ActR.norm]; rw [srt_len]; exact h.o6, fun e he => h.on e (srt_mem.mp he)⟩
def within (m : Int) : Th → Bool
  | .int i => decide (0 ≤ i) && decide (i ≤ m)
  | _ => false
def sp_within (K : PySem.W.Frag) : Sp := fun vs H Q _ => ∃ (v : V) (t : Th) (b : Addr) (m : Int), vs = [v, .int m] ∧ Is K b H v t ∧ ∀ H', Mv [] H H' → Q (.bl (within m t)) H'
def sp_outs : Sp := fun vs H Q _ => ∃ (o : Addr) (rows : List (Str × Int)), vs = [.ref o] ∧ H o = some (.dK (rows.map rowK)) ∧ (rows.map (·.1)).Nodup ∧ 1 ≤ rows.length ∧ rows.length ≤ 6 ∧ (∀ e ∈ rows, On e.1 ∧ 0 ≤ e.2 ∧ e.2 ≤ 2) ∧ ∀ H', Mv [] H H' → Q (.bl true) H'
def sp_act (K : PySem.W.Frag) : Sp := fun vs H Q _ => ∃ (r : ActR) (a o : Addr), vs = [.ref a] ∧ SqT K H a [.int r.ar, .ref o] ∧ H o = some (.dK (r.outs.map rowK)) ∧ (r.outs.map (·.1)).Nodup ∧ r.ok ∧ ∀ H', Mv [] H H' → Q (.bl true) H'
theorem tyx_sqT {K : PySem.W.Frag} {H : Hp} {a : Addr} {xs : List V} (h : SqT K H a xs) : TyX K H (.ref a) (.type "tuple") := by
  rcases h with (hs | ⟨o, hs⟩) | ⟨o, its, n, hk, hc, _⟩
  · exact .base (.tup hs)
  · exact .fTuple hs
  · exact .kTuple hk hc
theorem hu1_of {k : Nat} {A : Around} (h : Room k A) : A.units + 1 < cLine := by
  have := hu65_of h
  omega
section
variable {P : Program} {w : World} {K : PySem.W.Frag} {mg : Str → Option Value} {base : Heap}
theorem ok_is_within (T : TX K mg) {k : Nat} : FnOk P w K mg base CX0 (k + 2) T.d_is_within.f T.d_is_within.fd P_is_within (sp_within K) := by
  have G_is_integer : FnOk P w K mg base CX0 1 T.d_is_integer.f T.d_is_integer.fd P_is_integer (sp_kind K isWhole) := ok_is_integer T
  refine T.d_is_within.F.ok sc_is_within (fun vs H Q E h => ?_) (fun cdv A outer s H vs Q E hr h => ?_)
  · obtain ⟨_, _, _, _, rfl, _⟩ := h
    rfl
  · obtain ⟨v, t, b, m, rfl, hv, q⟩ := h
    refine ⟨_, (pss_one (ps_ret (pe_and (pe_call G_is_integer (hr.mono (by omega)) rfl T.d_is_integer.g T.d_is_integer.F.kp T.d_is_integer.b .nil pass0 (pa_cons (pv 0) pa_nil)) (pe_one (pe_chain op_le op_le pe_int (pv 0) (pv 1)))))), ?_⟩
    refine ⟨v, rfl, v, t, b, rfl, hv, fun H1 m1 => ⟨_, rfl, ?_⟩⟩
    cases t with
    | int i =>
      cases (show v = V.int i from hv)
      refine ⟨.int i, rfl, 0, i, rfl, rfl, _, rfl, ite2 (fun e => ?_) (fun e => ?_)⟩
      · refine ⟨.int m, rfl, i, m, rfl, rfl, ?_⟩
        have := q H1 m1
        simp only [within] at this
        rw [show decide (0 ≤ i) = true from e] at this
        exact this
      · have := q H1 m1
        simp only [within] at this
        rw [show decide (0 ≤ i) = false by simpa using e] at this
        exact this
    | bl c => exact q H1 m1
    | non => exact q H1 m1
    | str x => exact q H1 m1
    | tup ts => exact q H1 m1
    | lst => exact q H1 m1
    | dct => exact q H1 m1
theorem ok_are_outcomes (T : TX K mg) {k : Nat} : FnOk P w K mg base CX0 (k + 3) T.d_are_outcomes.f T.d_are_outcomes.fd P_are_outcomes sp_outs := by
  have G_is_outcome : FnOk P w K mg base CX0 2 T.d_is_outcome.f T.d_is_outcome.fd P_is_outcome (sp_kind K isOutc) := ok_is_outcome T
  have G_is_within : FnOk P w K mg base CX0 2 T.d_is_within.f T.d_is_within.fd P_is_within (sp_within K) := ok_is_within T
  refine T.d_are_outcomes.F.ok sc_are_outcomes (fun vs H Q E h => ?_) (fun cdv A outer s H vs Q E hr h => ?_)
  · obtain ⟨_, _, rfl, _⟩ := h
    rfl
  · obtain ⟨o, rows, rfl, ho, hnd, h1, h6, hon, q⟩ := h
    have hu65 := hu65_of hr
    have hu1 := hu1_of hr
    refine ⟨_, (pss_cons (ps_if (PW.pt (pw_or (pt_not (pt_val (pe_callB (r := rIsi K) call_isi (by rfl) T.b_isinstance bt_isinstance (pa_cons (pv 0) (pa_cons (pe_ty T.b_dict bt_dict) pa_nil))))) (pw_or1 (pt_not (pt_chain op_le op_le pe_int (pe_callB (r := rLenG K) call_lenG (by rfl) T.b_len bt_len (pa_cons (pv 0) pa_nil)) (pe_glob rfl T.c_MOST_OUTCOMES T.r_MOST_OUTCOMES)))))) (pss_one (ps_ret pe_bl)) pss_nil) (pss_one (ps_ret (pe_callB (r := rAll K) (cr_all rfl) (by rfl) T.b_all bt_all (pa_cons (pe_lock (pe_lc (own := [("outcome", 1)]) (g := gName 1) (by rfl) sc_are_outcomes.nd (pi_keys (pv 0)) (blkOk_by (own := [("outcome", 1)]) (N := N_are_outcomes) (sc := defScope s_are_outcomes) (by decide +kernel)) (fun _ _ _ _ _ => pg_name (i := 1) sc_are_outcomes.nd rfl (Or.inl rfl)) (fun _ _ _ _ _ => pts_nil) (fun _ _ _ _ _ => (pe_and (pe_call G_is_outcome (hr.mono (by omega)) rfl T.d_is_outcome.g T.d_is_outcome.F.kp T.d_is_outcome.b .nil pass0 (pa_cons (pv 1) pa_nil)) (pe_one (pe_call G_is_within (hr.mono (by omega)) rfl T.d_is_within.g T.d_is_within.F.kp T.d_is_within.b .nil pass0 (pa_cons (pe_dget hu1 (pv 0) (pv 1) (fun _ _ => rfl)) (pa_cons (pe_glob rfl T.c_MOST_BROUGHT T.r_MOST_BROUGHT) pa_nil)))))))) pa_nil))))), ?_⟩
    refine ⟨.ref o, rfl, ?_⟩
    walk_at "nn"
    refine ⟨_, _, _, _, true, rfl, .ty "dict", .base (.dK ho), kit_ty (by decide +kernel), ?_⟩
    refine ⟨_, rfl, ?_⟩
    refine ⟨.ref o, rfl, ?_⟩
    walk_at "nc"
    refine Or.inr (Or.inr ⟨o, _, rfl, ho, 1, _, rfl, rfl, _, rfl, ?_⟩)
    have hln : (rows.map rowK).length = rows.length := List.length_map _
    rw [hln, show decide ((1 : Int) ≤ ((rows.length : Nat) : Int)) = true from decide_eq_true (by omega)]
    refine ⟨_, 6, rfl, rfl, _, rfl, ?_⟩
    rw [show decide (((rows.length : Nat) : Int) ≤ 6) = true from decide_eq_true (by omega)]
    refine ⟨o, _, ho, trivial, fun od => ?_⟩
    have m0 := Mv.lock (od := od) ho (fun _ z => by cases z) (fun _ _ z => by cases z)
    have e0 : upd H o (.frz od (.dK (rows.map rowK))) o = some (.frz od (.dK (rows.map rowK))) := upd_same
    have un : ∀ H', Mv [] (upd H o (.frz od (.dK (rows.map rowK)))) H' → Mv [] H (upd H' o (.dK (rows.map rowK))) := fun H' m => Mv.unlock ho (fun _ z => by cases z) (fun _ _ z => by cases z) m
    generalize upd H o (.frz od (.dK (rows.map rowK))) = H1 at m0 e0 un ⊢
    refine ⟨.ref o, rfl, o, od, rfl, Or.inl ⟨_, e0, fun D nD => ?_⟩⟩
    refine lc_it walk_keys (fun i H2 => H2 D = some (.lst ((List.replicate i true).map V.bl)) ∧ Mv [] H1 H2) ⟨upd_same, .new nD⟩ (fun i H2 _ h2 => h2.2.same _ _ e0) (fun i x H2 H3 hi h2 y => ?_) (fun H2 h2 => ?_)
    · obtain ⟨e2, m2⟩ := h2
      obtain ⟨rfl, k, v, hk, rfl⟩ := y
      rw [List.getElem?_map] at hk
      obtain ⟨e, he, hk⟩ := Option.map_eq_some_iff.mp hk
      obtain ⟨rfl, rfl⟩ := Prod.mk.inj hk
      have hm := List.mem_of_getElem? he
      obtain ⟨o1, o2, o3⟩ := hon e hm
      refine ⟨rfl, ?_⟩
      refine ⟨.str e.1, rfl, .str e.1, .str e.1, o, rfl, ⟨rfl, by have := o1.2; omega⟩, fun H4 m4 => ?_⟩
      rw [o1.1]
      refine ⟨_, rfl, ?_⟩
      have m14 := m2.trans m4
      refine ⟨.ref o, rfl, .str e.1, rfl, o, .int e.2, rfl, Or.inl ⟨_, .inr e.1, .inr ⟨od, m14.same _ _ e0⟩, rfl, (row_val hnd hm).symm⟩, ?_⟩
      refine ⟨.int e.2, .int e.2, o, 2, rfl, rfl, fun H5 m5 => ?_⟩
      rw [show within 2 (.int e.2) = true by simp [within, o2, o3]]
      have m15 := m14.trans m5
      refine ⟨_, m5.same _ _ (m4.same _ _ e2), ?_, ?_, ?_⟩
      · rw [List.length_map, List.length_replicate]
        have : i < rows.length := by rw [hln] at hi; exact hi
        exact Nat.lt_of_le_of_lt (show i ≤ 10 by omega) (by decide)
      · rw [upd_same, List.replicate_succ', List.map_append]
        rfl
      · exact m15.wr nD
    · obtain ⟨e2, m2⟩ := h2
      refine ⟨m2.same _ _ e0, D, List.replicate (rows.map rowK).length true, rfl, .inl (.inl ?_), ?_⟩
      · rw [upd_ne (by rintro rfl; rw [e0] at nD; cases nD)]
        exact e2
      · rw [show (List.replicate (rows.map rowK).length true).all id = true by simp]
        exact q _ (un H2 m2)
theorem ok_is_act (T : TX K mg) {k : Nat} : FnOk P w K mg base CX0 (k + 4) T.d_is_act.f T.d_is_act.fd P_is_act (sp_act K) := by
  have G_are_outcomes : FnOk P w K mg base CX0 3 T.d_are_outcomes.f T.d_are_outcomes.fd P_are_outcomes sp_outs := ok_are_outcomes T
  have G_is_within : FnOk P w K mg base CX0 2 T.d_is_within.f T.d_is_within.fd P_is_within (sp_within K) := ok_is_within T
  refine T.d_is_act.F.ok sc_is_act (fun vs H Q E h => ?_) (fun cdv A outer s H vs Q E hr h => ?_)
  · obtain ⟨_, _, _, rfl, _⟩ := h
    rfl
  · obtain ⟨r, a, o, rfl, ha, ho, hnd, hok, q⟩ := h
    have hu64 := hr.units
    refine ⟨_, (pss_cons (ps_if (PW.pt (pw_or (pt_not (pt_val (pe_callB (r := rIsi K) call_isi (by rfl) T.b_isinstance bt_isinstance (pa_cons (pv 0) (pa_cons (pe_ty T.b_tuple bt_tuple) pa_nil))))) (pw_or1 (pt_cmpR (r := rNeG K) (op_neG hu64) (pe_callB (r := rLenG K) call_lenG (by rfl) T.b_len bt_len (pa_cons (pv 0) pa_nil)) pe_int (nomark _))))) (pss_one (ps_ret pe_bl)) pss_nil) (pss_one (ps_ret (pe_and (pe_call G_is_within (hr.mono (by omega)) rfl T.d_is_within.g T.d_is_within.F.kp T.d_is_within.b .nil pass0 (pa_cons (pe_ix (r := rIx K) ix_seq (pv 0) pe_int (fun _ _ => rfl)) (pa_cons (pe_glob rfl T.c_MOST_ARGUMENTS T.r_MOST_ARGUMENTS) pa_nil))) (pe_one (pe_call G_are_outcomes (hr.mono (by omega)) rfl T.d_are_outcomes.g T.d_are_outcomes.F.kp T.d_are_outcomes.b .nil pass0 (pa_cons (pe_ix (r := rIx K) ix_seq (pv 0) pe_int (fun _ _ => rfl)) pa_nil))))))), ?_⟩
    refine ⟨.ref a, rfl, ?_⟩
    walk_at "nn"
    refine ⟨_, _, _, _, true, rfl, .ty "tuple", tyx_sqT ha, kit_ty (by decide +kernel), ?_⟩
    refine ⟨_, rfl, ?_⟩
    refine ⟨.ref a, rfl, ?_⟩
    walk_at "nc"
    refine rd_len (.inr ha) (Or.inl ⟨rfl, _, rfl, ?_⟩)
    refine ⟨.ref a, rfl, rd_ixT ha (by decide) (v := .int r.ar) rfl ?_⟩
    refine ⟨.int r.ar, .int r.ar, o, 2, rfl, rfl, fun H1 m1 => ?_⟩
    rw [show within 2 (.int r.ar) = true by simp [within, hok.ar0, hok.ar2]]
    refine ⟨_, rfl, ?_⟩
    refine ⟨.ref a, rfl, rd_ixT (m1.sqT ha) (by decide) (v := .ref o) rfl ?_⟩
    exact ⟨o, r.outs, rfl, m1.same _ _ ho, hnd, hok.o1, hok.o6, hok.on, fun H2 m2 => q H2 (m1.trans m2)⟩
end
end Fm
namespace Fm
open PySem PySem.Spec PyProof.Rows L2 SlX
local macro_rules | `(tactic| walk_at "nn") => `(tactic| dsimp only [tC, tNil, tCons, tCB, tCall, gName, tSeq, tAsg, tPar, tDrop, tRet])
local macro_rules | `(tactic| walk_at "nc") => `(tactic| dsimp only [tC, tNil, tCons, tCB, tCall])
def WldF (K : PySem.W.Frag) (H0 H : Hp) (C x : Addr) (rs : List ActR) : Prop := ∃ dx d zs, Slt H x C dx [some (.ref d)] ∧ ActsAt K H d zs ∧ zs.map (·.r) = rs ∧ H0 d = none ∧ ∀ z ∈ zs, H0 z.o = none
theorem WldF.at_ {K : PySem.W.Frag} {H0 H : Hp} {C x : Addr} {rs : List ActR} (h : WldF K H0 H C x rs) : WldAt K H C x rs := by
  obtain ⟨dx, d, zs, h1, h2, h3, _⟩ := h
  exact ⟨dx, d, zs, h1, h2, h3⟩
def sp_World (K : PySem.W.Frag) (C : Addr) : Sp := fun vs H Q _ => ∃ (x dx d : Addr) (zs : List ActA) (H0 : Hp), vs = [.ref x, .ref d] ∧ H = upd (upd H0 dx (.own x)) x (.ins C dx []) ∧ H0 x = none ∧ H0 dx = none ∧ dx ≠ x ∧ ActsAt K H0 d zs ∧ (∀ z ∈ zs, z.r.ok) ∧ zs.length < 60 ∧
  ∀ H', Mv [] H0 H' → WldF K H0 H' C x (normW (zs.map (·.r))) → Q .non H'
section
variable {P : Program} {w : World} {K : PySem.W.Frag} {mg : Str → Option Value} {base : Heap}
theorem ok_World___init__ (T : TX K mg) {k : Nat} : FnOk P w K mg base CX0 (k + 5) T.d_World___init__.f T.d_World___init__.fd P_World___init__ (sp_World K T.C_World) := by
  have G_is_name : FnOk P w K mg base CX0 1 T.d_is_name.f T.d_is_name.fd P_is_name (sp_kind K isNamed) := ok_is_name T
  have G_is_act : FnOk P w K mg base CX0 4 T.d_is_act.f T.d_is_act.fd P_is_act (sp_act K) := ok_is_act T
  refine T.d_World___init__.F.ok sc_World___init__ (fun vs H Q E h => ?_) (fun cdv A outer s H vs Q E hr h => ?_)
  · obtain ⟨_, _, _, _, _, rfl, _⟩ := h
    rfl
  · obtain ⟨x, dx, d, zs, H0, rfl, eH, nx, ndx, hne, hA0, hok, hfew, q⟩ := h
    have hu1 := hu1_of hr
    refine ⟨_, (pss_cons (ps_if (PW.pt (pw_or (pt_not (pt_val (pe_callB (r := rIsi K) call_isi (by rfl) T.b_isinstance bt_isinstance (pa_cons (pv 1) (pa_cons (pe_ty T.b_dict bt_dict) pa_nil))))) (pw_or1 (pt_not (pt_val (pe_callB (r := rAll K) (cr_all rfl) (by rfl) T.b_all bt_all (pa_cons (pe_lock (pe_lc (own := [("name", 2)]) (g := gName 2) (by rfl) sc_World___init__.nd (pi_keys (pv 1)) (blkOk_by (own := [("name", 2)]) (N := N_World___init__) (sc := defScope s_World___init__) (by decide +kernel)) (fun _ _ _ _ _ => pg_name (i := 2) sc_World___init__.nd rfl (Or.inl rfl)) (fun _ _ _ _ _ => pts_nil) (fun _ _ _ _ _ => (pe_call G_is_name (hr.mono (by omega)) rfl T.d_is_name.g T.d_is_name.F.kp T.d_is_name.b .nil pass0 (pa_cons (pv 2) pa_nil))))) pa_nil))))))) (pss_one ps_never) pss_nil) (pss_cons (ps_for PassesOwn.never rfl (pi_seq (pe_callB (r := rSortA K) (cr_sortA rfl) (by rfl) T.b_sorted bt_sorted (pa_cons (pv 1) pa_nil))) (pg_name (i := 2) sc_World___init__.nd rfl (Or.inl rfl)) (pss_one (ps_if (pt_not (pt_val (pe_call G_is_act (hr.mono (by omega)) rfl T.d_is_act.g T.d_is_act.F.kp T.d_is_act.b .nil pass0 (pa_cons (pe_dget hu1 (pv 1) (pv 2) (fun _ _ => rfl)) pa_nil)))) (pss_one ps_never) pss_nil))) (pss_one (ps_sl (pv 0) (pe_dc rfl (own := [("name", 2)]) (g := gName 2) sc_World___init__.nd (pi_seq (pe_callB (r := rSortA K) (cr_sortA rfl) (by rfl) T.b_sorted bt_sorted (pa_cons (pv 1) pa_nil))) (blkOk_by (own := [("name", 2)]) (N := N_World___init__) (sc := defScope s_World___init__) (by decide +kernel)) (fun _ _ _ _ _ => pg_name (i := 2) sc_World___init__.nd rfl (Or.inl rfl)) (fun _ _ _ _ _ => pts_nil) (fun _ _ _ _ _ => (pv 2)) (fun _ _ _ _ _ => (pe_tup (pa_cons (pe_ix (r := rIx K) ix_seq (pe_dget hu1 (pv 1) (pv 2) (fun _ _ => rfl)) pe_int (fun _ _ => rfl)) (pa_cons (pe_callTy (r := rDictG K) (call_dictG rfl) (by rfl) T.b_dict bt_dict (pa_cons (pe_callB (r := rSortSI) (cr_sortSI rfl) (by rfl) T.b_sorted bt_sorted (pa_cons (pe_bm0C (K := K) rfl PySem.F.plainAttrs_dict PySem.F.slot_dict_items PySem.F.type_dict_items mt_itemsK (pe_ix (r := rIx K) ix_seq (pe_dget hu1 (pv 1) (pv 2) (fun _ _ => rfl)) pe_int (fun _ _ => rfl))) pa_nil)) pa_nil)) pa_nil))))))))), ?_⟩
    have mH : Mv [] H0 H := by
      rw [eH]
      exact (Mv.new ndx).wr nx
    have hx : H x = some (.ins T.C_World dx []) := by rw [eH]; exact upd_same
    have hdx : H dx = some (.own x) := by rw [eH, upd_ne hne]; exact upd_same
    have hA := hA0.mv mH
    have hd := hA.at_
    clear eH
    refine ⟨.ref d, rfl, ?_⟩
    walk_at "nn"
    refine ⟨_, _, _, _, true, rfl, .ty "dict", .base (.dK hd), kit_ty (by decide +kernel), ?_⟩
    refine ⟨_, rfl, ?_⟩
    refine ⟨d, _, hd, trivial, fun od => ?_⟩
    have e0 : upd H d (.frz od (.dK (zs.map ActA.kv))) d = some (.frz od (.dK (zs.map ActA.kv))) := upd_same
    have un : ∀ H', Mv [] (upd H d (.frz od (.dK (zs.map ActA.kv)))) H' → Mv [] H (upd H' d (.dK (zs.map ActA.kv))) := fun H' m => Mv.unlock hd (fun _ z => by cases z) (fun _ _ z => by cases z) m
    generalize upd H d (.frz od (.dK (zs.map ActA.kv))) = H1 at e0 un ⊢
    refine ⟨.ref d, rfl, d, od, rfl, Or.inl ⟨_, e0, fun D nD => ?_⟩⟩
    refine lc_it walk_keys (fun i H2 => H2 D = some (.lst ((List.replicate i true).map V.bl)) ∧ Mv [] H1 H2) ⟨upd_same, .new nD⟩ (fun i H2 _ h2 => h2.2.same _ _ e0) (fun i y H2 H3 hi h2 yy => ?_) (fun H2 h2 => ?_)
    · obtain ⟨e2, m2⟩ := h2
      obtain ⟨rfl, k, v, hk, rfl⟩ := yy
      rw [List.getElem?_map] at hk
      obtain ⟨z, he, hk⟩ := Option.map_eq_some_iff.mp hk
      obtain ⟨rfl, rfl⟩ := Prod.mk.inj hk
      have hm := List.mem_of_getElem? he
      have o1 := (hok z hm).nm
      refine ⟨rfl, ?_⟩
      refine ⟨.str z.r.nm, rfl, .str z.r.nm, .str z.r.nm, d, rfl, ⟨rfl, by have := o1.2.1; omega⟩, fun H4 m4 => ?_⟩
      rw [show isNamed (.str z.r.nm) = true from nmd_nm o1]
      refine ⟨_, m4.same _ _ e2, ?_, ?_, (m2.trans m4).wr nD⟩
      · rw [List.length_map, List.length_replicate]
        have : i < zs.length := by rw [List.length_map] at hi; exact hi
        exact Nat.lt_of_le_of_lt (show i ≤ 100 by omega) (by decide)
      · rw [upd_same, List.replicate_succ', List.map_append]
        rfl
    · obtain ⟨e2, m2⟩ := h2
      refine ⟨m2.same _ _ e0, D, List.replicate (zs.map ActA.kv).length true, rfl, .inl (.inl ?_), ?_⟩
      · rw [upd_ne (by rintro rfl; rw [e0] at nD; cases nD)]
        exact e2
      · rw [show (List.replicate (zs.map ActA.kv).length true).all id = true by simp]
        have m3 := un H2 m2
        generalize upd H2 d (.dK (zs.map ActA.kv)) = H3 at m3 ⊢
        have hd3 := m3.same _ _ hd
        have hA3 := hA.mv m3
        have hlz : (zs.map (·.r.nm)).length < 64 := by rw [List.length_map]; omega
        refine ⟨_, rfl, ?_⟩
        refine ⟨.ref d, rfl, Or.inl ⟨d, _, zs.map (·.r.nm), rfl, .inl hd3, kv_keys zs, hlz, fun ys p hp hs np => ⟨p, rfl, ?_⟩⟩⟩
        have hys := srt_keys totS hA.nd hp (sortedS_pw ys hs)
        generalize hss : srt leS (fun z : ActA => z.r.nm) zs = ss at hys
        subst hys
        refine for_seq (xs := (ss.map (·.r.nm)).map V.str) (.inl (.inl (.inl upd_same))) (fun i σ H4 => ∃ y, σ = [some (.ref x), some (.ref d), y] ∧ Mv [] (upd H3 p (.lst ((ss.map (·.r.nm)).map V.str))) H4)
          ⟨none, rfl, .refl⟩ (fun i σ H4 h4 => h4.choose_spec.2) (fun i y σ H4 hy h4 => ?_) (fun σ H4 h4 => ?_)
        · obtain ⟨y0, rfl, m4⟩ := h4
          rw [List.getElem?_map, List.getElem?_map, Option.map_map] at hy
          obtain ⟨z, hz, rfl⟩ := Option.map_eq_some_iff.mp hy
          have hzs : z ∈ zs := by rw [← srt_mem (le := leS) (k := fun z : ActA => z.r.nm), hss]; exact List.mem_of_getElem? hz
          have hA4 := hA3.mv ((Mv.new np).trans m4)
          refine ⟨.ref d, rfl, .str z.r.nm, rfl, d, .ref z.a, rfl, Or.inl ⟨_, .inr z.r.nm, .inl hA4.at_, rfl, (hA4.val hzs).symm⟩, ?_⟩
          refine ⟨z.r, z.a, z.o, rfl, hA4.tup z hzs, hA4.out z hzs, hA4.ond z hzs, hok z hzs, fun H5 m5 => ?_⟩
          exact ⟨_, rfl, _, rfl, m4.trans m5⟩
        · obtain ⟨y0, rfl, m4⟩ := h4
          have m34 := (Mv.new np).trans m4
          have hA4 := hA3.mv m34
          have nss : (ss.map (·.r.nm)).Nodup := by rw [← hss]; exact srt_nd hA.nd
          have hsub : ∀ z ∈ ss, z ∈ zs := fun z hz => by rw [← srt_mem (le := leS) (k := fun z : ActA => z.r.nm), hss]; exact hz
          have hls : ss.length < 60 := by rw [← hss, srt_len]; exact hfew
          refine ⟨.ref d, rfl, Or.inl ⟨d, _, zs.map (·.r.nm), rfl, .inl hA4.at_, kv_keys zs, hlz, fun ys2 p2 hp2 hs2 np2 => ⟨p2, rfl, Or.inl ⟨⟨_, .inl (.inl upd_same)⟩, fun D nD => ?_⟩⟩⟩⟩
          have hys2 := srt_keys totS hA.nd hp2 (sortedS_pw ys2 hs2)
          rw [hss] at hys2
          subst hys2
          have e6 : upd H4 p2 (.lst ((ss.map (·.r.nm)).map V.str)) p2 = some (.lst ((ss.map (·.r.nm)).map V.str)) := upd_same
          have m46 : Mv [] H4 (upd H4 p2 (.lst ((ss.map (·.r.nm)).map V.str))) := .new np2
          generalize upd H4 p2 (.lst ((ss.map (·.r.nm)).map V.str)) = H6 at e6 m46 nD ⊢
          have hA6 := hA4.mv m46
          refine dc_it walk_list (fun i H7 => ∃ ws : List ActA, H7 D = some (.dK (ws.map ActA.kv)) ∧ ws.map (·.r) = (ss.take i).map (·.r.norm) ∧ (∀ w ∈ ws, SqT K H7 w.a [.int w.r.ar, .ref w.o] ∧ H7 w.o = some (.dK (w.r.outs.map rowK)) ∧ w.o ≠ D ∧ H6 w.o = none) ∧ Mv [] H6 H7)
            ⟨[], upd_same, by simp, fun _ h => absurd h List.not_mem_nil, .new nD⟩ (fun i H7 _ h7 => .inl (.inl (h7.choose_spec.2.2.2.same _ _ e6))) (fun i y H7' H7 hi h7 yy => ?_) (fun H7 h7 => ?_)
          · obtain ⟨ws, e7, r7, c7, m7⟩ := h7
            obtain ⟨rfl, hy⟩ := yy
            rw [List.getElem?_map, List.getElem?_map, Option.map_map] at hy
            obtain ⟨z, hz, rfl⟩ := Option.map_eq_some_iff.mp hy
            have hzs := hsub z (List.mem_of_getElem? hz)
            have hA7 := hA6.mv m7
            refine ⟨rfl, .str z.r.nm, rfl, ?_⟩
            refine ⟨.ref d, rfl, .str z.r.nm, rfl, d, .ref z.a, rfl, Or.inl ⟨_, .inr z.r.nm, .inl hA7.at_, rfl, (hA7.val hzs).symm⟩, ?_⟩
            refine rd_ixT (hA7.tup z hzs) (by decide) (v := .int z.r.ar) rfl ?_
            refine ⟨.ref d, rfl, .str z.r.nm, rfl, d, .ref z.a, rfl, Or.inl ⟨_, .inr z.r.nm, .inl hA7.at_, rfl, (hA7.val hzs).symm⟩, ?_⟩
            refine rd_ixT (hA7.tup z hzs) (by decide) (v := .ref z.o) rfl ?_
            refine ⟨.inr (.inr (.inl ⟨rfl, .inl ⟨_, hA7.out z hzs⟩⟩)), z.o, _, rfl, rfl, hA7.out z hzs, fun p8 np8 => ?_⟩
            have hzo : z.o ≠ p8 := ne_of_none (hA7.out z hzs) np8
            refine ⟨p8, z.o, z.r.outs, rfl, upd_same, by rw [upd_ne hzo]; exact hA7.out z hzs, fun H9 l ps k9 nl hpm hpw hl hps => ?_⟩
            have hqs := srt_outs (hA7.ond z hzs) hpm hpw
            have m79 : Mv [] H7 H9 := (Mv.new np8).trans (.of_same k9)
            refine Or.inl ⟨l, ps.map (·.1), (ps.map (·.2)).map rowK, rfl, .inl (.inl (by rw [hl, List.map_map]; rfl)), paired_rows ps hps, fun p10 np10 => ?_⟩
            rw [mergeK_nd _ _ (by rw [List.nil_append, row_keys, hqs]; exact nd_inr (srt_nd (hA7.ond z hzs))), List.nil_append, hqs]
            have m710 := m79.trans (Mv.new (o := .dK ((srt leS (·.1) z.r.outs).map rowK)) np10)
            have e10 : upd H9 p10 (.dK ((srt leS (·.1) z.r.outs).map rowK)) p10 = some (.dK ((srt leS (·.1) z.r.outs).map rowK)) := upd_same
            have hpD : p10 ≠ D := (ne_of_none (m79.same _ _ e7) np10).symm
            have fp10 : H6 p10 = none := (m7.trans m79).free np10
            generalize upd H9 p10 (.dK ((srt leS (·.1) z.r.outs).map rowK)) = H10 at m710 e10 ⊢
            refine ⟨(by decide : 2 ≤ sizeLine), fun p11 np11 => ⟨ws.map ActA.kv, .inr z.r.nm, rfl, ?_, ?_, ?_⟩⟩
            · exact same_new np11 _ _ (m710.same _ _ e7)
            · have : ws.length = (ss.take i).length := by
                have := congrArg List.length r7
                rwa [List.length_map, List.length_map] at this
              rw [List.length_map, this, List.length_take]
              exact Nat.lt_of_le_of_lt (show min i ss.length ≤ 100 by omega) (by decide)
            · have hnew : (.inr z.r.nm : L2.Key) ∉ (ws.map ActA.kv).map (·.1) := by
                rw [kv_keys, show ws.map (fun z : ActA => z.r.nm) = (ss.take i).map (fun z : ActA => z.r.nm) by
                  have := congrArg (List.map ActR.nm) r7
                  rw [List.map_map, List.map_map] at this
                  exact this]
                intro hmem
                obtain ⟨nm, hnm, he⟩ := List.mem_map.mp hmem
                cases he
                have hi' : i < ss.length := (List.getElem?_eq_some_iff.mp hz).1
                have n2 := nss
                rw [show ss = ss.take i ++ z :: ss.drop (i + 1) by rw [← (List.getElem?_eq_some_iff.mp hz).2, List.getElem_cons_drop, List.take_append_drop], List.map_append, List.nodup_append] at n2
                exact n2.2.2 _ hnm z.r.nm (by simp) rfl
              rw [putK_new hnew]
              have hD11 : upd H10 p11 (.tup [.int z.r.ar, .ref p10]) D = some (.dK (ws.map ActA.kv)) := same_new np11 _ _ (m710.same _ _ e7)
              have hm11 := Mv.putD (o := .dK (ws.map ActA.kv ++ [(.inr z.r.nm, .ref p11)])) hD11
              have m711 : Mv [] H7 (upd H10 p11 (.tup [.int z.r.ar, .ref p10])) := m710.trans (.new np11)
              refine ⟨ws ++ [⟨z.r.norm, p11, p10⟩], ?_, ?_, ?_, (m7.trans m711).wr nD⟩
              · rw [upd_same, List.map_append]
                rfl
              · rw [List.map_append, r7, List.take_add_one, hz]
                simp
              · intro w hw
                rcases List.mem_append.mp hw with hw | hw
                · obtain ⟨h1, h2, h3, h4⟩ := c7 w hw
                  exact ⟨hm11.sqT (m711.sqT h1), hm11.keep _ _ (by simpa using h3) (m711.same _ _ h2), h3, h4⟩
                · rw [List.mem_singleton] at hw
                  subst hw
                  refine ⟨hm11.sqT (.inl (.inl upd_same)), hm11.keep _ _ (by simpa using hpD) (same_new np11 _ _ e10), hpD, fp10⟩
          · obtain ⟨ws, e7, r7, c7, m7⟩ := h7
            have m37 := m34.trans (m46.trans m7)
            have mH7 := m3.trans m37
            refine ⟨.ref x, rfl, x, T.C_World, dx, T.p_World_its_acts, [], 0, rfl, Or.inl ⟨mH7.same _ _ hx, rfl⟩, T.c_World, T.sl_World_its_acts, ?_⟩
            have hxD : x ≠ D := by rintro rfl; rw [mH7.same _ _ hx] at e7; cases e7
            have hdxD : dx ≠ D := by rintro rfl; rw [mH7.same _ _ hdx] at e7; cases e7
            have hrl : ws.map (·.r) = normW (zs.map (·.r)) := by
              rw [r7, show ((ss.map (·.r.nm)).map V.str).length = ss.length by simp, List.take_length, ← hss]
              unfold normW
              rw [List.map_map, srt_map (k := fun z : ActA => z.r.nm) (l := fun x => x.nm) (f := ActR.norm ∘ fun x : ActA => x.r) totS (fun _ => rfl) hA.nd]
              rfl
            have keep : ∀ p o, H7 p = some o → p ≠ x → p ≠ dx → slH H7 x T.C_World dx (putS 0 (.ref D) []) p = some o := fun p o h h1 h2 => by rw [slH_ne h1 h2]; exact h
            have fr6 : ∀ {p}, H6 p = none → H0 p = none := fun {p} np => (mH.trans (m3.trans (m34.trans m46))).free np
            refine q _ ?_ ?_
            · unfold slH
              exact ((mH.trans mH7).wr ndx).wr nx
            · refine ⟨dx, D, ws, slH_slt hne, ⟨keep _ _ e7 hxD.symm hdxD.symm, ?_, fun w hw => ?_, fun w hw => ?_, fun w hw => ?_⟩, hrl, fr6 nD, fun w hw => fr6 (c7 w hw).2.2.2⟩
              · rw [show ws.map (fun z : ActA => z.r.nm) = ss.map (fun z : ActA => z.r.nm) by
                  rw [show ((ss.map (·.r.nm)).map V.str).length = ss.length by simp, List.take_length] at r7
                  have := congrArg (List.map ActR.nm) r7
                  rw [List.map_map, List.map_map] at this
                  exact this]
                exact nss
              · have h7x := mH7.same _ _ hx
                have h7d := mH7.same _ _ hdx
                have m1 : Mv [dx] H7 (upd H7 dx (.xd [])) := .put h7d (fun _ z => by cases z) (fun _ _ z => by cases z)
                have m2 : Mv [x] (upd H7 dx (.xd [])) (slH H7 x T.C_World dx (putS 0 (.ref D) [])) := .put (u := .ins T.C_World dx []) (by rw [upd_ne hne.symm]; exact h7x) (fun _ z => by cases z) (fun _ _ z => by cases z)
                exact m2.sqT (m1.sqT (c7 w hw).1)
              · have h2 := (c7 w hw).2.1
                exact keep _ _ h2 (by rintro e; rw [e, mH7.same _ _ hx] at h2; cases h2) (by rintro e; rw [e, mH7.same _ _ hdx] at h2; cases h2)
              · have : w.r ∈ ws.map (·.r) := List.mem_map.mpr ⟨w, hw, rfl⟩
                rw [r7] at this
                obtain ⟨z, hz, e⟩ := List.mem_map.mp this
                rw [← e]
                exact srt_nd (hA.ond z (hsub z (List.mem_of_mem_take hz)))
end
end Fm
namespace Fm
open PySem PySem.Spec PyProof.Rows L2 SlX
local macro_rules | `(tactic| walk_at "nn") => `(tactic| dsimp only [tC, tNil, tCons, tCB, tCall, gName, tSeq, tAsg, tPar, tDrop, tRet])
local macro_rules | `(tactic| walk_at "nc") => `(tactic| dsimp only [tC, tNil, tCons, tCB, tCall])
def sp_Wacts (K : PySem.W.Frag) (C : Addr) : Sp := fun vs H Q _ => ∃ (x : Addr) (rs : List ActR), vs = [.ref x] ∧ WldAt K H C x rs ∧ ∀ p, H p = none → Q (.ref p) (upd H p (.lst ((rs.map (·.nm)).map V.str)))
def sp_Wargs (K : PySem.W.Frag) (C : Addr) : Sp := fun vs H Q _ => ∃ (x : Addr) (rs : List ActR) (r : ActR), vs = [.ref x, .str r.nm] ∧ WldAt K H C x rs ∧ r ∈ rs ∧ Q (.int r.ar) H
def sp_Wouts (K : PySem.W.Frag) (C : Addr) : Sp := fun vs H Q _ => ∃ (x : Addr) (rs : List ActR) (r : ActR), vs = [.ref x, .str r.nm] ∧ WldAt K H C x rs ∧ r ∈ rs ∧ ∀ p, H p = none → Q (.ref p) (upd H p (.lst ((r.outs.map (·.1)).map V.str)))
def sp_Wbrings (K : PySem.W.Frag) (C : Addr) : Sp := fun vs H Q _ => ∃ (x : Addr) (rs : List ActR) (r : ActR) (y : Str) (i : Int), vs = [.ref x, .str r.nm, .str y] ∧ WldAt K H C x rs ∧ r ∈ rs ∧ (y, i) ∈ r.outs ∧ Q (.int i) H
section
variable {P : Program} {w : World} {K : PySem.W.Frag} {mg : Str → Option Value} {base : Heap}
theorem ok_World_acts (T : TX K mg) {k : Nat} : FnOk P w K mg base CX0 (k + 1) T.d_World_acts.f T.d_World_acts.fd P_World_acts (sp_Wacts K T.C_World) := by
  refine T.d_World_acts.F.ok sc_World_acts (fun vs H Q E h => ?_) (fun cdv A outer s H vs Q E hr h => ?_)
  · obtain ⟨_, _, rfl, _⟩ := h
    rfl
  · obtain ⟨x, rs, rfl, ⟨dx, d, zs, hs, hA, rfl⟩, q⟩ := h
    refine ⟨_, (pss_one (ps_ret (pe_callTy (r := rListG K) (call_listA rfl) (by rfl) T.b_list bt_list (pa_cons (pe_slC (K := K) rfl (pv 0)) pa_nil)))), ?_⟩
    refine ⟨.ref x, rfl, x, T.C_World, dx, T.p_World_its_acts, _, 0, .ref d, rfl, hs, T.c_World, T.sl_World_its_acts, rfl, ?_⟩
    refine Or.inr ⟨d, _, rfl, hA.at_, fun p np => ?_⟩
    have := q p np
    rw [List.map_map, List.map_map] at this
    rw [List.map_map]
    exact this
theorem ok_World_arguments (T : TX K mg) {k : Nat} : FnOk P w K mg base CX0 (k + 1) T.d_World_arguments.f T.d_World_arguments.fd P_World_arguments (sp_Wargs K T.C_World) := by
  refine T.d_World_arguments.F.ok sc_World_arguments (fun vs H Q E h => ?_) (fun cdv A outer s H vs Q E hr h => ?_)
  · obtain ⟨_, _, _, rfl, _⟩ := h
    rfl
  · obtain ⟨x, rs, r, rfl, ⟨dx, d, zs, hs, hA, rfl⟩, hr', q⟩ := h
    obtain ⟨z, hz, rfl⟩ := List.mem_map.mp hr'
    have hu1 := hu1_of hr
    refine ⟨_, (pss_one (ps_ret (pe_ix (r := rIx K) ix_seq (pe_dget hu1 (pe_slC (K := K) rfl (pv 0)) (pv 1) (fun _ _ => rfl)) pe_int (fun _ _ => rfl)))), ?_⟩
    refine ⟨.ref x, rfl, x, T.C_World, dx, T.p_World_its_acts, _, 0, .ref d, rfl, hs, T.c_World, T.sl_World_its_acts, rfl, ?_⟩
    refine ⟨.str z.r.nm, rfl, d, .ref z.a, rfl, Or.inl ⟨_, .inr z.r.nm, .inl hA.at_, rfl, (hA.val hz).symm⟩, ?_⟩
    exact rd_ixT (hA.tup z hz) (by decide) (v := .int z.r.ar) rfl q
theorem ok_World_outcomes (T : TX K mg) {k : Nat} : FnOk P w K mg base CX0 (k + 1) T.d_World_outcomes.f T.d_World_outcomes.fd P_World_outcomes (sp_Wouts K T.C_World) := by
  refine T.d_World_outcomes.F.ok sc_World_outcomes (fun vs H Q E h => ?_) (fun cdv A outer s H vs Q E hr h => ?_)
  · obtain ⟨_, _, _, rfl, _⟩ := h
    rfl
  · obtain ⟨x, rs, r, rfl, ⟨dx, d, zs, hs, hA, rfl⟩, hr', q⟩ := h
    obtain ⟨z, hz, rfl⟩ := List.mem_map.mp hr'
    have hu1 := hu1_of hr
    refine ⟨_, (pss_one (ps_ret (pe_callTy (r := rListG K) (call_listA rfl) (by rfl) T.b_list bt_list (pa_cons (pe_ix (r := rIx K) ix_seq (pe_dget hu1 (pe_slC (K := K) rfl (pv 0)) (pv 1) (fun _ _ => rfl)) pe_int (fun _ _ => rfl)) pa_nil)))), ?_⟩
    refine ⟨.ref x, rfl, x, T.C_World, dx, T.p_World_its_acts, _, 0, .ref d, rfl, hs, T.c_World, T.sl_World_its_acts, rfl, ?_⟩
    refine ⟨.str z.r.nm, rfl, d, .ref z.a, rfl, Or.inl ⟨_, .inr z.r.nm, .inl hA.at_, rfl, (hA.val hz).symm⟩, ?_⟩
    refine rd_ixT (hA.tup z hz) (by decide) (v := .ref z.o) rfl ?_
    refine Or.inr ⟨z.o, _, rfl, hA.out z hz, fun p np => ?_⟩
    have := q p np
    rw [List.map_map] at this ⊢
    exact this
theorem ok_World_brings (T : TX K mg) {k : Nat} : FnOk P w K mg base CX0 (k + 1) T.d_World_brings.f T.d_World_brings.fd P_World_brings (sp_Wbrings K T.C_World) := by
  refine T.d_World_brings.F.ok sc_World_brings (fun vs H Q E h => ?_) (fun cdv A outer s H vs Q E hr h => ?_)
  · obtain ⟨_, _, _, _, _, rfl, _⟩ := h
    rfl
  · obtain ⟨x, rs, r, y, i, rfl, ⟨dx, d, zs, hs, hA, rfl⟩, hr', hy, q⟩ := h
    obtain ⟨z, hz, rfl⟩ := List.mem_map.mp hr'
    have hu1 := hu1_of hr
    refine ⟨_, (pss_one (ps_ret (pe_dget hu1 (pe_ix (r := rIx K) ix_seq (pe_dget hu1 (pe_slC (K := K) rfl (pv 0)) (pv 1) (fun _ _ => rfl)) pe_int (fun _ _ => rfl)) (pv 2) (fun _ _ => rfl)))), ?_⟩
    refine ⟨.ref x, rfl, x, T.C_World, dx, T.p_World_its_acts, _, 0, .ref d, rfl, hs, T.c_World, T.sl_World_its_acts, rfl, ?_⟩
    refine ⟨.str z.r.nm, rfl, d, .ref z.a, rfl, Or.inl ⟨_, .inr z.r.nm, .inl hA.at_, rfl, (hA.val hz).symm⟩, ?_⟩
    refine rd_ixT (hA.tup z hz) (by decide) (v := .ref z.o) rfl ?_
    exact ⟨.str y, rfl, z.o, .int i, rfl, Or.inl ⟨_, .inr y, .inl (hA.out z hz), rfl, (row_val (hA.ond z hz) hy).symm⟩, q⟩
end
end Fm
namespace Fm
open PySem PySem.Spec PyProof.Rows L2 SlX
local macro_rules | `(tactic| walk_at "nn") => `(tactic| dsimp only [tC, tNil, tCons, tCB, tCall, gName, tSeq, tAsg, tPar, tDrop, tRet])
local macro_rules | `(tactic| walk_at "nc") => `(tactic| dsimp only [tC, tNil, tCons, tCB, tCall])
inductive Sta where
  | set (chs : List (Int × Tm)) (goal : Int)
  | ask (act : Str) (ts : List Tm) (ways : List (Str × List Int × Int))
  | fin (word : Str) (ts : List Tm)
def chD (c : Int × Tm) : PyData := .tuple [.int c.1, c.2.d]
def wayD (w : Str × List Int × Int) : PyData := .tuple [.str w.1, .tuple (w.2.1.map .int), .int w.2.2]
def Sta.d : Sta → PyData
  | .set chs goal => .tuple [.str "set", .tuple (chs.map chD), .int goal]
  | .ask act ts ways => .tuple [.str "ask", .str act, .tuple (Tm.ds ts), .tuple (ways.map wayD)]
  | .fin word ts => .tuple [.str "end", .str word, .tuple (Tm.ds ts)]
def TmOver (many : Int) (t : Tm) : Prop := t.ok (fun i => 0 ≤ i ∧ i < many) ∧ t.th.cnt ≤ 5000 ∧ t.dep ≤ 50
def ChOk (many : Int) (chs : List (Int × Tm)) : Prop := (chs.map (·.1)).Nodup ∧ chs.length ≤ 24 ∧ ∀ c ∈ chs, 0 ≤ c.1 ∧ c.1 < many ∧ TmOver many c.2
def WayOk (r : ActR) (many places : Int) (w : Str × List Int × Int) : Prop := ∃ i, (w.1, i) ∈ r.outs ∧ (w.2.1.length : Int) = i ∧ w.2.1.Nodup ∧ (∀ j ∈ w.2.1, 0 ≤ j ∧ j < many) ∧ 0 ≤ w.2.2 ∧ w.2.2 < places
structure AskOk (r : ActR) (many places : Int) (ts : List Tm) (ways : List (Str × List Int × Int)) : Prop where
  len : (ts.length : Int) = r.ar
  ts : ∀ t ∈ ts, TmOver many t
  pm : (ways.map (·.1)).Perm (r.outs.map (·.1))
  ways : ∀ w ∈ ways, WayOk r many places w
def Sta.ok (rs : List ActR) (many places : Int) : Sta → Prop
  | .set chs goal => ChOk many chs ∧ 0 ≤ goal ∧ goal < places
  | .ask act ts ways => ∃ r ∈ rs, r.nm = act ∧ AskOk r many places ts ways
  | .fin word ts => Nm word ∧ ts.length ≤ 2 ∧ ∀ t ∈ ts, TmOver many t
structure WOk (rs : List ActR) : Prop where
  ok : ∀ r ∈ rs, r.ok
  nd : (rs.map (·.nm)).Nodup
  few : rs.length < 60
  ond : ∀ r ∈ rs, (r.outs.map (·.1)).Nodup
  pw : ∀ r ∈ rs, (r.outs.map (·.1)).Pairwise fun a b => leS a b = true
def inPl (places : Int) : Th → Bool
  | .int i => decide (0 ≤ i) && decide (i < places)
  | _ => false
def sp_diff (K : PySem.W.Frag) : Sp := fun vs H Q _ => ∃ (many : Int) (a : Addr) (ns : List Int), vs = [.int many, .ref a] ∧ SqT K H a (ns.map V.int) ∧ ns.Nodup ∧ ns.length ≤ 1000 ∧ (∀ i ∈ ns, 0 ≤ i ∧ i < many) ∧ ∀ H', Mv [] H H' → Q (.bl true) H'
def sp_termsOver (K : PySem.W.Frag) : Sp := fun vs H Q _ => ∃ (many : Int) (v : V) (ts : List Tm), vs = [.int many, v] ∧ Im K H v (.tuple (Tm.ds ts)) ∧ ts.length ≤ 1000 ∧ (∀ t ∈ ts, TmOver many t) ∧ ∀ H', Mv [] H H' → Q (.bl true) H'
def sp_place (K : PySem.W.Frag) : Sp := fun vs H Q _ => ∃ (places : Int) (v : V) (t : Th) (b : Addr), vs = [.int places, v] ∧ Is K b H v t ∧ ∀ H', Mv [] H H' → Q (.bl (inPl places t)) H'
def sp_pair (K : PySem.W.Frag) : Sp := fun vs H Q _ => ∃ (v : V) (d e : PyData), vs = [v] ∧ Im K H v (.tuple [d, e]) ∧ Q (.bl true) H
section
variable {P : Program} {w : World} {K : PySem.W.Frag} {mg : Str → Option Value} {base : Heap}
theorem ok_is_place (T : TX K mg) {k : Nat} : FnOk P w K mg base CX0 (k + 2) T.d_is_place.f T.d_is_place.fd P_is_place (sp_place K) := by
  have G_is_integer : FnOk P w K mg base CX0 1 T.d_is_integer.f T.d_is_integer.fd P_is_integer (sp_kind K isWhole) := ok_is_integer T
  refine T.d_is_place.F.ok sc_is_place (fun vs H Q E h => ?_) (fun cdv A outer s H vs Q E hr h => ?_)
  · obtain ⟨_, _, _, _, rfl, _⟩ := h
    rfl
  · obtain ⟨m, v, t, b, rfl, hv, q⟩ := h
    refine ⟨_, (pss_one (ps_ret (pe_and (pe_call G_is_integer (hr.mono (by omega)) rfl T.d_is_integer.g T.d_is_integer.F.kp T.d_is_integer.b .nil pass0 (pa_cons (pv 1) pa_nil)) (pe_one (pe_chain op_le op_lt pe_int (pv 1) (pv 0)))))), ?_⟩
    refine ⟨v, rfl, v, t, b, rfl, hv, fun H1 m1 => ⟨_, rfl, ?_⟩⟩
    cases t with
    | int i =>
      cases (show v = V.int i from hv)
      refine ⟨.int i, rfl, 0, i, rfl, rfl, _, rfl, ite2 (fun e => ?_) (fun e => ?_)⟩
      · refine ⟨.int m, rfl, i, m, rfl, rfl, ?_⟩
        have := q H1 m1
        simp only [inPl] at this
        rw [show decide (0 ≤ i) = true from e] at this
        exact this
      · have := q H1 m1
        simp only [inPl] at this
        rw [show decide (0 ≤ i) = false by simpa using e] at this
        exact this
    | bl c => exact q H1 m1
    | non => exact q H1 m1
    | str x => exact q H1 m1
    | tup ts => exact q H1 m1
    | lst => exact q H1 m1
    | dct => exact q H1 m1
theorem ok_is_pair (T : TX K mg) {k : Nat} : FnOk P w K mg base CX0 (k + 1) T.d_is_pair.f T.d_is_pair.fd P_is_pair (sp_pair K) := by
  refine T.d_is_pair.F.ok sc_is_pair (fun vs H Q E h => ?_) (fun cdv A outer s H vs Q E hr h => ?_)
  · obtain ⟨_, _, _, rfl, _⟩ := h
    rfl
  · obtain ⟨v, d, e, rfl, hv, q⟩ := h
    have hu64 := hr.units
    obtain ⟨a, xs, rfl, ha, hx⟩ := hv.tupI
    have hl := hx.length
    refine ⟨_, (pss_one (ps_ret (pe_and (pe_callB (r := rIsi K) call_isi (by rfl) T.b_isinstance bt_isinstance (pa_cons (pv 0) (pa_cons (pe_ty T.b_tuple bt_tuple) pa_nil))) (pe_one (pe_cmpR (r := rEqG K) (op_eqG hu64) (pe_callB (r := rLenG K) call_lenG (by rfl) T.b_len bt_len (pa_cons (pv 0) pa_nil)) pe_int (nomark _)))))), ?_⟩
    refine ⟨.ref a, rfl, ?_⟩
    walk_at "nn"
    refine ⟨_, _, _, _, true, rfl, .ty "tuple", tyx_sqT ha, kit_ty (by decide +kernel), ?_⟩
    refine ⟨_, rfl, ?_⟩
    refine ⟨.ref a, rfl, ?_⟩
    walk_at "nc"
    refine rd_len (.inr ha) (Or.inl ⟨rfl, ?_⟩)
    rw [hl]
    exact q
theorem ok_are_different (T : TX K mg) {k : Nat} : FnOk P w K mg base CX0 (k + 2) T.d_are_different.f T.d_are_different.fd P_are_different (sp_diff K) := by
  have G_is_integer : FnOk P w K mg base CX0 1 T.d_is_integer.f T.d_is_integer.fd P_is_integer (sp_kind K isWhole) := ok_is_integer T
  refine T.d_are_different.F.ok sc_are_different (fun vs H Q E h => ?_) (fun cdv A outer s H vs Q E hr h => ?_)
  · obtain ⟨_, _, _, rfl, _⟩ := h
    rfl
  · obtain ⟨many, a, ns, rfl, ha, hnd, hln, hin, q⟩ := h
    have hu64 := hr.units
    refine ⟨_, (pss_cons (ps_if (PW.pt (pw_or (pt_not (pt_val (pe_callB (r := rIsi K) call_isi (by rfl) T.b_isinstance bt_isinstance (pa_cons (pv 1) (pa_cons (pe_ty T.b_tuple bt_tuple) pa_nil))))) (pw_or1 (pt_not (pt_val (pe_callB (r := rAll K) (cr_all rfl) (by rfl) T.b_all bt_all (pa_cons (pe_lc (own := [("one", 2)]) (g := gName 2) (by rfl) sc_are_different.nd (pi_seq (pv 1)) (blkOk_by (own := [("one", 2)]) (N := N_are_different) (sc := defScope s_are_different) (by decide +kernel)) (fun _ _ _ _ _ => pg_name (i := 2) sc_are_different.nd rfl (Or.inl rfl)) (fun _ _ _ _ _ => pts_nil) (fun _ _ _ _ _ => (pe_and (pe_call G_is_integer (hr.mono (by omega)) rfl T.d_is_integer.g T.d_is_integer.F.kp T.d_is_integer.b .nil pass0 (pa_cons (pv 2) pa_nil)) (pe_one (pe_chain op_le op_lt pe_int (pv 2) (pv 0)))))) pa_nil))))))) (pss_one (ps_ret pe_bl)) pss_nil) (pss_one (ps_ret (pe_cmpR (r := rEqG K) (op_eqG hu64) (pe_lenSetG rfl (by rfl) T.b_len (by rfl) T.b_set (pv 1)) (pe_callB (r := rLenG K) call_lenG (by rfl) T.b_len bt_len (pa_cons (pv 1) pa_nil)) (nomark _))))), ?_⟩
    refine ⟨.ref a, rfl, ?_⟩
    walk_at "nn"
    refine ⟨_, _, _, _, true, rfl, .ty "tuple", tyx_sqT ha, kit_ty (by decide +kernel), ?_⟩
    refine ⟨_, rfl, ?_⟩
    refine ⟨.ref a, rfl, a, rfl, ?_⟩
    refine lc_seq (xs := ns.map V.int) (.inr ha) (fun i D H1 => H1 D = some (.lst ((List.replicate i true).map V.bl)) ∧ Mv [] H H1)
      (fun D nD => ⟨upd_same, .new nD⟩) (fun i D H1 nD h1 => h1.2) (fun D nD i x H1 hx h1 => ?_) (fun D H1 nD h1 => ?_)
    · obtain ⟨e1, m1⟩ := h1
      rw [List.getElem?_map] at hx
      obtain ⟨j, hj, rfl⟩ := Option.map_eq_some_iff.mp hx
      have hij := (List.getElem?_eq_some_iff.mp hj).1
      obtain ⟨j0, j1⟩ := hin j (List.mem_of_getElem? hj)
      refine ⟨rfl, .int j, rfl, .int j, .int j, a, rfl, rfl, fun H2 m2 => ⟨_, rfl, ?_⟩⟩
      refine ⟨.int j, rfl, 0, j, rfl, rfl, _, rfl, ?_⟩
      rw [show decide (0 ≤ j) = true from decide_eq_true j0]
      refine ⟨.int many, rfl, j, many, rfl, rfl, ?_⟩
      dsimp only
      rw [show decide (j < many) = true from decide_eq_true j1]
      refine ⟨_, m2.same _ _ e1, ?_, ?_, (m1.trans m2).wr nD⟩
      · rw [List.length_map, List.length_replicate]
        exact Nat.lt_of_le_of_lt (show i ≤ 1000 by omega) (by decide)
      · rw [upd_same, List.replicate_succ', List.map_append]
        rfl
    · obtain ⟨e1, m1⟩ := h1
      refine ⟨D, List.replicate (ns.map V.int).length true, rfl, .inl (.inl e1), ?_⟩
      rw [show (List.replicate (ns.map V.int).length true).all id = true by simp]
      refine ⟨_, rfl, ?_⟩
      refine ⟨.ref a, rfl, a, ns, rfl, .inr (m1.sqT ha), by omega, fun ks hk hmem => ?_⟩
      refine ⟨.ref a, rfl, ?_⟩
      walk_at "nc"
      refine rd_len (.inr (m1.sqT ha)) (Or.inl ⟨rfl, ?_⟩)
      have hp : ks.Perm ns := (List.perm_ext_iff_of_nodup hk hnd).mpr hmem
      rw [hp.length_eq, List.length_map]
      simp only [decide_true]
      exact q H1 m1
theorem ok_are_terms_over (T : TX K mg) {k : Nat} : FnOk P w K mg base CX0 (k + 4) T.d_are_terms_over.f T.d_are_terms_over.fd P_are_terms_over (sp_termsOver K) := by
  have G_is_term_over : FnOk P w K mg base CX0 3 T.d_is_term_over.f T.d_is_term_over.fd P_is_term_over (sp_termOver K) := ok_is_term_over T
  refine T.d_are_terms_over.F.ok sc_are_terms_over (fun vs H Q E h => ?_) (fun cdv A outer s H vs Q E hr h => ?_)
  · obtain ⟨_, _, _, rfl, _⟩ := h
    rfl
  · obtain ⟨many, v, ts, rfl, hv, hln, hts, q⟩ := h
    obtain ⟨a, xs, rfl, ha, hxs⟩ := hv.tupI
    have hl := hxs.length
    rw [Tm.ds_map, List.length_map] at hl
    refine ⟨_, (pss_one (ps_ret (pe_and (pe_callB (r := rIsi K) call_isi (by rfl) T.b_isinstance bt_isinstance (pa_cons (pv 1) (pa_cons (pe_ty T.b_tuple bt_tuple) pa_nil))) (pe_one (pe_callB (r := rAll K) (cr_all rfl) (by rfl) T.b_all bt_all (pa_cons (pe_lc (own := [("term", 2)]) (g := gName 2) (by rfl) sc_are_terms_over.nd (pi_seq (pv 1)) (blkOk_by (own := [("term", 2)]) (N := N_are_terms_over) (sc := defScope s_are_terms_over) (by decide +kernel)) (fun _ _ _ _ _ => pg_name (i := 2) sc_are_terms_over.nd rfl (Or.inl rfl)) (fun _ _ _ _ _ => pts_nil) (fun _ _ _ _ _ => (pe_call G_is_term_over (hr.mono (by omega)) rfl T.d_is_term_over.g T.d_is_term_over.F.kp T.d_is_term_over.b .nil pass0 (pa_cons (pv 0) (pa_cons (pv 2) pa_nil))))) pa_nil)))))), ?_⟩
    refine ⟨.ref a, rfl, ?_⟩
    walk_at "nn"
    refine ⟨_, _, _, _, true, rfl, .ty "tuple", tyx_sqT ha, kit_ty (by decide +kernel), ?_⟩
    refine ⟨_, rfl, ?_⟩
    refine ⟨.ref a, rfl, a, rfl, ?_⟩
    refine lc_seq (xs := xs) (.inr ha) (fun i D H1 => H1 D = some (.lst ((List.replicate i true).map V.bl)) ∧ Mv [] H H1)
      (fun D nD => ⟨upd_same, .new nD⟩) (fun i D H1 nD h1 => h1.2) (fun D nD i x H1 hx h1 => ?_) (fun D H1 nD h1 => ?_)
    · obtain ⟨e1, m1⟩ := h1
      obtain ⟨d, hd, him⟩ := hxs.get hx
      rw [Tm.ds_map, List.getElem?_map] at hd
      obtain ⟨t, ht, rfl⟩ := Option.map_eq_some_iff.mp hd
      have hij := (List.getElem?_eq_some_iff.mp ht).1
      obtain ⟨t1, t2, t3⟩ := hts t (List.mem_of_getElem? ht)
      refine ⟨rfl, .int many, rfl, x, rfl, many, x, t.th, a, rfl, Is.of_im t x t1 (him.mv m1), by omega, fun H2 m2 => ?_⟩
      rw [isTerm_th (fun i h => h.1) t t1, under_th (fun i h => h.2) t t1]
      refine ⟨_, m2.same _ _ e1, ?_, ?_, (m1.trans m2).wr nD⟩
      · rw [List.length_map, List.length_replicate]
        exact Nat.lt_of_le_of_lt (show i ≤ 1000 by omega) (by decide)
      · rw [upd_same, List.replicate_succ', List.map_append]
        rfl
    · obtain ⟨e1, m1⟩ := h1
      refine ⟨D, List.replicate xs.length true, rfl, .inl (.inl e1), ?_⟩
      rw [show (List.replicate xs.length true).all id = true by simp]
      exact q H1 m1
end
end Fm
namespace Fm
open PySem PySem.Spec PyProof.Rows L2 SlX
local macro_rules | `(tactic| walk_at "nn") => `(tactic| dsimp only [tC, tNil, tCons, tCB, tCall, gName, tSeq, tAsg, tPar, tDrop, tRet])
local macro_rules | `(tactic| walk_at "nc") => `(tactic| dsimp only [tC, tNil, tCons, tCB, tCall])
def sp_set (K : PySem.W.Frag) : Sp := fun vs H Q _ => ∃ (many places : Int) (v : V) (chs : List (Int × Tm)) (goal : Int), vs = [.int many, .int places, v] ∧ Im K H v (Sta.set chs goal).d ∧ ChOk many chs ∧ 0 ≤ goal ∧ goal < places ∧ ∀ H', Mv [] H H' → Q (.bl true) H'
def sp_end (K : PySem.W.Frag) : Sp := fun vs H Q _ => ∃ (many : Int) (v : V) (word : Str) (ts : List Tm), vs = [.int many, v] ∧ Im K H v (Sta.fin word ts).d ∧ Nm word ∧ ts.length ≤ 2 ∧ (∀ t ∈ ts, TmOver many t) ∧ ∀ H', Mv [] H H' → Q (.bl true) H'
def sp_way (K : PySem.W.Frag) (C : Addr) : Sp := fun vs H Q _ => ∃ (x : Addr) (many places : Int) (v : V) (rs : List ActR) (r : ActR) (wy : Str × List Int × Int), vs = [.ref x, .int many, .int places, .str r.nm, v] ∧ WldAt K H C x rs ∧ r ∈ rs ∧ Im K H v (wayD wy) ∧ WayOk r many places wy ∧
  (∀ e ∈ r.outs, 0 ≤ e.2 ∧ e.2 ≤ 2) ∧ ∀ H', Mv [] H H' → Q (.bl true) H'
theorem Im.tup3 {K : PySem.W.Frag} {H : Hp} {v : V} {d e f : PyData} (h : Im K H v (.tuple [d, e, f])) : ∃ a x y z, v = .ref a ∧ SqT K H a [x, y, z] ∧ Im K H x d ∧ Im K H y e ∧ Im K H z f := by
  obtain ⟨a, xs, rfl, ha, hx⟩ := h.tupI
  obtain ⟨x, xs1, rfl, h1, hx⟩ := hx.invD
  obtain ⟨y, xs2, rfl, h2, hx⟩ := hx.invD
  obtain ⟨z, xs3, rfl, h3, hx⟩ := hx.invD
  rw [hx.nilD] at ha
  exact ⟨a, x, y, z, rfl, ha, h1, h2, h3⟩
theorem Im.tup2 {K : PySem.W.Frag} {H : Hp} {v : V} {d e : PyData} (h : Im K H v (.tuple [d, e])) : ∃ a x y, v = .ref a ∧ SqT K H a [x, y] ∧ Im K H x d ∧ Im K H y e := by
  obtain ⟨a, xs, rfl, ha, hx⟩ := h.tupI
  obtain ⟨x, xs1, rfl, h1, hx⟩ := hx.invD
  obtain ⟨y, xs2, rfl, h2, hx⟩ := hx.invD
  rw [hx.nilD] at ha
  exact ⟨a, x, y, rfl, ha, h1, h2⟩
theorem Im.tup4 {K : PySem.W.Frag} {H : Hp} {v : V} {d e f g : PyData} (h : Im K H v (.tuple [d, e, f, g])) : ∃ a x y z u, v = .ref a ∧ SqT K H a [x, y, z, u] ∧ Im K H x d ∧ Im K H y e ∧ Im K H z f ∧ Im K H u g := by
  obtain ⟨a, xs, rfl, ha, hx⟩ := h.tupI
  obtain ⟨x, xs1, rfl, h1, hx⟩ := hx.invD
  obtain ⟨y, xs2, rfl, h2, hx⟩ := hx.invD
  obtain ⟨z, xs3, rfl, h3, hx⟩ := hx.invD
  obtain ⟨u, xs4, rfl, h4, hx⟩ := hx.invD
  rw [hx.nilD] at ha
  exact ⟨a, x, y, z, u, rfl, ha, h1, h2, h3, h4⟩
theorem Ims.intsI {K : PySem.W.Frag} {H : Hp} : ∀ {ns : List Int} {xs : List V}, Ims K H xs (ns.map PyData.int) → xs = ns.map V.int
  | [], _, h => h.nilD
  | n :: ns, _, h => by
    obtain ⟨v, vs, rfl, h1, h2⟩ := h.invD
    rw [h1.intI, Ims.intsI h2]
    rfl
theorem Ims.ofInts {K : PySem.W.Frag} {H : Hp} : ∀ (ns : List Int), Ims K H (ns.map V.int) (ns.map PyData.int)
  | [] => .nil
  | n :: ns => .cons (.int n) (Ims.ofInts ns)
section
variable {P : Program} {w : World} {K : PySem.W.Frag} {mg : Str → Option Value} {base : Heap}
theorem ok_is_set (T : TX K mg) {k : Nat} : FnOk P w K mg base CX0 (k + 5) T.d_is_set.f T.d_is_set.fd P_is_set (sp_set K) := by
  have G_is_pair : FnOk P w K mg base CX0 1 T.d_is_pair.f T.d_is_pair.fd P_is_pair (sp_pair K) := ok_is_pair T
  have G_is_place : FnOk P w K mg base CX0 2 T.d_is_place.f T.d_is_place.fd P_is_place (sp_place K) := ok_is_place T
  have G_are_different : FnOk P w K mg base CX0 2 T.d_are_different.f T.d_are_different.fd P_are_different (sp_diff K) := ok_are_different T
  have G_are_terms_over : FnOk P w K mg base CX0 4 T.d_are_terms_over.f T.d_are_terms_over.fd P_are_terms_over (sp_termsOver K) := ok_are_terms_over T
  refine T.d_is_set.F.ok sc_is_set (fun vs H Q E h => ?_) (fun cdv A outer s H vs Q E hr h => ?_)
  · obtain ⟨_, _, _, _, _, rfl, _⟩ := h
    rfl
  · obtain ⟨many, places, v, chs, goal, rfl, hv, ⟨cnd, cln, cok⟩, g0, g1, q⟩ := h
    have hu64 := hr.units
    obtain ⟨a, x0, x1, x2, rfl, ha, h0, h1, h2⟩ := hv.tup3
    cases h2.intI
    obtain ⟨a1, xs, rfl, ha1, hxs⟩ := h1.tupI
    have hl := hxs.length
    rw [List.length_map] at hl
    have row : ∀ (i : Nat) (x : V) (H' : Hp), Mv [] H H' → xs[i]? = some x → ∃ c ac y, chs[i]? = some c ∧ x = .ref ac ∧ SqT K H' ac [.int c.1, y] ∧ Im K H' y c.2.d ∧ Im K H' x (chD c) := fun i x H' m hx => by
      obtain ⟨d, hd, him⟩ := hxs.get hx
      rw [List.getElem?_map] at hd
      obtain ⟨c, hc, rfl⟩ := Option.map_eq_some_iff.mp hd
      obtain ⟨ac, y0, y, rfl, hac, k0, k1⟩ := (him.mv m).tup2
      rw [k0.intI] at hac
      exact ⟨c, ac, y, hc, rfl, hac, k1, him.mv m⟩
    refine ⟨_, (pss_cons (ps_if (PW.pt (pw_or (pt_cmpR (r := rNeG K) (op_neG hu64) (pe_callB (r := rLenG K) call_lenG (by rfl) T.b_len bt_len (pa_cons (pv 2) pa_nil)) pe_int (nomark _)) (pw_or (pt_not (pt_val (pe_callB (r := rIsi K) call_isi (by rfl) T.b_isinstance bt_isinstance (pa_cons (pe_ix (r := rIx K) ix_seq (pv 2) pe_int (fun _ _ => rfl)) (pa_cons (pe_ty T.b_tuple bt_tuple) pa_nil))))) (pw_or1 (pt_not (pt_val (pe_callB (r := rAll K) (cr_all rfl) (by rfl) T.b_all bt_all (pa_cons (pe_lc (own := [("change", 3)]) (g := gName 3) (by rfl) sc_is_set.nd (pi_seq (pe_ix (r := rIx K) ix_seq (pv 2) pe_int (fun _ _ => rfl))) (blkOk_by (own := [("change", 3)]) (N := N_is_set) (sc := defScope s_is_set) (by decide +kernel)) (fun _ _ _ _ _ => pg_name (i := 3) sc_is_set.nd rfl (Or.inl rfl)) (fun _ _ _ _ _ => pts_nil) (fun _ _ _ _ _ => (pe_call G_is_pair (hr.mono (by omega)) rfl T.d_is_pair.g T.d_is_pair.F.kp T.d_is_pair.b .nil pass0 (pa_cons (pv 3) pa_nil)))) pa_nil)))))))) (pss_one (ps_ret pe_bl)) pss_nil) (pss_cons (ps_if (pt_not (pt_val (pe_call G_are_different (hr.mono (by omega)) rfl T.d_are_different.g T.d_are_different.F.kp T.d_are_different.b .nil pass0 (pa_cons (pv 0) (pa_cons (pe_callTy (r := rTupOf K) call_tupG (by rfl) T.b_tuple bt_tuple (pa_cons (pe_lc (own := [("change", 3)]) (g := gName 3) (by rfl) sc_is_set.nd (pi_seq (pe_ix (r := rIx K) ix_seq (pv 2) pe_int (fun _ _ => rfl))) (blkOk_by (own := [("change", 3)]) (N := N_is_set) (sc := defScope s_is_set) (by decide +kernel)) (fun _ _ _ _ _ => pg_name (i := 3) sc_is_set.nd rfl (Or.inl rfl)) (fun _ _ _ _ _ => pts_nil) (fun _ _ _ _ _ => (pe_ix (r := rIx K) ix_seq (pv 3) pe_int (fun _ _ => rfl)))) pa_nil)) pa_nil))))) (pss_one (ps_ret pe_bl)) pss_nil) (pss_one (ps_ret (pe_and (pe_call G_are_terms_over (hr.mono (by omega)) rfl T.d_are_terms_over.g T.d_are_terms_over.F.kp T.d_are_terms_over.b .nil pass0 (pa_cons (pv 0) (pa_cons (pe_callTy (r := rTupOf K) call_tupG (by rfl) T.b_tuple bt_tuple (pa_cons (pe_lc (own := [("change", 3)]) (g := gName 3) (by rfl) sc_is_set.nd (pi_seq (pe_ix (r := rIx K) ix_seq (pv 2) pe_int (fun _ _ => rfl))) (blkOk_by (own := [("change", 3)]) (N := N_is_set) (sc := defScope s_is_set) (by decide +kernel)) (fun _ _ _ _ _ => pg_name (i := 3) sc_is_set.nd rfl (Or.inl rfl)) (fun _ _ _ _ _ => pts_nil) (fun _ _ _ _ _ => (pe_ix (r := rIx K) ix_seq (pv 3) pe_int (fun _ _ => rfl)))) pa_nil)) pa_nil))) (pe_one (pe_call G_is_place (hr.mono (by omega)) rfl T.d_is_place.g T.d_is_place.F.kp T.d_is_place.b .nil pass0 (pa_cons (pv 1) (pa_cons (pe_ix (r := rIx K) ix_seq (pv 2) pe_int (fun _ _ => rfl)) pa_nil))))))))), ?_⟩
    refine ⟨.ref a, rfl, ?_⟩
    walk_at "nc"
    refine rd_len (.inr ha) (Or.inl ⟨rfl, _, rfl, ?_⟩)
    refine ⟨.ref a, rfl, rd_ixT ha (by decide) (v := .ref a1) rfl ?_⟩
    walk_at "nn"
    refine ⟨_, _, _, _, true, rfl, .ty "tuple", tyx_sqT ha1, kit_ty (by decide +kernel), ?_⟩
    refine ⟨_, rfl, ?_⟩
    refine ⟨.ref a, rfl, rd_ixT ha (by decide) (v := .ref a1) rfl ⟨a1, rfl, ?_⟩⟩
    refine lc_seq (xs := xs) (.inr ha1) (fun i D H1 => H1 D = some (.lst ((List.replicate i true).map V.bl)) ∧ Mv [] H H1)
      (fun D nD => ⟨upd_same, .new nD⟩) (fun i D H1 nD h1 => h1.2) (fun D nD i x H1 hx h1 => ?_) (fun D H1 nD h1 => ?_)
    · obtain ⟨e1, m1⟩ := h1
      obtain ⟨c, ac, y, hc, rfl, hac, hy, him⟩ := row i x H1 m1 hx
      have hi := (List.getElem?_eq_some_iff.mp hc).1
      refine ⟨rfl, .ref ac, rfl, .ref ac, _, _, rfl, him, ?_⟩
      refine ⟨_, e1, ?_, ?_, m1.wr nD⟩
      · rw [List.length_map, List.length_replicate]
        exact Nat.lt_of_le_of_lt (show i ≤ 1000 by omega) (by decide)
      · rw [upd_same, List.replicate_succ', List.map_append]
        rfl
    obtain ⟨e1, m1⟩ := h1
    refine ⟨D, List.replicate xs.length true, rfl, .inl (.inl e1), ?_⟩
    rw [show (List.replicate xs.length true).all id = true by simp]
    refine ⟨_, rfl, ?_⟩
    clear e1 nD
    refine ⟨.int many, rfl, .ref a, rfl, rd_ixT (m1.sqT ha) (by decide) (v := .ref a1) rfl ⟨a1, rfl, ?_⟩⟩
    refine lc_seq (xs := xs) (.inr (m1.sqT ha1)) (fun i D H2 => H2 D = some (.lst (((chs.take i).map (·.1)).map V.int)) ∧ Mv [] H1 H2)
      (fun D nD => ⟨upd_same, .new nD⟩) (fun i D H2 nD h2 => h2.2) (fun D nD i x H2 hx h2 => ?_) (fun D H2 nD h2 => ?_)
    · obtain ⟨e2, m2⟩ := h2
      obtain ⟨c, ac, y, hc, rfl, hac, hy, him⟩ := row i x H2 (m1.trans m2) hx
      have hi := (List.getElem?_eq_some_iff.mp hc).1
      refine ⟨rfl, .ref ac, rfl, rd_ixT hac (by decide) (v := .int c.1) rfl ?_⟩
      refine ⟨_, e2, ?_, ?_, m2.wr nD⟩
      · rw [List.length_map, List.length_map, List.length_take]
        exact Nat.lt_of_le_of_lt (show min i chs.length ≤ 1000 by omega) (by decide)
      · rw [upd_same, List.take_add_one, hc]
        simp
    obtain ⟨e2, m2⟩ := h2
    rw [hl, List.take_length] at e2
    walk_at "nc"
    refine rd_tupOf (.inl (.inl e2)) fun p H3 m3 e3 => ?_
    refine ⟨many, p, chs.map (·.1), rfl, e3, cnd, by rw [List.length_map]; omega, fun j hj => ?_, fun H4 m4 => ⟨_, rfl, ?_⟩⟩
    · obtain ⟨c, hc, rfl⟩ := List.mem_map.mp hj
      exact ⟨(cok c hc).1, (cok c hc).2.1⟩
    have m04 := m1.trans (m2.trans (m3.trans m4))
    refine ⟨.int many, rfl, .ref a, rfl, rd_ixT (m04.sqT ha) (by decide) (v := .ref a1) rfl ⟨a1, rfl, ?_⟩⟩
    refine lc_seq (xs := xs) (.inr (m04.sqT ha1)) (fun i D H5 => ∃ ys, H5 D = some (.lst ys) ∧ Ims K H5 ys (Tm.ds ((chs.take i).map (·.2))) ∧ Mv [] H4 H5)
      (fun D nD => ⟨[], upd_same, by simpa [Tm.ds] using Ims.nil, .new nD⟩) (fun i D H5 nD h5 => h5.choose_spec.2.2) (fun D nD i x H5 hx h5 => ?_) (fun D H5 nD h5 => ?_)
    · obtain ⟨ys, e5, i5, m5⟩ := h5
      obtain ⟨c, ac, y, hc, rfl, hac, hy, him⟩ := row i x H5 (m04.trans m5) hx
      have hi := (List.getElem?_eq_some_iff.mp hc).1
      refine ⟨rfl, .ref ac, rfl, rd_ixT hac (by decide) (v := y) rfl ?_⟩
      have hw : Mv [D] H5 (upd H5 D (.lst (ys ++ [y]))) := .set e5 (by simp)
      refine ⟨ys, e5, ?_, _, upd_same, ?_, m5.wr nD⟩
      · rw [i5.length, Tm.ds_map, List.length_map, List.length_map, List.length_take]
        exact Nat.lt_of_le_of_lt (show min i chs.length ≤ 1000 by omega) (by decide)
      · rw [List.take_add_one, hc]
        rw [show Tm.ds ((chs.take i ++ (some c).toList).map (·.2)) = Tm.ds ((chs.take i).map (·.2)) ++ [c.2.d] by simp [Tm.ds_map]]
        exact (i5.append (.cons hy .nil)).mv hw
    obtain ⟨ys, e5, i5, m5⟩ := h5
    rw [hl, List.take_length] at i5
    walk_at "nc"
    refine rd_tupOf (.inl (.inl e5)) fun p6 H6 m6 e6 => ?_
    refine ⟨many, .ref p6, chs.map (·.2), rfl, .tup e6 (i5.mv m6), by rw [List.length_map]; omega, fun t ht => ?_, fun H7 m7 => ⟨_, rfl, ?_⟩⟩
    · obtain ⟨c, hc, rfl⟩ := List.mem_map.mp ht
      exact (cok c hc).2.2
    have m07 := m04.trans (m5.trans (m6.trans m7))
    refine ⟨.int places, rfl, .ref a, rfl, rd_ixT (m07.sqT ha) (by decide) (v := .int goal) rfl ?_⟩
    refine ⟨places, .int goal, .int goal, a, rfl, rfl, fun H8 m8 => ?_⟩
    rw [show inPl places (.int goal) = true by simp [inPl, g0, g1]]
    exact q H8 (m07.trans m8)
theorem ok_is_end (T : TX K mg) {k : Nat} : FnOk P w K mg base CX0 (k + 5) T.d_is_end.f T.d_is_end.fd P_is_end (sp_end K) := by
  have G_is_name : FnOk P w K mg base CX0 1 T.d_is_name.f T.d_is_name.fd P_is_name (sp_kind K isNamed) := ok_is_name T
  have G_are_terms_over : FnOk P w K mg base CX0 4 T.d_are_terms_over.f T.d_are_terms_over.fd P_are_terms_over (sp_termsOver K) := ok_are_terms_over T
  refine T.d_is_end.F.ok sc_is_end (fun vs H Q E h => ?_) (fun cdv A outer s H vs Q E hr h => ?_)
  · obtain ⟨_, _, _, _, rfl, _⟩ := h
    rfl
  · obtain ⟨many, v, word, ts, rfl, hv, hw, hl, hts, q⟩ := h
    have hu64 := hr.units
    obtain ⟨a, x0, x1, x2, rfl, ha, h0, h1, h2⟩ := hv.tup3
    cases h1.strI
    refine ⟨_, (pss_cons (ps_if (PW.pt (pw_or (pt_cmpR (r := rNeG K) (op_neG hu64) (pe_callB (r := rLenG K) call_lenG (by rfl) T.b_len bt_len (pa_cons (pv 1) pa_nil)) pe_int (nomark _)) (pw_or (pt_not (pt_val (pe_call G_is_name (hr.mono (by omega)) rfl T.d_is_name.g T.d_is_name.F.kp T.d_is_name.b .nil pass0 (pa_cons (pe_ix (r := rIx K) ix_seq (pv 1) pe_int (fun _ _ => rfl)) pa_nil)))) (pw_or1 (pt_not (pt_val (pe_call G_are_terms_over (hr.mono (by omega)) rfl T.d_are_terms_over.g T.d_are_terms_over.F.kp T.d_are_terms_over.b .nil pass0 (pa_cons (pv 0) (pa_cons (pe_ix (r := rIx K) ix_seq (pv 1) pe_int (fun _ _ => rfl)) pa_nil))))))))) (pss_one (ps_ret pe_bl)) pss_nil) (pss_one (ps_ret (pe_cmpR op_le (pe_callB (r := rLenG K) call_lenG (by rfl) T.b_len bt_len (pa_cons (pe_ix (r := rIx K) ix_seq (pv 1) pe_int (fun _ _ => rfl)) pa_nil)) (pe_glob rfl T.c_MOST_TOLD T.r_MOST_TOLD) (nomark _))))), ?_⟩
    refine ⟨.ref a, rfl, ?_⟩
    walk_at "nc"
    refine rd_len (.inr ha) (Or.inl ⟨rfl, _, rfl, ?_⟩)
    refine ⟨.ref a, rfl, rd_ixT ha (by decide) (v := .str word) rfl ?_⟩
    refine ⟨.str word, .str word, a, rfl, ⟨rfl, by have := hw.2.1; omega⟩, fun H1 m1 => ?_⟩
    rw [show isNamed (.str word) = true from nmd_nm hw]
    refine ⟨_, rfl, ?_⟩
    refine ⟨.int many, rfl, .ref a, rfl, rd_ixT (m1.sqT ha) (by decide) (v := x2) rfl ?_⟩
    refine ⟨many, x2, ts, rfl, h2.mv m1, by omega, hts, fun H2 m2 => ⟨_, rfl, ?_⟩⟩
    have m02 := m1.trans m2
    obtain ⟨a2, xs, rfl, ha2, hx2⟩ := h2.tupI
    refine ⟨.ref a, rfl, rd_ixT (m02.sqT ha) (by decide) (v := .ref a2) rfl ?_⟩
    walk_at "nc"
    have hl2 := hx2.length
    rw [Tm.ds_map, List.length_map] at hl2
    refine rd_len (.inr (m02.sqT ha2)) ⟨_, 2, rfl, rfl, ?_⟩
    rw [hl2]
    dsimp only
    rw [show decide (((ts.length : Nat) : Int) ≤ 2) = true from decide_eq_true (by omega)]
    exact q H2 m02
end
end Fm
namespace Fm
open PySem PySem.Spec PyProof.Rows L2 SlX
local macro_rules | `(tactic| walk_at "nn") => `(tactic| dsimp only [tC, tNil, tCons, tCB, tCall, gName, tSeq, tAsg, tPar, tDrop, tRet])
local macro_rules | `(tactic| walk_at "nc") => `(tactic| dsimp only [tC, tNil, tCons, tCB, tCall])
def sp_ask (K : PySem.W.Frag) (C : Addr) : Sp := fun vs H Q _ => ∃ (x : Addr) (many places : Int) (v : V) (rs : List ActR) (r : ActR) (ts : List Tm) (ways : List (Str × List Int × Int)), vs = [.ref x, .int many, .int places, v] ∧ WldAt K H C x rs ∧ WOk rs ∧ r ∈ rs ∧ Im K H v (Sta.ask r.nm ts ways).d ∧ AskOk r many places ts ways ∧
  ∀ H', Mv [] H H' → Q (.bl true) H'
section
variable {P : Program} {w : World} {K : PySem.W.Frag} {mg : Str → Option Value} {base : Heap}
theorem ok_is_way (T : TX K mg) {k : Nat} : FnOk P w K mg base CX0 (k + 3) T.d_is_way.f T.d_is_way.fd P_is_way (sp_way K T.C_World) := by
  have G_is_place : FnOk P w K mg base CX0 2 T.d_is_place.f T.d_is_place.fd P_is_place (sp_place K) := ok_is_place T
  have G_are_different : FnOk P w K mg base CX0 2 T.d_are_different.f T.d_are_different.fd P_are_different (sp_diff K) := ok_are_different T
  have G_World_outcomes : FnOk P w K mg base CX0 1 T.d_World_outcomes.f T.d_World_outcomes.fd P_World_outcomes (sp_Wouts K T.C_World) := ok_World_outcomes T
  have G_World_brings : FnOk P w K mg base CX0 1 T.d_World_brings.f T.d_World_brings.fd P_World_brings (sp_Wbrings K T.C_World) := ok_World_brings T
  refine T.d_is_way.F.ok sc_is_way (fun vs H Q E h => ?_) (fun cdv A outer s H vs Q E hr h => ?_)
  · obtain ⟨_, _, _, _, _, _, _, rfl, _⟩ := h
    rfl
  · obtain ⟨x, many, places, v, rs, r, wy, rfl, hW, hrs, hv, ⟨i, hi, hil, wnd, win, g0, g1⟩, hb, q⟩ := h
    have hu64 := hr.units
    have hu65 := hu65_of hr
    obtain ⟨a, x0, x1, x2, rfl, ha, h0, h1, h2⟩ := hv.tup3
    cases h0.strI
    cases h2.intI
    obtain ⟨a1, xs, rfl, ha1, hxs⟩ := h1.tupI
    have hxi := hxs.intsI
    subst hxi
    have hi2 := hb _ hi
    refine ⟨_, (pss_cons (ps_if (PW.pt (pw_or (pt_not (pt_val (pe_callB (r := rIsi K) call_isi (by rfl) T.b_isinstance bt_isinstance (pa_cons (pv 4) (pa_cons (pe_ty T.b_tuple bt_tuple) pa_nil))))) (pw_or (pt_cmpR (r := rNeG K) (op_neG hu64) (pe_callB (r := rLenG K) call_lenG (by rfl) T.b_len bt_len (pa_cons (pv 4) pa_nil)) pe_int (nomark _)) (pw_or1 (pt_not (pt_val (pe_callB (r := rIsi K) call_isi (by rfl) T.b_isinstance bt_isinstance (pa_cons (pe_ix (r := rIx K) ix_seq (pv 4) pe_int (fun _ _ => rfl)) (pa_cons (pe_ty T.b_str bt_str) pa_nil))))))))) (pss_one (ps_ret pe_bl)) pss_nil) (pss_cons (ps_if (PW.pt (pw_or (pt_cmpR (r := rIn K true) op_notIn_seq (pe_ix (r := rIx K) ix_seq (pv 4) pe_int (fun _ _ => rfl)) (pe_methSl (pv 0) T.c_World T.d_World_outcomes.M (fnR_of G_World_outcomes T.d_World_outcomes.b) (hr.mono (by omega)) pass0 (pa_cons (pv 3) pa_nil)) rfl) (pw_or1 (pt_not (pt_val (pe_call G_are_different (hr.mono (by omega)) rfl T.d_are_different.g T.d_are_different.F.kp T.d_are_different.b .nil pass0 (pa_cons (pv 1) (pa_cons (pe_ix (r := rIx K) ix_seq (pv 4) pe_int (fun _ _ => rfl)) pa_nil)))))))) (pss_one (ps_ret pe_bl)) pss_nil) (pss_one (ps_ret (pe_and (pe_cmpR (r := rEqG K) (op_eqG hu64) (pe_callB (r := rLenG K) call_lenG (by rfl) T.b_len bt_len (pa_cons (pe_ix (r := rIx K) ix_seq (pv 4) pe_int (fun _ _ => rfl)) pa_nil)) (pe_methSl (pv 0) T.c_World T.d_World_brings.M (fnR_of G_World_brings T.d_World_brings.b) (hr.mono (by omega)) pass0 (pa_cons (pv 3) (pa_cons (pe_ix (r := rIx K) ix_seq (pv 4) pe_int (fun _ _ => rfl)) pa_nil))) (nomark _)) (pe_one (pe_call G_is_place (hr.mono (by omega)) rfl T.d_is_place.g T.d_is_place.F.kp T.d_is_place.b .nil pass0 (pa_cons (pv 2) (pa_cons (pe_ix (r := rIx K) ix_seq (pv 4) pe_int (fun _ _ => rfl)) pa_nil))))))))), ?_⟩
    refine ⟨.ref a, rfl, ?_⟩
    walk_at "nn"
    refine ⟨_, _, _, _, true, rfl, .ty "tuple", tyx_sqT ha, kit_ty (by decide +kernel), ?_⟩
    refine ⟨_, rfl, ?_⟩
    refine ⟨.ref a, rfl, ?_⟩
    walk_at "nc"
    refine rd_len (.inr ha) (Or.inl ⟨rfl, _, rfl, ?_⟩)
    refine ⟨.ref a, rfl, rd_ixT ha (by decide) (v := .str wy.1) rfl ?_⟩
    walk_at "nn"
    refine ⟨_, _, _, _, true, rfl, .ty "str", .base (.str _), kit_ty (by decide +kernel), ?_⟩
    refine ⟨_, rfl, ?_⟩
    refine ⟨.ref a, rfl, rd_ixT ha (by decide) (v := .str wy.1) rfl ?_⟩
    obtain ⟨dx, d, zs, hs, hA, hz⟩ := id hW
    refine ⟨.ref x, rfl, x, dx, _, rfl, hs, .str r.nm, rfl, x, rs, r, rfl, hW, hrs, fun p np => ?_⟩
    refine rd_notS upd_same ⟨_, rfl, ?_⟩
    rw [show decide (wy.1 ∈ r.outs.map (·.1)) = true from decide_eq_true (List.mem_map.mpr ⟨_, hi, rfl⟩)]
    have m1 : Mv [] H (upd H p (.lst ((r.outs.map (·.1)).map V.str))) := .new np
    generalize upd H p (.lst ((r.outs.map (·.1)).map V.str)) = H1 at m1 ⊢
    refine ⟨.int many, rfl, .ref a, rfl, rd_ixT (m1.sqT ha) (by decide) (v := .ref a1) rfl ?_⟩
    refine ⟨many, a1, wy.2.1, rfl, m1.sqT ha1, wnd, by omega, win, fun H2 m2 => ⟨_, rfl, ?_⟩⟩
    have m02 := m1.trans m2
    refine ⟨.ref a, rfl, rd_ixT (m02.sqT ha) (by decide) (v := .ref a1) rfl ?_⟩
    walk_at "nc"
    refine rd_len (.inr (m02.sqT ha1)) ?_
    refine ⟨.ref x, rfl, x, dx, _, rfl, Slt.mv hs m02, .str r.nm, rfl, .ref a, rfl, rd_ixT (m02.sqT ha) (by decide) (v := .str wy.1) rfl ?_⟩
    refine ⟨x, rs, r, wy.1, i, rfl, hW.mv m02, hrs, hi, Or.inl ⟨rfl, _, rfl, ?_⟩⟩
    rw [List.length_map, hil]
    simp only [decide_true]
    refine ⟨.int places, rfl, .ref a, rfl, rd_ixT (m02.sqT ha) (by decide) (v := .int wy.2.2) rfl ?_⟩
    refine ⟨places, .int wy.2.2, .int wy.2.2, a, rfl, rfl, fun H8 m8 => ?_⟩
    rw [show inPl places (.int wy.2.2) = true by simp [inPl, g0, g1]]
    exact q H8 (m02.trans m8)
end
end Fm
namespace Fm
open PySem PySem.Spec PyProof.Rows L2 SlX
local macro_rules | `(tactic| walk_at "nn") => `(tactic| dsimp only [tC, tNil, tCons, tCB, tCall, gName, tSeq, tAsg, tPar, tDrop, tRet])
local macro_rules | `(tactic| walk_at "nc") => `(tactic| dsimp only [tC, tNil, tCons, tCB, tCall])
section
variable {P : Program} {w : World} {K : PySem.W.Frag} {mg : Str → Option Value} {base : Heap}
theorem ok_is_ask (T : TX K mg) {k : Nat} : FnOk P w K mg base CX0 (k + 5) T.d_is_ask.f T.d_is_ask.fd P_is_ask (sp_ask K T.C_World) := by
  have G_is_way : FnOk P w K mg base CX0 3 T.d_is_way.f T.d_is_way.fd P_is_way (sp_way K T.C_World) := ok_is_way T
  have G_are_terms_over : FnOk P w K mg base CX0 4 T.d_are_terms_over.f T.d_are_terms_over.fd P_are_terms_over (sp_termsOver K) := ok_are_terms_over T
  have G_World_acts : FnOk P w K mg base CX0 1 T.d_World_acts.f T.d_World_acts.fd P_World_acts (sp_Wacts K T.C_World) := ok_World_acts T
  have G_World_outcomes : FnOk P w K mg base CX0 1 T.d_World_outcomes.f T.d_World_outcomes.fd P_World_outcomes (sp_Wouts K T.C_World) := ok_World_outcomes T
  have G_World_arguments : FnOk P w K mg base CX0 1 T.d_World_arguments.f T.d_World_arguments.fd P_World_arguments (sp_Wargs K T.C_World) := ok_World_arguments T
  refine T.d_is_ask.F.ok sc_is_ask (fun vs H Q E h => ?_) (fun cdv A outer s H vs Q E hr h => ?_)
  · obtain ⟨_, _, _, _, _, _, _, _, rfl, _⟩ := h
    rfl
  · obtain ⟨x, many, places, v, rs, r, ts, ways, rfl, hW, hWo, hrs, hv, hok, q⟩ := h
    have hu64 := hr.units
    have hu65 := hu65_of hr
    have hro := hWo.ok r hrs
    obtain ⟨a, x0, x1, x2, x3, rfl, ha, h0, h1, h2, h3⟩ := hv.tup4
    cases h1.strI
    obtain ⟨a2, xs2, rfl, ha2, hxs2⟩ := h2.tupI
    obtain ⟨a3, xs3, rfl, ha3, hxs3⟩ := h3.tupI
    have hl2 := hxs2.length
    rw [Tm.ds_map, List.length_map] at hl2
    have hl3 := hxs3.length
    rw [List.length_map] at hl3
    have hwl : ways.length = r.outs.length := by
      have := hok.pm.length_eq
      rwa [List.length_map, List.length_map] at this
    have hw6 := hro.o6
    have row : ∀ (i : Nat) (y : V) (H' : Hp), Mv [] H H' → xs3[i]? = some y → ∃ c ac y1 y2, ways[i]? = some c ∧ y = .ref ac ∧ SqT K H' ac [.str c.1, y1, y2] ∧ Im K H' y (wayD c) := fun i y H' m hx => by
      obtain ⟨d, hd, him⟩ := hxs3.get hx
      rw [List.getElem?_map] at hd
      obtain ⟨c, hc, rfl⟩ := Option.map_eq_some_iff.mp hd
      obtain ⟨ac, y0, y1, y2, rfl, hac, k0, k1, k2⟩ := (him.mv m).tup3
      rw [k0.strI] at hac
      exact ⟨c, ac, y1, y2, hc, rfl, hac, him.mv m⟩
    obtain ⟨dx, d, zs, hs, hA, hz⟩ := id hW
    refine ⟨_, (pss_cons (ps_if (PW.pt (pw_or (pt_cmpR (r := rNeG K) (op_neG hu64) (pe_callB (r := rLenG K) call_lenG (by rfl) T.b_len bt_len (pa_cons (pv 3) pa_nil)) pe_int (nomark _)) (pw_or (pt_not (pt_val (pe_callB (r := rIsi K) call_isi (by rfl) T.b_isinstance bt_isinstance (pa_cons (pe_ix (r := rIx K) ix_seq (pv 3) pe_int (fun _ _ => rfl)) (pa_cons (pe_ty T.b_str bt_str) pa_nil))))) (pw_or1 (pt_cmpR (r := rIn K true) op_notIn_seq (pe_ix (r := rIx K) ix_seq (pv 3) pe_int (fun _ _ => rfl)) (pe_methSl0 (pv 0) T.c_World T.d_World_acts.M (fnR_of G_World_acts T.d_World_acts.b) (hr.mono (by omega)) pass0) rfl))))) (pss_one (ps_ret pe_bl)) pss_nil) (pss_cons (ps_asg (pv 3) (pg_tup rfl (pgs_cons (pg_name (i := 4) sc_is_ask.nd rfl (Or.inl rfl)) (pgs_cons (pg_name (i := 5) sc_is_ask.nd rfl (Or.inr rfl)) (pgs_cons (pg_name (i := 6) sc_is_ask.nd rfl (Or.inl rfl)) (pgs_cons (pg_name (i := 7) sc_is_ask.nd rfl (Or.inl rfl)) pgs_nil)))))) (pss_cons (ps_if (PW.pt (pw_or (pt_not (pt_val (pe_call G_are_terms_over (hr.mono (by omega)) rfl T.d_are_terms_over.g T.d_are_terms_over.F.kp T.d_are_terms_over.b .nil pass0 (pa_cons (pv 1) (pa_cons (pv 6) pa_nil))))) (pw_or (pt_cmpR (r := rNeG K) (op_neG hu64) (pe_callB (r := rLenG K) call_lenG (by rfl) T.b_len bt_len (pa_cons (pv 6) pa_nil)) (pe_methSl (pv 0) T.c_World T.d_World_arguments.M (fnR_of G_World_arguments T.d_World_arguments.b) (hr.mono (by omega)) pass0 (pa_cons (pv 5) pa_nil)) (nomark _)) (pw_or1 (pt_not (pt_val (pe_callB (r := rIsi K) call_isi (by rfl) T.b_isinstance bt_isinstance (pa_cons (pv 7) (pa_cons (pe_ty T.b_tuple bt_tuple) pa_nil))))))))) (pss_one (ps_ret pe_bl)) pss_nil) (pss_cons (ps_if (pt_not (pt_val (pe_callB (r := rAll K) (cr_all rfl) (by rfl) T.b_all bt_all (pa_cons (pe_lc (own := [("way", 8)]) (g := gName 8) (by rfl) sc_is_ask.nd (pi_seq (pv 7)) (blkOk_by (own := [("way", 8)]) (N := N_is_ask) (sc := defScope s_is_ask) (by decide +kernel)) (fun _ _ _ _ _ => pg_name (i := 8) sc_is_ask.nd rfl (Or.inl rfl)) (fun _ _ _ _ _ => pts_nil) (fun _ _ _ _ _ => (pe_call G_is_way (hr.mono (by omega)) rfl T.d_is_way.g T.d_is_way.F.kp T.d_is_way.b .nil pass0 (pa_cons (pv 0) (pa_cons (pv 1) (pa_cons (pv 2) (pa_cons (pv 5) (pa_cons (pv 8) pa_nil)))))))) pa_nil)))) (pss_one (ps_ret pe_bl)) pss_nil) (pss_one (ps_ret (pe_cmpR (r := rEqG K) (op_eqG hu64) (pe_callB (r := rSortA K) (cr_sortA rfl) (by rfl) T.b_sorted bt_sorted (pa_cons (pe_lc (own := [("way", 8)]) (g := gName 8) (by rfl) sc_is_ask.nd (pi_seq (pv 7)) (blkOk_by (own := [("way", 8)]) (N := N_is_ask) (sc := defScope s_is_ask) (by decide +kernel)) (fun _ _ _ _ _ => pg_name (i := 8) sc_is_ask.nd rfl (Or.inl rfl)) (fun _ _ _ _ _ => pts_nil) (fun _ _ _ _ _ => (pe_ix (r := rIx K) ix_seq (pv 8) pe_int (fun _ _ => rfl)))) pa_nil)) (pe_methSl (pv 0) T.c_World T.d_World_outcomes.M (fnR_of G_World_outcomes T.d_World_outcomes.b) (hr.mono (by omega)) pass0 (pa_cons (pv 5) pa_nil)) (nomark _)))))))), ?_⟩
    refine ⟨.ref a, rfl, ?_⟩
    walk_at "nc"
    refine rd_len (.inr ha) (Or.inl ⟨rfl, _, rfl, ?_⟩)
    refine ⟨.ref a, rfl, rd_ixT ha (by decide) (v := .str r.nm) rfl ?_⟩
    walk_at "nn"
    refine ⟨_, _, _, _, true, rfl, .ty "str", .base (.str _), kit_ty (by decide +kernel), ?_⟩
    refine ⟨_, rfl, ?_⟩
    refine ⟨.ref a, rfl, rd_ixT ha (by decide) (v := .str r.nm) rfl ?_⟩
    refine ⟨.ref x, rfl, x, dx, _, rfl, hs, x, rs, rfl, hW, fun p np => ?_⟩
    refine rd_notS upd_same ⟨_, rfl, ?_⟩
    rw [show decide (r.nm ∈ rs.map (·.nm)) = true from decide_eq_true (List.mem_map.mpr ⟨_, hrs, rfl⟩)]
    have m1 : Mv [] H (upd H p (.lst ((rs.map (·.nm)).map V.str))) := .new np
    generalize upd H p (.lst ((rs.map (·.nm)).map V.str)) = H1 at m1 ⊢
    refine ⟨.ref a, rfl, a, _, rfl, m1.sqT ha, rfl, _, _, rfl, _, _, rfl, _, _, rfl, _, _, rfl, rfl, ?_⟩
    refine ⟨.int many, rfl, .ref a2, rfl, many, .ref a2, ts, rfl, h2.mv m1, ?_, hok.ts, fun H2 m2 => ⟨_, rfl, ?_⟩⟩
    · have := hok.len
      have := hro.ar2
      omega
    have m02 := m1.trans m2
    refine ⟨.ref a2, rfl, ?_⟩
    walk_at "nc"
    refine rd_len (.inr (m02.sqT ha2)) ?_
    refine ⟨.ref x, rfl, x, dx, _, rfl, Slt.mv hs m02, .str r.nm, rfl, x, rs, r, rfl, hW.mv m02, hrs, Or.inl ⟨rfl, _, rfl, ?_⟩⟩
    rw [hl2, hok.len]
    simp only [decide_true]
    refine ⟨.ref a3, rfl, ?_⟩
    walk_at "nn"
    refine ⟨_, _, _, _, true, rfl, .ty "tuple", tyx_sqT (m02.sqT ha3), kit_ty (by decide +kernel), ?_⟩
    refine ⟨_, rfl, ?_⟩
    refine ⟨.ref a3, rfl, a3, rfl, ?_⟩
    refine lc_seq (xs := xs3) (.inr (m02.sqT ha3)) (fun i D H3 => H3 D = some (.lst ((List.replicate i true).map V.bl)) ∧ Mv [] H2 H3)
      (fun D nD => ⟨upd_same, .new nD⟩) (fun i D H3 nD h3 => h3.2) (fun D nD i y H3 hx h3 => ?_) (fun D H3 nD h3 => ?_)
    · obtain ⟨e3, m3⟩ := h3
      obtain ⟨c, ac, y1, y2, hc, rfl, hac, him⟩ := row i y H3 (m02.trans m3) hx
      have hi := (List.getElem?_eq_some_iff.mp hc).1
      refine ⟨rfl, .ref x, rfl, .int many, rfl, .int places, rfl, .str r.nm, rfl, .ref ac, rfl, ?_⟩
      refine ⟨x, many, places, .ref ac, rs, r, c, rfl, hW.mv (m02.trans m3), hrs, him, hok.ways c (List.mem_of_getElem? hc), fun e he => (hro.on e he).2, fun H4 m4 => ?_⟩
      refine ⟨_, m4.same _ _ e3, ?_, ?_, (m3.trans m4).wr nD⟩
      · rw [List.length_map, List.length_replicate]
        exact Nat.lt_of_le_of_lt (show i ≤ 1000 by omega) (by decide)
      · rw [upd_same, List.replicate_succ', List.map_append]
        rfl
    obtain ⟨e3, m3⟩ := h3
    refine ⟨D, List.replicate xs3.length true, rfl, .inl (.inl e3), ?_⟩
    rw [show (List.replicate xs3.length true).all id = true by simp]
    refine ⟨_, rfl, ?_⟩
    have m03 := m02.trans m3
    clear e3 nD
    refine ⟨.ref a3, rfl, a3, rfl, ?_⟩
    refine lc_seq (xs := xs3) (.inr (m03.sqT ha3)) (fun i D H4 => H4 D = some (.lst (((ways.take i).map (·.1)).map V.str)) ∧ Mv [] H3 H4)
      (fun D nD => ⟨upd_same, .new nD⟩) (fun i D H4 nD h4 => h4.2) (fun D nD i y H4 hx h4 => ?_) (fun D H4 nD h4 => ?_)
    · obtain ⟨e4, m4⟩ := h4
      obtain ⟨c, ac, y1, y2, hc, rfl, hac, him⟩ := row i y H4 (m03.trans m4) hx
      have hi := (List.getElem?_eq_some_iff.mp hc).1
      refine ⟨rfl, .ref ac, rfl, rd_ixT hac (by decide) (v := .str c.1) rfl ?_⟩
      refine ⟨_, e4, ?_, ?_, m4.wr nD⟩
      · rw [List.length_map, List.length_map, List.length_take]
        exact Nat.lt_of_le_of_lt (show min i ways.length ≤ 1000 by omega) (by decide)
      · rw [upd_same, List.take_add_one, hc]
        simp
    obtain ⟨e4, m4⟩ := h4
    rw [hl3, List.take_length] at e4
    walk_at "nc"
    refine Or.inr (Or.inl ⟨D, ways.map (·.1), rfl, .inl (.inl e4), by rw [List.length_map]; omega, fun ys p5 hp hsd np5 => ?_⟩)
    have hys : ys = r.outs.map (·.1) := List.Perm.eq_of_pairwise (le := fun a b => leS a b = true) (fun a b _ _ h h' => totS.an _ _ h h') (sortedS_pw ys hsd) (hWo.pw r hrs) (hp.trans hok.pm)
    subst hys
    have m35 : Mv [] H3 (upd H4 p5 (.lst ((r.outs.map (·.1)).map V.str))) := m4.trans (.new np5)
    have e5 : upd H4 p5 (.lst ((r.outs.map (·.1)).map V.str)) p5 = some (.lst ((r.outs.map (·.1)).map V.str)) := upd_same
    generalize upd H4 p5 (.lst ((r.outs.map (·.1)).map V.str)) = H5 at m35 e5 ⊢
    have m05 := m03.trans m35
    refine ⟨.ref x, rfl, x, dx, _, rfl, Slt.mv hs m05, .str r.nm, rfl, x, rs, r, rfl, hW.mv m05, hrs, fun p6 np6 => ?_⟩
    refine rd_eqS (same_new np6 _ _ e5) upd_same (fun s hs => ?_) (q _ (m05.trans (.new np6)))
    obtain ⟨e, he, rfl⟩ := List.mem_map.mp hs
    exact on_ok (hro.on e he).1
end
end Fm
namespace Fm
open PySem PySem.Spec PyProof.Rows L2 SlX
local macro_rules | `(tactic| walk_at "nn") => `(tactic| dsimp only [tC, tNil, tCons, tCB, tCall, gName, tSeq, tAsg, tPar, tDrop, tRet])
local macro_rules | `(tactic| walk_at "nc") => `(tactic| dsimp only [tC, tNil, tCons, tCB, tCall])
theorem Ims.pairs {α : Type} {K : PySem.W.Frag} {H : Hp} {D : α → PyData} : ∀ {rows : List α} {xs : List V}, Ims K H xs (rows.map D) → ∀ z ∈ rows.zip xs, Im K H z.2 (D z.1)
  | [], _, _, z, hz => by simp at hz
  | r :: rows, _, h, z, hz => by
    obtain ⟨v, vs, rfl, h1, h2⟩ := h.invD
    rw [List.zip_cons_cons, List.mem_cons] at hz
    rcases hz with rfl | hz
    · exact h1
    · exact Ims.pairs h2 z hz
theorem Ims.ofPairs {α : Type} {K : PySem.W.Frag} {H : Hp} {D : α → PyData} : ∀ (zs : List (α × V)), (∀ z ∈ zs, Im K H z.2 (D z.1)) → Ims K H (zs.map (·.2)) ((zs.map (·.1)).map D)
  | [], _ => .nil
  | z :: zs, h => .cons (h z (by simp)) (Ims.ofPairs zs fun y hy => h y (by simp [hy]))
theorem sorted_rows {α κ : Type} {K : PySem.W.Frag} {H : Hp} {D : α → PyData} {le : κ → κ → Bool} (t : TotO le) {key : α → κ} {mk : κ → V} {kf : V → κ} (hm : ∀ k, kf (mk k) = k) (hlt : ∀ i j, ltV (mk j) (mk i) = false → le i j = true)
    {rows : List α} {xs : List V} (h : Ims K H xs (rows.map D)) (n : (rows.map key).Nodup) {ps : List (V × V)} (p : ps.Perm ((rows.map fun r => mk (key r)).zip xs)) (s : ps.Pairwise fun p q => ltV q.1 p.1 = false) :
    Ims K H (ps.map (·.2)) ((srt le key rows).map D) := by
  have hl : rows.length = xs.length := by
    have := h.length
    rw [List.length_map] at this
    exact this.symm
  have e1 : (rows.map fun r => mk (key r)).zip xs = (rows.zip xs).map fun z => (mk (key z.1), z.2) := by
    clear h n p
    induction rows generalizing xs with
    | nil => simp
    | cons r rows ih =>
      cases xs with
      | nil => simp at hl
      | cons x xs => simp [ih (xs := xs) (by simpa using hl)]
  rw [e1] at p
  have nz : ((rows.zip xs).map fun z => key z.1).Nodup := by
    have : (rows.zip xs).map (fun z => key z.1) = rows.map key := by
      rw [show (fun z : α × V => key z.1) = key ∘ Prod.fst from rfl, ← List.map_map, List.map_fst_zip (by omega)]
    rw [this]
    exact n
  have n2 : (((rows.zip xs).map fun z => (mk (key z.1), z.2)).map fun z => kf z.1).Nodup := by
    rw [List.map_map]
    rw [show ((fun z : V × V => kf z.1) ∘ fun z : α × V => (mk (key z.1), z.2)) = fun z => key z.1 from funext fun z => hm _]
    exact nz
  have hps : ps = srt le (fun z => kf z.1) ((rows.zip xs).map fun z => (mk (key z.1), z.2)) := by
    refine srt_one t n2 p ?_
    refine List.Pairwise.imp_of_mem ?_ s
    intro a b ha hb hab
    obtain ⟨za, _, rfl⟩ := List.mem_map.mp (p.mem_iff.mp ha)
    obtain ⟨zb, _, rfl⟩ := List.mem_map.mp (p.mem_iff.mp hb)
    simp only [hm]
    exact hlt _ _ hab
  rw [hps, srt_map (k := fun z : α × V => key z.1) (l := fun z : V × V => kf z.1) (f := fun z : α × V => (mk (key z.1), z.2)) t (fun z => hm _) nz, List.map_map]
  have e2 : srt le key rows = (srt le (fun z : α × V => key z.1) (rows.zip xs)).map (·.1) := by
    rw [← srt_map (f := fun z : α × V => z.1) (k := fun z : α × V => key z.1) (l := key) t (fun _ => rfl) nz, List.map_fst_zip (by omega)]
  rw [e2]
  refine Ims.ofPairs (D := D) (srt le (fun z : α × V => key z.1) (rows.zip xs)) fun z hz => ?_
  exact h.pairs z (srt_mem.mp hz)
def kI : V → Int
  | .int i => i
  | _ => 0
def kS : V → Str
  | .str x => x
  | _ => ""
def Sta.ord : Sta → Sta
  | .set chs goal => .set (srt leZ (·.1) chs) goal
  | .ask act ts ways => .ask act ts (srt leS (·.1) ways)
  | .fin word ts => .fin word ts
def Sta.keyed : Sta → Prop
  | .set chs _ => (chs.map (·.1)).Nodup ∧ chs.length ≤ 1000
  | .ask _ _ ways => (ways.map (·.1)).Nodup ∧ ways.length ≤ 1000
  | .fin _ _ => True
theorem fineAll_ints {ns : List Int} (h : ∀ n ∈ ns, n.natAbs < 10 ^ 40) : fineAll (ns.map PyData.int) := fineAll_iff.mpr fun x hx => by
  obtain ⟨n, hn, rfl⟩ := List.mem_map.mp hx
  exact h n hn
theorem nat_of {i n : Int} (h0 : 0 ≤ i) (h1 : i < n) (hn : n ≤ 1000000) : i.natAbs < 10 ^ 40 := by
  have : i.natAbs < 1000001 := by omega
  exact Nat.lt_trans this (by decide)
theorem fine_over {many : Int} {t : Tm} (h : TmOver many t) (hm : many ≤ 1000000) : fine t.d := fine_d (fun i hi => nat_of hi.1 hi.2 hm) t h.1
theorem fineAll_over {many : Int} {ts : List Tm} (h : ∀ t ∈ ts, TmOver many t) (hm : many ≤ 1000000) : fineAll (Tm.ds ts) := by
  rw [Tm.ds_map]
  exact fineAll_iff.mpr fun x hx => by
    obtain ⟨t, ht, rfl⟩ := List.mem_map.mp hx
    exact fine_over (h t ht) hm
theorem depthAll_le {n : Nat} : ∀ {ds : List PyData}, (∀ d ∈ ds, d.depth ≤ n) → PyData.depthAll ds ≤ n
  | [], _ => by simp [PyData.depthAll]
  | d :: ds, h => by
    have h1 := h d (by simp)
    have h2 := depthAll_le (ds := ds) fun e he => h e (by simp [he])
    simp only [PyData.depthAll]
    omega
theorem strOk_set : PyData.strOk "set" = true := by decide +kernel
theorem strOk_ask : PyData.strOk "ask" = true := by decide +kernel
theorem strOk_end : PyData.strOk "end" = true := by decide +kernel
theorem depth_over {many : Int} {ts : List Tm} (h : ∀ t ∈ ts, TmOver many t) : PyData.depthAll (Tm.ds ts) ≤ 50 := by
  rw [Tm.ds_map]
  exact depthAll_le fun d hd => by
    obtain ⟨t, ht, rfl⟩ := List.mem_map.mp hd
    rw [depth_d]
    exact (h t ht).2.2
theorem sta_fine {rs : List ActR} {many places : Int} (hW : WOk rs) (hm : many ≤ 1000000) (hp : places ≤ 1000000) : ∀ {st : Sta}, st.ok rs many places → fine st.d ∧ st.d.depth ≤ 55
  | .set chs goal, ⟨⟨_, _, hc⟩, g0, g1⟩ => by
    constructor
    · simp only [Sta.d, fine, fineAll]
      refine ⟨strOk_set, fineAll_iff.mpr fun x hx => ?_, nat_of g0 g1 hp, trivial⟩
      obtain ⟨c, hc', rfl⟩ := List.mem_map.mp hx
      obtain ⟨c0, c1, c2⟩ := hc c hc'
      exact ⟨nat_of c0 c1 hm, fine_over c2 hm, trivial⟩
    · have : PyData.depthAll (chs.map chD) ≤ 51 := depthAll_le fun d hd => by
        obtain ⟨c, hc', rfl⟩ := List.mem_map.mp hd
        obtain ⟨c0, c1, c2⟩ := hc c hc'
        have := c2.2.2
        simp only [chD, PyData.depth, PyData.depthAll, depth_d]
        omega
      simp only [Sta.d, PyData.depth, PyData.depthAll]
      omega
  | .ask act ts ways, ⟨r, hr, hnm, hk⟩ => by
    subst hnm
    have hro := hW.ok r hr
    constructor
    · simp only [Sta.d, fine, fineAll]
      refine ⟨strOk_ask, nm_ok hro.nm, fineAll_over hk.ts hm, fineAll_iff.mpr fun x hx => ?_, trivial⟩
      obtain ⟨c, hc', rfl⟩ := List.mem_map.mp hx
      obtain ⟨i, hi, _, _, hj, g0, g1⟩ := hk.ways c hc'
      exact ⟨on_ok (hro.on _ hi).1, fineAll_ints fun n hn => nat_of (hj n hn).1 (hj n hn).2 hm, nat_of g0 g1 hp, trivial⟩
    · have : PyData.depthAll (ways.map wayD) ≤ 2 := depthAll_le fun d hd => by
        obtain ⟨c, hc', rfl⟩ := List.mem_map.mp hd
        have : PyData.depthAll (c.2.1.map PyData.int) ≤ 0 := depthAll_le fun d hd => by
          obtain ⟨n, _, rfl⟩ := List.mem_map.mp hd
          simp [PyData.depth]
        simp only [wayD, PyData.depth, PyData.depthAll]
        omega
      have h2 := depth_over hk.ts
      simp only [Sta.d, PyData.depth, PyData.depthAll]
      omega
  | .fin word ts, ⟨hn, _, hts⟩ => by
    constructor
    · simp only [Sta.d, fine, fineAll]
      exact ⟨strOk_end, nm_ok hn, fineAll_over hts hm, trivial⟩
    · have h2 := depth_over hts
      simp only [Sta.d, PyData.depth, PyData.depthAll]
      omega
theorem sta_keyed {rs : List ActR} {many places : Int} (hW : WOk rs) : ∀ {st : Sta}, st.ok rs many places → st.keyed
  | .set chs goal, ⟨⟨h1, h2, _⟩, _, _⟩ => ⟨h1, by omega⟩
  | .ask act ts ways, ⟨r, hr, _, hk⟩ => by
    have := hk.pm.length_eq
    rw [List.length_map, List.length_map] at this
    have := (hW.ok r hr).o6
    exact ⟨(hk.pm.nodup_iff).mpr (hW.ond r hr), by omega⟩
  | .fin word ts, _ => trivial
theorem shaped_of {d : PyData} (h : fine d) (k : d.depth ≤ 55) : SeqAt.shaped d = true := by
  show (d.canLay0 && decide (d.depth ≤ 64)) = true
  rw [(fine_lay d h).1, decide_eq_true (by omega)]
  rfl
def sp_stmt (K : PySem.W.Frag) (C : Addr) : Sp := fun vs H Q _ => ∃ (x : Addr) (many places : Int) (v : V) (rs : List ActR) (st : Sta), vs = [.ref x, .int many, .int places, v] ∧ WldAt K H C x rs ∧ WOk rs ∧ Im K H v st.d ∧ st.ok rs many places ∧ many ≤ 1000000 ∧ places ≤ 1000000 ∧
  ∀ H', Mv [] H H' → Q (.bl true) H'
theorem sta_tup : ∀ st : Sta, ∃ y e es, st.d = .tuple (.str y :: e :: es)
  | .set _ _ => ⟨_, _, _, rfl⟩
  | .ask _ _ _ => ⟨_, _, _, rfl⟩
  | .fin _ _ => ⟨_, _, _, rfl⟩
theorem ne_str {x y : Str} (h : x ≠ y) : decide (V.str x = V.str y) = false := decide_eq_false fun e => h (V.str.inj e)
theorem eqv_unit (d : PyData) (ds : List PyData) : PyData.eqv (.tuple (d :: ds)) (.tuple []) = false := by simp [PyData.eqv, PyData.eqvAll]
section
variable {P : Program} {w : World} {K : PySem.W.Frag} {mg : Str → Option Value} {base : Heap}
theorem ok_is_statement (T : TX K mg) {k : Nat} : FnOk P w K mg base CX0 (k + 6) T.d_is_statement.f T.d_is_statement.fd P_is_statement (sp_stmt K T.C_World) := by
  have G_is_set : FnOk P w K mg base CX0 5 T.d_is_set.f T.d_is_set.fd P_is_set (sp_set K) := ok_is_set T
  have G_is_ask : FnOk P w K mg base CX0 5 T.d_is_ask.f T.d_is_ask.fd P_is_ask (sp_ask K T.C_World) := ok_is_ask T
  have G_is_end : FnOk P w K mg base CX0 5 T.d_is_end.f T.d_is_end.fd P_is_end (sp_end K) := ok_is_end T
  refine T.d_is_statement.F.ok sc_is_statement (fun vs H Q E h => ?_) (fun cdv A outer s H vs Q E hr h => ?_)
  · obtain ⟨_, _, _, _, _, _, rfl, _⟩ := h
    rfl
  · obtain ⟨x, many, places, v, rs, st, rfl, hW, hWo, hv, hok, hm, hp, q⟩ := h
    have hu64 := hr.units
    obtain ⟨hf, hd⟩ := sta_fine hWo hm hp hok
    have hsh := shaped_of hf hd
    obtain ⟨y, e1, es, hst⟩ := sta_tup st
    have hv0 := hv
    rw [hst] at hv0
    obtain ⟨a, xs, rfl, ha, hxs⟩ := hv0.tupI
    obtain ⟨x0, xs', rfl, h0, hxs'⟩ := hxs.invD
    cases h0.strI
    refine ⟨_, (pss_cons (ps_if (PW.pt (pw_or (pt_not (pt_val (pe_callB (r := rIsi K) call_isi (by rfl) T.b_isinstance bt_isinstance (pa_cons (pv 3) (pa_cons (pe_ty T.b_tuple bt_tuple) pa_nil))))) (pw_or (pt_cmpR (r := rEqG K) (op_eqG hu64) (pv 3) (pe_tup pa_nil) (nomark _)) (pw_or1 (pt_not (pt_val (pe_callB (r := rIsi K) call_isi (by rfl) T.b_isinstance bt_isinstance (pa_cons (pe_ix (r := rIx K) ix_seq (pv 3) pe_int (fun _ _ => rfl)) (pa_cons (pe_ty T.b_str bt_str) pa_nil))))))))) (pss_one (ps_ret pe_bl)) pss_nil) (pss_cons (ps_if (pt_cmpR (r := rEqG K) (op_eqG hu64) (pe_ix (r := rIx K) ix_seq (pv 3) pe_int (fun _ _ => rfl)) pe_str (nomark _)) (pss_one (ps_ret (pe_call G_is_set (hr.mono (by omega)) rfl T.d_is_set.g T.d_is_set.F.kp T.d_is_set.b .nil pass0 (pa_cons (pv 1) (pa_cons (pv 2) (pa_cons (pv 3) pa_nil)))))) pss_nil) (pss_cons (ps_if (pt_cmpR (r := rEqG K) (op_eqG hu64) (pe_ix (r := rIx K) ix_seq (pv 3) pe_int (fun _ _ => rfl)) pe_str (nomark _)) (pss_one (ps_ret (pe_call G_is_ask (hr.mono (by omega)) rfl T.d_is_ask.g T.d_is_ask.F.kp T.d_is_ask.b .nil pass0 (pa_cons (pv 0) (pa_cons (pv 1) (pa_cons (pv 2) (pa_cons (pv 3) pa_nil))))))) pss_nil) (pss_one (ps_ret (pe_and (pe_cmpR (r := rEqG K) (op_eqG hu64) (pe_ix (r := rIx K) ix_seq (pv 3) pe_int (fun _ _ => rfl)) pe_str (nomark _)) (pe_one (pe_call G_is_end (hr.mono (by omega)) rfl T.d_is_end.g T.d_is_end.F.kp T.d_is_end.b .nil pass0 (pa_cons (pv 1) (pa_cons (pv 3) pa_nil)))))))))), ?_⟩
    refine ⟨.ref a, rfl, ?_⟩
    walk_at "nn"
    refine ⟨_, _, _, _, true, rfl, .ty "tuple", tyx_sqT ha, kit_ty (by decide +kernel), ?_⟩
    refine ⟨_, rfl, ?_⟩
    refine ⟨.ref a, rfl, Nat.zero_le _, fun p1 np1 => ?_⟩
    have m1 : Mv [] H (upd H p1 (.tup [])) := .new np1
    refine Or.inr ⟨_, .tuple [], (hv.mv m1).dp, .tup (.inl (.inl upd_same)) .nil, hsh, rfl, _, rfl, ?_⟩
    rw [hst, eqv_unit]
    generalize upd H p1 (.tup []) = H1 at m1 ⊢
    refine ⟨.ref a, rfl, rd_ixT (m1.sqT ha) (by decide) (v := .str y) rfl ?_⟩
    walk_at "nn"
    refine ⟨_, _, _, _, true, rfl, .ty "str", .base (.str _), kit_ty (by decide +kernel), ?_⟩
    refine ⟨_, rfl, ?_⟩
    refine ⟨.ref a, rfl, rd_ixT (m1.sqT ha) (by decide) (v := .str y) rfl ?_⟩
    refine Or.inl ⟨rfl, _, rfl, ?_⟩
    cases st with
    | set chs goal =>
      have hy : y = "set" := by simp only [Sta.d, PyData.tuple.injEq, List.cons.injEq, PyData.str.injEq] at hst; exact hst.1.symm
      subst hy
      rw [show decide (V.str "set" = V.str "set") = true from decide_eq_true rfl]
      exact ⟨.int many, rfl, .int places, rfl, .ref a, rfl, many, places, .ref a, chs, goal, rfl, hv.mv m1, hok.1, hok.2.1, hok.2.2, fun H2 m2 => q H2 (m1.trans m2)⟩
    | ask act ts ways =>
      have hy : y = "ask" := by simp only [Sta.d, PyData.tuple.injEq, List.cons.injEq, PyData.str.injEq] at hst; exact hst.1.symm
      subst hy
      obtain ⟨r, hrs, rfl, hak⟩ := hok
      rw [ne_str (by decide +kernel)]
      refine ⟨.ref a, rfl, rd_ixT (m1.sqT ha) (by decide) (v := .str "ask") rfl ?_⟩
      refine Or.inl ⟨rfl, _, rfl, ?_⟩
      rw [show decide (V.str "ask" = V.str "ask") = true from decide_eq_true rfl]
      exact ⟨.ref x, rfl, .int many, rfl, .int places, rfl, .ref a, rfl, x, many, places, .ref a, rs, r, ts, ways, rfl, hW.mv m1, hWo, hrs, hv.mv m1, hak, fun H2 m2 => q H2 (m1.trans m2)⟩
    | fin word ts =>
      have hy : y = "end" := by simp only [Sta.d, PyData.tuple.injEq, List.cons.injEq, PyData.str.injEq] at hst; exact hst.1.symm
      subst hy
      rw [ne_str (by decide +kernel)]
      refine ⟨.ref a, rfl, rd_ixT (m1.sqT ha) (by decide) (v := .str "end") rfl ?_⟩
      refine Or.inl ⟨rfl, _, rfl, ?_⟩
      rw [ne_str (by decide +kernel)]
      refine ⟨.ref a, rfl, rd_ixT (m1.sqT ha) (by decide) (v := .str "end") rfl ?_⟩
      refine Or.inl ⟨rfl, _, rfl, ?_⟩
      rw [show decide (V.str "end" = V.str "end") = true from decide_eq_true rfl]
      exact ⟨.int many, rfl, .ref a, rfl, many, .ref a, word, ts, rfl, hv.mv m1, hok.1, hok.2.1, hok.2.2, fun H2 m2 => q H2 (m1.trans m2)⟩
end
end Fm
namespace Fm
open PySem PySem.Spec PyProof.Rows L2 SlX
local macro_rules | `(tactic| walk_at "nn") => `(tactic| dsimp only [tC, tNil, tCons, tCB, tCall, gName, tSeq, tAsg, tPar, tDrop, tRet])
local macro_rules | `(tactic| walk_at "nc") => `(tactic| dsimp only [tC, tNil, tCons, tCB, tCall])
def sp_first_of (K : PySem.W.Frag) : Sp := fun vs H Q _ => ∃ (a : Addr) (x : V) (xs : List V), vs = [.ref a] ∧ SqT K H a (x :: xs) ∧ Q x H
def sp_ordered (K : PySem.W.Frag) : Sp := fun vs H Q _ => ∃ (v : V) (st : Sta), vs = [v] ∧ Im K H v st.d ∧ st.keyed ∧ ∀ v' H', Mv [] H H' → Im K H' v' st.ord.d → Q v' H'
theorem rd_sl3 {K : PySem.W.Frag} {H : Hp} {Q : VK} {a : Addr} {x y z u : V} (ha : SqT K H a [x, y, z, u]) (h : ∀ p H', Mv [] H H' → SqT K H' p [x, y, z] → Q (.ref p) H') : rSlG K (.ref a) none (some 3) H Q := by
  refine rd_slT ha fun p H' m e => h p H' m ?_
  rw [show (some 3 : Option Int) = some ((3 : Nat) : Int) from rfl, cut_hi] at e
  exact e
section
variable {P : Program} {w : World} {K : PySem.W.Frag} {mg : Str → Option Value} {base : Heap}
theorem ok_first_of (T : TX K mg) {k : Nat} : FnOk P w K mg base CX0 (k + 1) T.d_first_of.f T.d_first_of.fd P_first_of (sp_first_of K) := by
  refine T.d_first_of.F.ok sc_first_of (fun vs H Q E h => ?_) (fun cdv A outer s H vs Q E hr h => ?_)
  · obtain ⟨_, _, _, rfl, _⟩ := h
    rfl
  · obtain ⟨a, x, xs, rfl, ha, q⟩ := h
    refine ⟨_, (pss_one (ps_ret (pe_ix (r := rIx K) ix_seq (pv 0) pe_int (fun _ _ => rfl)))), ?_⟩
    exact ⟨.ref a, rfl, rd_ixT ha (by decide) (v := x) rfl q⟩
theorem ok_ordered (T : TX K mg) {k : Nat} : FnOk P w K mg base CX0 (k + 4) T.d_ordered.f T.d_ordered.fd P_ordered (sp_ordered K) := by
  have G_first_of : FnOk P w K mg base CX0 1 T.d_first_of.f T.d_first_of.fd P_first_of (sp_first_of K) := ok_first_of T
  refine T.d_ordered.F.ok sc_ordered (fun vs H Q E h => ?_) (fun cdv A outer s H vs Q E hr h => ?_)
  · obtain ⟨_, _, rfl, _⟩ := h
    rfl
  · obtain ⟨v, st, rfl, hv, hk, q⟩ := h
    have hu64 := hr.units
    refine ⟨_, (pss_cons (ps_if (pt_cmpR (r := rEqG K) (op_eqG hu64) (pe_ix (r := rIx K) ix_seq (pv 0) pe_int (fun _ _ => rfl)) pe_str (nomark _)) (pss_one (ps_ret (pe_tup (pa_cons pe_str (pa_cons (pe_callTy (r := rTupOf K) call_tupG (by rfl) T.b_tuple bt_tuple (pa_cons (pe_callBK (r := rSortK K T.d_first_of.f (sp_first_of K)) (cr_sortKey (fnR_of G_first_of T.d_first_of.b) (hr.mono (by omega))) (by rfl) T.b_sorted bt_sorted (pa_cons (pe_ix (r := rIx K) ix_seq (pv 0) pe_int (fun _ _ => rfl)) pa_nil) (pk_cons (pe_glob rfl T.d_first_of.g (show L2.RelV (.ref T.d_first_of.f) _ from rfl)) pk_nil)) pa_nil)) (pa_cons (pe_ix (r := rIx K) ix_seq (pv 0) pe_int (fun _ _ => rfl)) pa_nil)))))) pss_nil) (pss_cons (ps_if (pt_cmpR (r := rEqG K) (op_eqG hu64) (pe_ix (r := rIx K) ix_seq (pv 0) pe_int (fun _ _ => rfl)) pe_str (nomark _)) (pss_one (ps_ret (pe_op (r := rAddG K) op_addG (pe_slice (r := rSlG K) sl_G (pv 0) po_none (po_some pe_int)) (pe_tup (pa_cons (pe_callTy (r := rTupOf K) call_tupG (by rfl) T.b_tuple bt_tuple (pa_cons (pe_callBK (r := rSortK K T.d_first_of.f (sp_first_of K)) (cr_sortKey (fnR_of G_first_of T.d_first_of.b) (hr.mono (by omega))) (by rfl) T.b_sorted bt_sorted (pa_cons (pe_ix (r := rIx K) ix_seq (pv 0) pe_int (fun _ _ => rfl)) pa_nil) (pk_cons (pe_glob rfl T.d_first_of.g (show L2.RelV (.ref T.d_first_of.f) _ from rfl)) pk_nil)) pa_nil)) pa_nil))))) pss_nil) (pss_one (ps_ret (pv 0))))), ?_⟩
    cases st with
    | set chs goal =>
      obtain ⟨a, x0, x1, x2, rfl, ha, h0, h1, h2⟩ := hv.tup3
      cases h0.strI
      cases h2.intI
      obtain ⟨a1, xs, rfl, ha1, hxs⟩ := h1.tupI
      refine ⟨.ref a, rfl, rd_ixT ha (by decide) (v := .str "set") rfl ?_⟩
      refine Or.inl ⟨rfl, _, rfl, ?_⟩
      rw [show decide (V.str "set" = V.str "set") = true from decide_eq_true rfl]
      refine ⟨.ref a, rfl, rd_ixT ha (by decide) (v := .ref a1) rfl ?_⟩
      have hl := hxs.length
      rw [List.length_map] at hl
      refine ⟨a1, xs, chs.map fun c => V.int c.1, rfl, rfl, .inr ha1, by rw [List.length_map]; omega, .inl ⟨chs.map (·.1), by rw [List.map_map]; rfl⟩, fun i y c hy hc Q' q' => ?_, fun ps p H1 hpm hpw np keep hp => ?_⟩
      · rw [List.getElem?_map] at hc
        obtain ⟨c, hc', rfl⟩ := Option.map_eq_some_iff.mp hc
        obtain ⟨d, hd, him⟩ := hxs.get hy
        rw [List.getElem?_map, hc'] at hd
        cases hd
        obtain ⟨ac, y0, y1, rfl, hac, k0, k1⟩ := him.tup2
        rw [k0.intI] at hac
        exact ⟨ac, _, _, rfl, hac, q'⟩
      · have m1 : Mv [] H H1 := .of_same keep
        have hI := sorted_rows (D := chD) (key := fun c : Int × Tm => c.1) (mk := V.int) (kf := kI) totZ (fun _ => rfl) (fun i j h => by
          have : decide (j < i) = false := h
          exact decide_eq_true (by have := of_decide_eq_false this; omega)) hxs hk.1 hpm hpw
        walk_at "nc"
        refine rd_tupOf (.inl (.inl hp)) fun p2 H2 m2 e2 => ?_
        have m02 := m1.trans m2
        refine ⟨.ref a, rfl, rd_ixT (m02.sqT ha) (by decide) (v := .int goal) rfl ?_⟩
        refine ⟨(by decide : 3 ≤ sizeLine), fun p3 np3 => ?_⟩
        refine q (.ref p3) _ (m02.trans (.new np3)) ?_
        have m23 : Mv [] H2 (upd H2 p3 (.tup [.str "set", .ref p2, .int goal])) := .new np3
        exact .tup (.inl (.inl upd_same)) (.cons (.str _) (.cons (.tup (m23.sqT e2) (hI.mv (m02.trans m23))) (.cons (.int _) .nil)))
    | ask act ts ways =>
      obtain ⟨a, x0, x1, x2, x3, rfl, ha, h0, h1, h2, h3⟩ := hv.tup4
      cases h0.strI
      obtain ⟨a3, xs, rfl, ha3, hxs⟩ := h3.tupI
      refine ⟨.ref a, rfl, rd_ixT ha (by decide) (v := .str "ask") rfl ?_⟩
      refine Or.inl ⟨rfl, _, rfl, ?_⟩
      rw [ne_str (by decide +kernel)]
      refine ⟨.ref a, rfl, rd_ixT ha (by decide) (v := .str "ask") rfl ?_⟩
      refine Or.inl ⟨rfl, _, rfl, ?_⟩
      rw [show decide (V.str "ask" = V.str "ask") = true from decide_eq_true rfl]
      refine ⟨.ref a, rfl, 3, rfl, rd_sl3 ha fun p0 H0 m0 e0 => ?_⟩
      refine ⟨.ref a, rfl, rd_ixT (m0.sqT ha) (by decide) (v := .ref a3) rfl ?_⟩
      have hl := hxs.length
      rw [List.length_map] at hl
      refine ⟨a3, xs, ways.map fun c => V.str c.1, rfl, rfl, .inr (m0.sqT ha3), by rw [List.length_map]; omega, .inr ⟨ways.map (·.1), by rw [List.map_map]; rfl⟩, fun i y c hy hc Q' q' => ?_, fun ps p H1 hpm hpw np keep hp => ?_⟩
      · rw [List.getElem?_map] at hc
        obtain ⟨c, hc', rfl⟩ := Option.map_eq_some_iff.mp hc
        obtain ⟨d, hd, him⟩ := hxs.get hy
        rw [List.getElem?_map, hc'] at hd
        cases hd
        obtain ⟨ac, y0, y1, y2, rfl, hac, k0, k1, k2⟩ := (him.mv m0).tup3
        rw [k0.strI] at hac
        exact ⟨ac, _, _, rfl, hac, q'⟩
      · have m1 : Mv [] H0 H1 := .of_same keep
        have hI := sorted_rows (D := wayD) (key := fun c : Str × List Int × Int => c.1) (mk := V.str) (kf := kS) totS (fun _ => rfl) (fun i j h => by
          have : decide (j.cps.toList < i.cps.toList) = false := h
          unfold leS
          rw [this]
          rfl) hxs hk.1 hpm hpw
        walk_at "nc"
        refine rd_tupOf (.inl (.inl hp)) fun p2 H2 m2 e2 => ?_
        have m02 := (m0.trans m1).trans m2
        refine ⟨(by decide : 1 ≤ sizeLine), fun p3 np3 => ?_⟩
        have m23 : Mv [] H2 (upd H2 p3 (.tup [.ref p2])) := .new np3
        have e3 : SqT K (upd H2 p3 (.tup [.ref p2])) p3 [.ref p2] := .inl (.inl upd_same)
        generalize upd H2 p3 (.tup [.ref p2]) = H3 at m23 e3 ⊢
        refine rd_cat (m23.sqT (m2.sqT (m1.sqT e0))) e3 (by decide : 4 ≤ sizeLine) fun p4 H4 m4 e4 => ?_
        have m04 := m02.trans (m23.trans m4)
        exact q (.ref p4) _ m04 (.tup e4 (.cons (.str _) (.cons (h1.mv m04) (.cons (h2.mv m04) (.cons (.tup ((m23.trans m4).sqT e2) (hI.mv m04)) .nil)))))
    | fin word ts =>
      obtain ⟨a, x0, x1, x2, rfl, ha, h0, h1, h2⟩ := hv.tup3
      cases h0.strI
      refine ⟨.ref a, rfl, rd_ixT ha (by decide) (v := .str "end") rfl ?_⟩
      refine Or.inl ⟨rfl, _, rfl, ?_⟩
      rw [ne_str (by decide +kernel)]
      refine ⟨.ref a, rfl, rd_ixT ha (by decide) (v := .str "end") rfl ?_⟩
      refine Or.inl ⟨rfl, _, rfl, ?_⟩
      rw [ne_str (by decide +kernel)]
      exact ⟨.ref a, rfl, q (.ref a) H .refl hv⟩
end
end Fm
namespace Fm
open PySem PySem.Spec PyProof.Rows L2 SlX
local macro_rules | `(tactic| walk_at "nn") => `(tactic| dsimp only [tC, tNil, tCons, tCB, tCall, gName, tSeq, tAsg, tPar, tDrop, tRet])
local macro_rules | `(tactic| walk_at "nc") => `(tactic| dsimp only [tC, tNil, tCons, tCB, tCall])
section
variable {H0 H : Hp} {x dx C : Addr} {vs : List (Option V)}
theorem Mv.sl (m : Mv [] H0 H) (nx : H0 x = none) (ndx : H0 dx = none) : Mv [] H0 (slH H x C dx vs) := by
  unfold slH
  exact (m.wr ndx).wr nx
theorem Mv.slP {u u2 : HO} (hne : dx ≠ x) (hx : H x = some u) (h1 : ∀ xs, u ≠ .tup xs) (h2 : ∀ o xs, u ≠ .frz o (.tup xs)) (hd : H dx = some u2) (h3 : ∀ xs, u2 ≠ .tup xs) (h4 : ∀ o xs, u2 ≠ .frz o (.tup xs)) : Mv [x, dx] H (slH H x C dx vs) := by
  have m1 : Mv [x, dx] H (upd H dx (.xd [])) := (Mv.put hd h3 h4).mono (by simp)
  have m2 : Mv [x, dx] (upd H dx (.xd [])) (slH H x C dx vs) := (Mv.put (u := u) (by rw [upd_ne hne.symm]; exact hx) h1 h2).mono (by simp)
  exact m1.trans m2
theorem slH_x : slH H x C dx vs x = some (SlO x C dx vs) := upd_same
theorem slH_dx (hne : dx ≠ x) : slH H x C dx vs dx = some (.xd []) := by
  unfold slH
  rw [upd_ne hne]
  exact upd_same
theorem slO_notup {xs : List V} : SlO x C dx vs ≠ .tup xs := fun z => by
  unfold SlO at z
  cases z
theorem slO_nofrz {o : Obj} {xs : List V} : SlO x C dx vs ≠ .frz o (.tup xs) := fun z => by
  unfold SlO at z
  cases z
theorem Mv.slA (hne : dx ≠ x) (hx : H x = some (.ins C dx [])) (hd : H dx = some (.own x)) {us : List (Option V)} : Mv [x, dx] H (slH H x C dx us) := .slP hne hx (fun _ z => by cases z) (fun _ _ z => by cases z) hd (fun _ z => by cases z) (fun _ _ z => by cases z)
theorem Mv.slB (hne : dx ≠ x) (hx : H x = some (SlO x C dx vs)) (hd : H dx = some (.xd [])) {us : List (Option V)} : Mv [x, dx] H (slH H x C dx us) := .slP hne hx (fun _ => slO_notup) (fun _ _ => slO_nofrz) hd (fun _ z => by cases z) (fun _ _ z => by cases z)
end
def CodAt (K : PySem.W.Frag) (H : Hp) (C CW x wx : Addr) (rs : List ActR) (many given : Int) (sts : List Sta) : Prop := ∃ dx l xs, Slt H x C dx [some (.int given), some (.ref l), some (.int many), some (.ref wx)] ∧ WldAt K H CW wx rs ∧ H l = some (.lst xs) ∧ Ims K H xs (sts.map Sta.d)
def CodL (K : PySem.W.Frag) (H : Hp) (C CW l x wx : Addr) (rs : List ActR) (many given : Int) (sts : List Sta) : Prop := ∃ dx xs, Slt H x C dx [some (.int given), some (.ref l), some (.int many), some (.ref wx)] ∧ WldAt K H CW wx rs ∧ H l = some (.lst xs) ∧ Ims K H xs (sts.map Sta.d)
theorem CodL.at_ {K : PySem.W.Frag} {H : Hp} {C CW l x wx : Addr} {rs : List ActR} {many given : Int} {sts : List Sta} : CodL K H C CW l x wx rs many given sts → CodAt K H C CW x wx rs many given sts := fun ⟨dx, xs, h⟩ => ⟨dx, l, xs, h⟩
theorem Slt.put {H : Hp} {p a C dx : Addr} {o : HO} {zs : List V} {vs : List (Option V)} (h : Slt H a C dx vs) (hp : H p = some (.lst zs)) : Slt (upd H p o) a C dx vs := by
  have ne : ∀ {q u}, H q = some u → (∀ xs, u ≠ .lst xs) → q ≠ p := fun e n z => by
    subst z
    rw [hp] at e
    exact n _ (Option.some.inj e).symm
  rcases h with ⟨h1, h2⟩ | ⟨h1, h2⟩
  · exact .inl ⟨by rw [upd_ne (ne h1 (fun _ z => by cases z))]; exact h1, h2⟩
  · exact .inr ⟨by rw [upd_ne (ne h1 slO_nolst)]; exact h1, by rw [upd_ne (ne h2 (fun _ z => by cases z))]; exact h2⟩
theorem CodL.put {K : PySem.W.Frag} {H : Hp} {C CW l x wx p : Addr} {o : HO} {zs : List V} {rs : List ActR} {many given : Int} {sts : List Sta} (h : CodL K H C CW l x wx rs many given sts) (hp : H p = some (.lst zs)) (hl : l ≠ p) (hW : WldAt K (upd H p o) CW wx rs) : CodL K (upd H p o) C CW l x wx rs many given sts := by
  obtain ⟨dx, xs, h1, _, h3, h4⟩ := h
  exact ⟨dx, xs, Slt.put h1 hp, hW, by rw [upd_ne hl]; exact h3, h4.mv (Mv.set (S := [p]) hp (by simp))⟩
theorem Bag.ne_sta {K : PySem.W.Frag} {H : Hp} {b l : Addr} {xs : List V} {sts : List Sta} (hB : Bag H b) (hl : H l = some (.lst xs)) (hx : Ims K H xs (sts.map Sta.d)) : l ≠ b := by
  rintro rfl
  obtain ⟨c, s, m, k, ns, h1, _⟩ := hB
  rw [h1] at hl
  have := Option.some.inj hl
  injection this with this
  subst this
  cases sts with
  | nil => have := hx.nilD; cases this
  | cons st sts =>
    obtain ⟨v, vs, e, h2, _⟩ := hx.invD
    cases e
    obtain ⟨y, e1, es, hst⟩ := sta_tup st
    rw [hst] at h2
    obtain ⟨a, xs, e, _⟩ := h2.tupI
    cases e
section
variable {K : PySem.W.Frag} {H H' : Hp} {b C CW x wx : Addr} {rs : List ActR} {many given : Int} {sts : List Sta}
theorem CodAt.mv (h : CodAt K H C CW x wx rs many given sts) (m : Mv [] H H') : CodAt K H' C CW x wx rs many given sts := by
  obtain ⟨dx, l, xs, h1, h2, h3, h4⟩ := h
  exact ⟨dx, l, xs, Slt.mv h1 m, h2.mv m, m.same _ _ h3, h4.mv m⟩
theorem CodL.dr {l : Addr} (h : CodL K H C CW l x wx rs many given sts) (m : Dr b H H') (hB : Bag H b) : CodL K H' C CW l x wx rs many given sts := by
  obtain ⟨dx, xs, h1, h2, h3, h4⟩ := h
  exact ⟨dx, xs, Slt.dr h1 m hB, h2.dr m hB, m.get (hB.ne_sta h3 h4) h3, h4.mv m.mv⟩
theorem CodAt.dr (h : CodAt K H C CW x wx rs many given sts) (m : Dr b H H') (hB : Bag H b) : CodAt K H' C CW x wx rs many given sts := by
  obtain ⟨dx, l, xs, h1, h2, h3, h4⟩ := h
  exact ⟨dx, l, xs, Slt.dr h1 m hB, h2.dr m hB, m.get (hB.ne_sta h3 h4) h3, h4.mv m.mv⟩
end
def sp_Code (K : PySem.W.Frag) (C CW : Addr) : Sp := fun vs H Q _ => ∃ (x dx wx sl : Addr) (rs : List ActR) (many given : Int) (xs : List V) (sts : List Sta) (H0 : Hp), vs = [.ref x, .ref wx, .int many, .int given, .ref sl] ∧ H = upd (upd H0 dx (.own x)) x (.ins C dx []) ∧ H0 x = none ∧ H0 dx = none ∧ dx ≠ x ∧
  WldAt K H0 CW wx rs ∧ WOk rs ∧ 0 ≤ many ∧ many ≤ 24 ∧ 0 ≤ given ∧ given ≤ many ∧ (H0 sl = some (.lst xs) ∨ SqT K H0 sl xs) ∧ Ims K H0 xs (sts.map Sta.d) ∧ (∀ st ∈ sts, st.ok rs many sts.length) ∧ 0 < sts.length ∧ sts.length ≤ 1000 ∧
  ∀ l H', Mv [] H0 H' → H0 l = none → CodL K H' C CW l x wx rs many given (sts.map Sta.ord) → Q .non H'
theorem Mv.seq {K : PySem.W.Frag} {H H' : Hp} {a : Addr} {xs : List V} (m : Mv [] H H') (h : SqL K H a xs ∨ SqT K H a xs) : SqL K H' a xs ∨ SqT K H' a xs := h.imp (fun h => m.same.seq h) fun h => m.sqT h
section
variable {P : Program} {w : World} {K : PySem.W.Frag} {mg : Str → Option Value} {base : Heap}
theorem ok_Code___init__ (T : TX K mg) {k : Nat} : FnOk P w K mg base CX0 (k + 7) T.d_Code___init__.f T.d_Code___init__.fd P_Code___init__ (sp_Code K T.C_Code T.C_World) := by
  have G_is_integer : FnOk P w K mg base CX0 1 T.d_is_integer.f T.d_is_integer.fd P_is_integer (sp_kind K isWhole) := ok_is_integer T
  have G_is_statement : FnOk P w K mg base CX0 6 T.d_is_statement.f T.d_is_statement.fd P_is_statement (sp_stmt K T.C_World) := ok_is_statement T
  have G_ordered : FnOk P w K mg base CX0 4 T.d_ordered.f T.d_ordered.fd P_ordered (sp_ordered K) := ok_ordered T
  refine T.d_Code___init__.F.ok sc_Code___init__ (fun vs H Q E h => ?_) (fun cdv A outer s H vs Q E hr h => ?_)
  · obtain ⟨_, _, _, _, _, _, _, _, _, _, rfl, _⟩ := h
    rfl
  · obtain ⟨x, dx, wx, sl, rs, many, given, xs, sts, H0, rfl, eH, nx, ndx, hne, hW0, hWo, hm0, hm1, hg0, hg1, hS0, hxs0, hok, hl0, hl1, q⟩ := h
    have hu65 := hu65_of hr
    have hu64 := hr.units
    refine ⟨_, (pss_cons (ps_set (i := 5) sc_Code___init__.nd rfl (Or.inl rfl) (pe_lst (pa_cons (pe_callB (r := rIsiSl K (.ref T.C_World)) (call_isiSl (.ref T.C_World)) (by rfl) T.b_isinstance bt_isinstance (pa_cons (pv 1) (pa_cons (pe_glob rfl T.g_World (show L2.RelV (.ref T.C_World) _ from rfl)) pa_nil))) (pa_cons (pe_and (pe_call G_is_integer (hr.mono (by omega)) rfl T.d_is_integer.g T.d_is_integer.F.kp T.d_is_integer.b .nil pass0 (pa_cons (pv 2) pa_nil)) (pe_one (pe_chain op_le op_le pe_int (pv 2) (pe_glob rfl T.c_MOST_VARIABLES T.r_MOST_VARIABLES)))) pa_nil)))) (pss_cons (ps_expr (pe_bm PySem.F.plainAttrs_list PySem.F.slot_list_append PySem.F.type_list_append mt_append (pv 5) (pa_cons (pe_and (pe_call G_is_integer (hr.mono (by omega)) rfl T.d_is_integer.g T.d_is_integer.F.kp T.d_is_integer.b .nil pass0 (pa_cons (pv 3) pa_nil)) (pe_and (pe_cmpR op_le pe_int (pv 3) (nomark _)) (pe_one (pe_or (pe_not (pe_ix (r := rIx K) ix_seq (pv 5) pe_int (fun _ _ => rfl))) (pe_one (pe_cmpR op_le (pv 3) (pv 2) (nomark _))))))) pa_nil))) (pss_cons (ps_expr (pe_bm PySem.F.plainAttrs_list PySem.F.slot_list_append PySem.F.type_list_append mt_append (pv 5) (pa_cons (pe_and (pe_callB (r := rIsiT K) call_isiT (by rfl) T.b_isinstance bt_isinstance (pa_cons (pv 4) (pa_cons (pe_tup (pa_cons (pe_ty T.b_list bt_list) (pa_cons (pe_ty T.b_tuple bt_tuple) pa_nil))) pa_nil))) (pe_one (pe_cmpR op_gt (pe_callB (r := rLenG K) call_lenG (by rfl) T.b_len bt_len (pa_cons (pv 4) pa_nil)) pe_int (nomark _)))) pa_nil))) (pss_cons (ps_if (pt_cmpR (r := rInG K) (op_inG hu65) pe_bl (pv 5) rfl) (pss_one ps_never) pss_nil) (pss_cons (ps_for PassesOwn.never rfl (pi_enumG (by rfl) T.b_enumerate (pa_cons (pv 4) pa_nil)) (pg_tup rfl (pgs_cons (pg_name (i := 6) sc_Code___init__.nd rfl (Or.inl rfl)) (pgs_cons (pg_name (i := 7) sc_Code___init__.nd rfl (Or.inl rfl)) pgs_nil))) (pss_one (ps_if (pt_not (pt_val (pe_call G_is_statement (hr.mono (by omega)) rfl T.d_is_statement.g T.d_is_statement.F.kp T.d_is_statement.b .nil pass0 (pa_cons (pv 1) (pa_cons (pv 2) (pa_cons (pe_callB (r := rLenG K) call_lenG (by rfl) T.b_len bt_len (pa_cons (pv 4) pa_nil)) (pa_cons (pv 7) pa_nil))))))) (pss_one ps_never) pss_nil))) (pss_cons (ps_asg (pe_tup (pa_cons (pv 1) (pa_cons (pv 2) (pa_cons (pv 3) pa_nil)))) (pg_tup rfl (pgs_cons (pg_sl (pv 0)) (pgs_cons (pg_sl (pv 0)) (pgs_cons (pg_sl (pv 0)) pgs_nil))))) (pss_one (ps_sl (pv 0) (pe_lc (own := [("statement", 7)]) (g := gName 7) (by rfl) sc_Code___init__.nd (pi_seq (pv 4)) (blkOk_by (own := [("statement", 7)]) (N := N_Code___init__) (sc := defScope s_Code___init__) (by decide +kernel)) (fun _ _ _ _ _ => pg_name (i := 7) sc_Code___init__.nd rfl (Or.inl rfl)) (fun _ _ _ _ _ => pts_nil) (fun _ _ _ _ _ => (pe_call G_ordered (hr.mono (by omega)) rfl T.d_ordered.g T.d_ordered.F.kp T.d_ordered.b .nil pass0 (pa_cons (pv 7) pa_nil)))))))))))), ?_⟩
    have mH : Mv [] H0 H := by
      rw [eH]
      exact (Mv.new ndx).wr nx
    have hx : H x = some (.ins T.C_Code dx []) := by rw [eH]; exact upd_same
    have hdx : H dx = some (.own x) := by rw [eH, upd_ne hne]; exact upd_same
    clear eH
    have hW := hW0.mv mH
    have hS1 : H sl = some (.lst xs) ∨ SqT K H sl xs := hS0.imp (mH.same _ _) mH.sqT
    have hS : SqL K H sl xs ∨ SqT K H sl xs := hS1.imp (fun h => .inl (.inl h)) id
    obtain ⟨dw, d, zs, hs, hA, hz⟩ := id hW
    refine ⟨.ref wx, rfl, ?_⟩
    walk_at "nn"
    refine ⟨wx, T.C_World, dw, _, .ref T.C_World, true, rfl, rfl, fun _ h => h, hs, T.c_World, T.is_World, kitOne_self _, ?_⟩
    refine ⟨.int many, rfl, .int many, .int many, x, rfl, rfl, fun H1 m1 => ⟨_, rfl, .int many, rfl, 0, many, rfl, rfl, _, rfl, ?_⟩⟩
    rw [show decide ((0 : Int) ≤ many) = true from decide_eq_true hm0]
    refine ⟨many, 24, rfl, rfl, ?_⟩
    dsimp only
    rw [show decide (many ≤ (24 : Int)) = true from decide_eq_true hm1]
    refine ⟨(by decide : 2 ≤ sizeLine), fun l nl => ?_⟩
    have e2 : upd H1 l (.lst [.bl true, .bl true]) l = some (.lst [.bl true, .bl true]) := upd_same
    have m2 : Mv [] H (upd H1 l (.lst [.bl true, .bl true])) := m1.trans (.new nl)
    have nlH := m1.free nl
    generalize upd H1 l (.lst [.bl true, .bl true]) = H2 at e2 m2 ⊢
    refine ⟨.ref l, rfl, .inl ⟨rfl, _, .inl (.inl e2)⟩, ?_⟩
    refine ⟨.int given, rfl, .int given, .int given, x, rfl, rfl, fun H3 m3 => ⟨_, rfl, .int given, rfl, 0, given, rfl, rfl, _, rfl, ?_⟩⟩
    rw [show decide ((0 : Int) ≤ given) = true from decide_eq_true hg0]
    have e3 := m3.same _ _ e2
    refine ⟨.ref l, rfl, rd_ixL (.inl (.inl e3)) (by decide) (v := .bl true) rfl ?_⟩
    refine ⟨_, rfl, _, rfl, .int given, rfl, .int many, rfl, given, many, rfl, rfl, ?_⟩
    dsimp only
    rw [show decide (given ≤ many) = true from decide_eq_true hg1]
    refine ⟨l, _, _, rfl, rfl, e3, (by decide : 2 < sizeLine), ?_⟩
    have m4 : Mv [] H (upd H3 l (.lst ([.bl true, .bl true] ++ [.bl true]))) := (m2.trans m3).wr nlH
    have e4 : upd H3 l (.lst ([.bl true, .bl true] ++ [.bl true])) l = some (.lst [.bl true, .bl true, .bl true]) := upd_same
    generalize upd H3 l (.lst ([.bl true, .bl true] ++ [.bl true])) = H4 at m4 e4 ⊢
    refine ⟨.ref l, rfl, .inl ⟨rfl, _, .inl (.inl e4)⟩, ?_⟩
    have hS4 := m4.seq hS
    have hxl : xs.length = sts.length := by
      have := hxs0.length
      rwa [List.length_map] at this
    refine ⟨.ref sl, rfl, (by decide : 2 ≤ sizeLine), fun p5 np5 => ?_⟩
    have m5 : Mv [] H4 (upd H4 p5 (.tup [.ty "list", .ty "tuple"])) := .new np5
    have e5 : upd H4 p5 (.tup [.ty "list", .ty "tuple"]) p5 = some (.tup [.ty "list", .ty "tuple"]) := upd_same
    generalize upd H4 p5 (.tup [.ty "list", .ty "tuple"]) = H5 at m5 e5 ⊢
    have ty5 : ∃ t, TyX K H5 (.ref sl) t ∧ PySem.W.kitAny K t [.type "list", .type "tuple"] = some true := by
      rcases hS1 with h | h
      · exact ⟨_, .base (.lst (m5.same _ _ (m4.same _ _ h))), kitAny_cons (b := true) (kit_ty (b := "list") (by decide +kernel)) (fun z => by cases z) (fun _ => rfl)⟩
      · exact ⟨_, tyx_sqT (m5.sqT (m4.sqT h)), kitAny_cons (r := true) (kit_ty (a := "tuple") (b := "list") (r := false) (by decide +kernel)) (fun _ => kitAny_cons (b := true) (kit_ty (by decide +kernel)) (fun z => by cases z) (fun _ => rfl)) (fun z => by cases z)⟩
    obtain ⟨ty, hty, hka⟩ := ty5
    refine ⟨_, p5, _, ty, [.type "list", .type "tuple"], true, rfl, e5, .cons (.ty "list") (.cons (.ty "tuple") .nil), hty, hka, ?_⟩
    refine ⟨_, rfl, .ref sl, rfl, ?_⟩
    walk_at "nc"
    refine rd_len (m5.seq hS4) ⟨_, 0, rfl, rfl, ?_⟩
    dsimp only
    rw [show decide ((0 : Int) < ((xs.length : Nat) : Int)) = true from decide_eq_true (by omega)]
    refine ⟨l, _, _, rfl, rfl, m5.same _ _ e4, (by decide : 3 < sizeLine), ?_⟩
    have m6 : Mv [] H (upd H5 l (.lst ([.bl true, .bl true, .bl true] ++ [.bl true]))) := (m4.trans m5).wr nlH
    have e6 : upd H5 l (.lst ([.bl true, .bl true, .bl true] ++ [.bl true])) l = some (.lst [.bl true, .bl true, .bl true, .bl true]) := upd_same
    generalize upd H5 l (.lst ([.bl true, .bl true, .bl true] ++ [.bl true])) = H6 at m6 e6 ⊢
    refine ⟨.ref l, rfl, Or.inl ⟨.bool false, [.bool true, .bool true, .bool true, .bool true], .bl false, .lst (.inl (.inl e6)) (.cons (.bl _) (.cons (.bl _) (.cons (.bl _) (.cons (.bl _) .nil)))), rfl, rfl, ?_⟩⟩
    refine ⟨_, rfl, ?_⟩
    rw [show (List.any [PyData.bool true, .bool true, .bool true, .bool true] fun z => PyData.eqv z (.bool false)) = false from rfl]
    refine ⟨.ref sl, rfl, sl, xs, rfl, ?_⟩
    refine for_enumG (R := True) (xs := xs) (m6.seq hS) (fun i σ H7 => ∃ y z, σ = [some (.ref x), some (.ref wx), some (.int many), some (.int given), some (.ref sl), some (.ref l), y, z] ∧ Mv [] H6 H7)
      ⟨none, none, rfl, .refl⟩ (fun i σ H7 h7 => h7.choose_spec.choose_spec.2) (fun i y t σ H7 hy h7 nt => ?_) (fun σ H7 h7 => ?_)
    · obtain ⟨y0, z0, rfl, m7⟩ := h7
      have m8 : Mv [] H7 (upd H7 t (.tup [.int (i : Nat), y])) := .new nt
      have e8 : SqT K (upd H7 t (.tup [.int (i : Nat), y])) t [.int (i : Nat), y] := .inl (.inl upd_same)
      generalize upd H7 t (.tup [.int (i : Nat), y]) = H8 at m8 e8 ⊢
      have m08 := m6.trans (m7.trans m8)
      obtain ⟨d1, hd1, him⟩ := hxs0.get hy
      rw [List.getElem?_map] at hd1
      obtain ⟨st, hst, rfl⟩ := Option.map_eq_some_iff.mp hd1
      refine ⟨t, _, rfl, e8, rfl, _, _, rfl, _, _, rfl, rfl, ?_⟩
      refine ⟨.ref wx, rfl, .int many, rfl, .ref sl, rfl, ?_⟩
      walk_at "nc"
      refine rd_len (m08.seq hS) ?_
      refine ⟨y, rfl, wx, many, _, y, rs, st, rfl, hW.mv m08, hWo, him.mv (mH.trans m08), ?_, by omega, by omega, fun H9 m9 => ⟨_, rfl, _, _, rfl, (m7.trans m8).trans m9⟩⟩
      rw [hxl]
      exact hok st (List.mem_of_getElem? hst)
    · obtain ⟨y0, z0, rfl, m7⟩ := h7
      have m07 := m6.trans m7
      refine ⟨.ref wx, rfl, .int many, rfl, .int given, rfl, (by decide : 3 ≤ sizeLine), fun p8 np8 => ?_⟩
      have m8 : Mv [] H (upd H7 p8 (.tup [.ref wx, .int many, .int given])) := m07.trans (.new np8)
      have e8 : SqT K (upd H7 p8 (.tup [.ref wx, .int many, .int given])) p8 [.ref wx, .int many, .int given] := .inl (.inl upd_same)
      generalize upd H7 p8 (.tup [.ref wx, .int many, .int given]) = H8 at m8 e8 ⊢
      refine ⟨p8, _, rfl, e8, rfl, _, _, rfl, ?_⟩
      have hx8 := m8.same _ _ hx
      have hd8 := m8.same _ _ hdx
      refine ⟨.ref x, rfl, x, T.C_Code, dx, T.p_Code_its_world, [], 3, rfl, Or.inl ⟨hx8, rfl⟩, T.c_Code, T.sl_Code_its_world, ?_⟩
      have k9 := Mv.slA hne hx8 hd8 (us := putS 3 (.ref wx) [])
      have m9 := (mH.trans m8).sl (C := T.C_Code) (vs := putS 3 (.ref wx) []) nx ndx
      have hx9 := slH_x (H := H8) (x := x) (C := T.C_Code) (dx := dx) (vs := putS 3 (.ref wx) [])
      have hd9 := slH_dx (H := H8) (C := T.C_Code) (vs := putS 3 (.ref wx) []) hne
      have hs9 := slH_slt (H := H8) (C := T.C_Code) (vs := putS 3 (.ref wx) []) hne
      generalize slH H8 x T.C_Code dx (putS 3 (.ref wx) []) = H9 at k9 m9 hx9 hd9 hs9 ⊢
      refine ⟨_, _, rfl, ?_⟩
      refine ⟨.ref x, rfl, x, T.C_Code, dx, T.p_Code_its_variables, _, 2, rfl, hs9, T.c_Code, T.sl_Code_its_variables, ?_⟩
      have m10 := m9.sl (C := T.C_Code) (vs := putS 2 (.int many) (putS 3 (.ref wx) [])) nx ndx
      have hx10 := slH_x (H := H9) (x := x) (C := T.C_Code) (dx := dx) (vs := putS 2 (.int many) (putS 3 (.ref wx) []))
      have hd10 := slH_dx (H := H9) (C := T.C_Code) (vs := putS 2 (.int many) (putS 3 (.ref wx) [])) hne
      have hs10 := slH_slt (H := H9) (C := T.C_Code) (vs := putS 2 (.int many) (putS 3 (.ref wx) [])) hne
      generalize slH H9 x T.C_Code dx (putS 2 (.int many) (putS 3 (.ref wx) [])) = H10 at m10 hx10 hd10 hs10 ⊢
      refine ⟨_, _, rfl, ?_⟩
      refine ⟨.ref x, rfl, x, T.C_Code, dx, T.p_Code_its_given, _, 0, rfl, hs10, T.c_Code, T.sl_Code_its_given, ?_⟩
      have m11 := m10.sl (C := T.C_Code) (vs := putS 0 (.int given) (putS 2 (.int many) (putS 3 (.ref wx) []))) nx ndx
      have hx11 := slH_x (H := H10) (x := x) (C := T.C_Code) (dx := dx) (vs := putS 0 (.int given) (putS 2 (.int many) (putS 3 (.ref wx) [])))
      have hd11 := slH_dx (H := H10) (C := T.C_Code) (vs := putS 0 (.int given) (putS 2 (.int many) (putS 3 (.ref wx) []))) hne
      have hs11 := slH_slt (H := H10) (C := T.C_Code) (vs := putS 0 (.int given) (putS 2 (.int many) (putS 3 (.ref wx) []))) hne
      generalize slH H10 x T.C_Code dx (putS 0 (.int given) (putS 2 (.int many) (putS 3 (.ref wx) []))) = H11 at m11 hx11 hd11 hs11 ⊢
      refine ⟨rfl, ?_⟩
      refine ⟨.ref sl, rfl, sl, rfl, ?_⟩
      have hS11 : SqL K H11 sl xs ∨ SqT K H11 sl xs := m11.seq (hS0.imp (fun h => .inl (.inl h)) id)
      refine lc_seq (xs := xs) hS11 (fun i D H12 => ∃ ys, H12 D = some (.lst ys) ∧ Ims K H12 ys ((sts.take i).map fun st => st.ord.d) ∧ Mv [] H11 H12)
        (fun D nD => ⟨[], upd_same, Ims.nil, .new nD⟩) (fun i D H12 nD h12 => h12.choose_spec.2.2) (fun D nD i y H12 hy h12 => ?_) (fun D H12 nD h12 => ?_)
      · obtain ⟨ys, e12, i12, m12⟩ := h12
        obtain ⟨d1, hd1, him⟩ := hxs0.get hy
        rw [List.getElem?_map] at hd1
        obtain ⟨st, hst, rfl⟩ := Option.map_eq_some_iff.mp hd1
        have hi := (List.getElem?_eq_some_iff.mp hst).1
        refine ⟨rfl, y, rfl, y, st, rfl, him.mv (m11.trans m12), sta_keyed hWo (hok st (List.mem_of_getElem? hst)), fun v H13 m13 i13 => ?_⟩
        have e13 := m13.same _ _ e12
        have hw : Mv [D] H13 (upd H13 D (.lst (ys ++ [v]))) := .set e13 (by simp)
        refine ⟨ys, e13, ?_, _, upd_same, ?_, (m12.trans m13).wr nD⟩
        · rw [i12.length, List.length_map, List.length_take]
          exact Nat.lt_of_le_of_lt (show min i sts.length ≤ 1000 by omega) (by decide)
        · rw [List.take_add_one, hst, List.map_append]
          exact ((i12.mv m13).append (.cons i13 .nil)).mv hw
      · obtain ⟨ys, e12, i12, m12⟩ := h12
        rw [hxl, List.take_length] at i12
        refine ⟨.ref x, rfl, x, T.C_Code, dx, T.p_Code_its_statements, _, 1, rfl, Slt.mv hs11 m12, T.c_Code, T.sl_Code_its_statements, ?_⟩
        have hx12 := m12.same _ _ hx11
        have hd12 := m12.same _ _ hd11
        refine q D _ ((m11.trans m12).sl nx ndx) (m11.free nD) ⟨dx, ys, slH_slt hne, hW0.mv ((m11.trans m12).sl nx ndx), ?_, ?_⟩
        · rw [slH_ne (by rintro rfl; rw [hx12] at e12; exact slO_nolst ys (Option.some.inj e12)) (by rintro rfl; rw [hd12] at e12; cases e12)]
          exact e12
        · rw [List.map_map]
          exact i12.mv (Mv.slB hne hx12 hd12)
end
end Fm
namespace Fm
open PySem PySem.Spec PyProof.Rows L2 SlX
local macro_rules | `(tactic| walk_at "nn") => `(tactic| dsimp only [tC, tNil, tCons, tCB, tCall, gName, tSeq, tAsg, tPar, tDrop, tRet])
local macro_rules | `(tactic| walk_at "nc") => `(tactic| dsimp only [tC, tNil, tCons, tCB, tCall])
def sp_stAt (K : PySem.W.Frag) (C CW D : Addr) : Sp := fun vs H Q E => ∃ (x wx : Addr) (rs : List ActR) (many given : Int) (sts : List Sta) (i : Int), vs = [.ref x, .int i] ∧ CodAt K H C CW x wx rs many given sts ∧
  (0 ≤ i → i < sts.length → ∀ v st H', sts[i.toNat]? = some st → Mv [] H H' → Im K H' v st.d → Q v H') ∧
  (¬ (0 ≤ i ∧ i < sts.length) → ∀ d H', Mv [] H H' → H' d = none → E (.ref D) (some d) (upd H' d (.xd [("place", .int i)])))
def isSet (sts : List Sta) (p : Int) : Bool := match sts[p.toNat]? with
  | some (.set _ _) => true
  | _ => false
def stp (sts : List Sta) (p : Int) : Int := match sts[p.toNat]? with
  | some (.set _ g) => g
  | _ => p
def orb (sts : List Sta) (p : Int) : Nat → Int
  | 0 => p
  | n + 1 => stp sts (orb sts p n)
def Shows (sts : List Sta) (p : Int) : Option Int → Prop
  | some q => ∃ n, orb sts p n = q ∧ isSet sts q = false
  | none => ∀ n, isSet sts (orb sts p n) = true
def optV : Option Int → V
  | some i => .int i
  | none => .non
def sp_showing (K : PySem.W.Frag) (C CW D : Addr) : Sp := fun vs H Q E => ∃ (x wx : Addr) (rs : List ActR) (many given : Int) (sts : List Sta) (i : Int), vs = [.ref x, .int i] ∧ CodAt K H C CW x wx rs many given sts ∧ sts.length ≤ 1000 ∧ (∀ chs g, Sta.set chs g ∈ sts → 0 ≤ g ∧ g < sts.length) ∧
  (0 ≤ i → i < sts.length → ∀ r H', Shows sts i r → Mv [] H H' → Q (optV r) H') ∧
  (¬ (0 ≤ i ∧ i < sts.length) → ∀ d H', Mv [] H H' → H' d = none → E (.ref D) (some d) (upd H' d (.xd [("place", .int i)])))
section
variable {P : Program} {w : World} {K : PySem.W.Frag} {mg : Str → Option Value} {base : Heap}
end
end Fm
namespace Fm
open PySem PySem.Spec PyProof.Rows L2
theorem asc_eq82 : ∀ {xs ys : List Int}, xs.Pairwise (· < ·) → ys.Pairwise (· < ·) → (∀ k, k ∈ xs ↔ k ∈ ys) → xs = ys
  | [], [], _, _, _ => rfl
  | [], y :: ys, _, _, h => by have := (h y).mpr (by simp); simp at this
  | x :: xs, [], _, _, h => by have := (h x).mp (by simp); simp at this
  | x :: xs, y :: ys, h1, h2, h => by
    have a1 := List.pairwise_cons.mp h1
    have a2 := List.pairwise_cons.mp h2
    have e : x = y := by
      have hx := (h x).mp (by simp)
      have hy := (h y).mpr (by simp)
      rcases List.mem_cons.mp hx with e | hx
      · exact e
      · rcases List.mem_cons.mp hy with e | hy
        · exact e.symm
        · have := a1.1 y hy
          have := a2.1 x hx
          omega
    subst e
    congr 1
    refine asc_eq82 a1.2 a2.2 fun k => ?_
    have hk := h k
    simp only [List.mem_cons] at hk
    constructor
    · intro z
      rcases hk.mp (.inr z) with e | e
      · have := a1.1 k z
        omega
      · exact e
    · intro z
      rcases hk.mpr (.inr z) with e | e
      · have := a2.1 k z
        omega
      · exact e
def gosS : Sta → List Int
  | .set _ g => [g]
  | .ask _ _ ws => ws.map (·.2.2)
  | .fin _ _ => []
def gosAt (sts : List Sta) (i : Int) : List Int := match sts[i.toNat]? with
  | some st => gosS st
  | none => []
def GoIn (sts : List Sta) : Prop := ∀ st ∈ sts, ∀ g ∈ gosS st, 0 ≤ g ∧ g < sts.length
theorem GoIn.at {sts : List Sta} (h : GoIn sts) {i g : Int} (hg : g ∈ gosAt sts i) : 0 ≤ g ∧ g < sts.length := by
  unfold gosAt at hg
  cases e : sts[i.toNat]? with
  | none => rw [e] at hg; cases hg
  | some st =>
    rw [e] at hg
    exact h st (List.mem_of_getElem? e) g hg
inductive Rch (sts : List Sta) (p : Int) : Int → Prop
  | step {x : Int} : x ∈ gosAt sts p → Rch sts p x
  | next {x y : Int} : Rch sts p x → y ∈ gosAt sts x → Rch sts p y
theorem rch_in {sts : List Sta} {p x : Int} {F : List Int} (h0 : ∀ x ∈ gosAt sts p, x ∈ F) (hc : ∀ x ∈ F, ∀ y ∈ gosAt sts x, y ∈ F) (h : Rch sts p x) : x ∈ F := by
  induction h with
  | step h => exact h0 _ h
  | next _ h ih => exact hc _ ih _ h
theorem Rch.in_ {sts : List Sta} {p x : Int} (hg : GoIn sts) (h : Rch sts p x) : 0 ≤ x ∧ x < sts.length := by
  cases h with
  | step h => exact hg.at h
  | next _ h => exact hg.at h
def ComeOf (sts : List Sta) (p : Int) (F : List Int) : Prop := F.Nodup ∧ ∀ x, x ∈ F ↔ Rch sts p x
def LoopOf (sts : List Sta) (p : Int) (L : List Int) : Prop := L.Pairwise (· < ·) ∧ ∀ x, x ∈ L ↔ Rch sts p x ∧ Rch sts x p
theorem loop_one {sts : List Sta} {p : Int} {L L' : List Int} (h : LoopOf sts p L) (h' : LoopOf sts p L') : L = L' := asc_eq82 h.1 h'.1 fun k => by rw [h.2, h'.2]
theorem nodup_few {F : List Int} {n : Nat} (hn : F.Nodup) (h : ∀ x ∈ F, 0 ≤ x ∧ x < n) : F.length ≤ n := by
  have h1 : (F.map Int.toNat).Nodup := by
    rw [List.nodup_iff_pairwise_ne] at hn ⊢
    rw [List.pairwise_map]
    exact hn.imp_of_mem fun {a b} ha hb hab e => hab (by have := h a ha; have := h b hb; omega)
  have h2 : (F.map Int.toNat) ⊆ List.range n := fun x hx => by
    obtain ⟨y, hy, rfl⟩ := List.mem_map.mp hx
    have := h y hy
    exact List.mem_range.mpr (by omega)
  have := h1.length_le_of_subset h2
  rw [List.length_map, List.length_range] at this
  exact this
structure Srch (sts : List Sta) (p : Int) (F W : List Int) : Prop where
  nd : F.Nodup
  rch : ∀ x ∈ F, Rch sts p x
  wat : ∀ x ∈ W, x = p ∨ x ∈ F
  cls : ∀ x, x = p ∨ x ∈ F → x ∈ W ∨ ∀ y ∈ gosAt sts x, y ∈ F
theorem Srch.start (sts : List Sta) (p : Int) : Srch sts p [] [p] := ⟨List.nodup_nil, (fun _ h => by cases h), fun x h => .inl (List.mem_singleton.mp h), fun x h => h.elim (fun e => .inl (by rw [e]; exact List.mem_singleton_self p)) fun h => by cases h⟩
theorem Srch.done {sts : List Sta} {p : Int} {F : List Int} (h : Srch sts p F []) : ComeOf sts p F := ⟨h.nd, fun x => ⟨h.rch x, fun r => rch_in (fun y hy => (h.cls p (.inl rfl)).elim (fun z => by cases z) fun z => z y hy) (fun y hy z hz => (h.cls y (.inr hy)).elim (fun z => by cases z) fun k => k z hz) r⟩⟩
structure Look (sts : List Sta) (p x : Int) (k : Nat) (F W : List Int) : Prop where
  nd : F.Nodup
  rch : ∀ y ∈ F, Rch sts p y
  src : x = p ∨ Rch sts p x
  wat : ∀ y ∈ W, y = p ∨ y ∈ F
  cls : ∀ y, y = p ∨ y ∈ F → y = x ∨ y ∈ W ∨ ∀ z ∈ gosAt sts y, z ∈ F
  seen : ∀ y ∈ (gosAt sts x).take k, y ∈ F
theorem Srch.look {sts : List Sta} {p x : Int} {F W : List Int} (h : Srch sts p F (W ++ [x])) : Look sts p x 0 F W :=
  ⟨h.nd, h.rch, (h.wat x (by simp)).imp id (h.rch x), fun y hy => h.wat y (by simp [hy]), fun y hy => (h.cls y hy).elim (fun z => by
    rcases List.mem_append.mp z with z | z
    · exact .inr (.inl z)
    · exact .inl (List.mem_singleton.mp z)) fun z => .inr (.inr z), fun y hy => by simp at hy⟩
theorem Look.old {sts : List Sta} {p x g : Int} {k : Nat} {F W : List Int} (h : Look sts p x k F W) (hg : (gosAt sts x)[k]? = some g) (hF : g ∈ F) : Look sts p x (k + 1) F W :=
  ⟨h.nd, h.rch, h.src, h.wat, h.cls, fun y hy => by
    rw [List.take_add_one, hg] at hy
    rcases List.mem_append.mp hy with z | z
    · exact h.seen y z
    · rw [show y = g by simpa using z]
      exact hF⟩
theorem Look.new {sts : List Sta} {p x g : Int} {k : Nat} {F W : List Int} (h : Look sts p x k F W) (hg : (gosAt sts x)[k]? = some g) (hF : g ∉ F) : Look sts p x (k + 1) (F ++ [g]) (W ++ [g]) := by
  have hm := List.mem_of_getElem? hg
  have hr : Rch sts p g := h.src.elim (fun e => .step (by rw [← e]; exact hm)) fun r => .next r hm
  refine ⟨?_, fun y hy => ?_, h.src, fun y hy => ?_, fun y hy => ?_, fun y hy => ?_⟩
  · rw [List.nodup_append]
    exact ⟨h.nd, by simp, fun a ha b hb e => hF (by rw [List.mem_singleton.mp hb] at e; rw [← e]; exact ha)⟩
  · rcases List.mem_append.mp hy with z | z
    · exact h.rch y z
    · rw [List.mem_singleton.mp z]
      exact hr
  · rcases List.mem_append.mp hy with z | z
    · exact (h.wat y z).imp id fun z => List.mem_append_left _ z
    · exact .inr (List.mem_append_right _ z)
  · have key : (y = p ∨ y ∈ F) ∨ y = g := hy.elim (fun z => .inl (.inl z)) fun z => (List.mem_append.mp z).elim (fun z => .inl (.inr z)) fun z => .inr (List.mem_singleton.mp z)
    rcases key with key | key
    · rcases h.cls y key with z | z | z
      · exact .inl z
      · exact .inr (.inl (List.mem_append_left _ z))
      · exact .inr (.inr fun u hu => List.mem_append_left _ (z u hu))
    · exact .inr (.inl (by rw [key]; simp))
  · rw [List.take_add_one, hg] at hy
    rcases List.mem_append.mp hy with z | z
    · exact List.mem_append_left _ (h.seen y z)
    · rw [show y = g by simpa using z]
      simp
theorem Look.done {sts : List Sta} {p x : Int} {k : Nat} {F W : List Int} (h : Look sts p x k F W) (hk : (gosAt sts x).length ≤ k) : Srch sts p F W :=
  ⟨h.nd, h.rch, h.wat, fun y hy => (h.cls y hy).elim (fun e => .inr (by
    have := h.seen
    rw [List.take_of_length_le hk] at this
    rw [e]
    exact this)) id⟩
def Rnd (sts : List Sta) (p : Int) (k : Nat) (F : List Int) : Prop := (∀ x ∈ F, Rch sts p x) ∧ (∀ x ∈ gosAt sts p, x ∈ F) ∧ ((∀ x ∈ F, ∀ y ∈ gosAt sts x, y ∈ F) ∨ ∃ G : List Int, G.Nodup ∧ (∀ x ∈ G, x ∈ F) ∧ k < G.length)
theorem rnd_start (sts : List Sta) (p : Int) : Rnd sts p 0 (gosAt sts p) := ⟨fun x h => .step h, fun x h => h, by
  cases e : gosAt sts p with
  | nil => exact .inl fun x h => by cases h
  | cons g gs => exact .inr ⟨[g], by simp, fun x h => by simp at h; simp [h], by simp⟩⟩
theorem rnd_next {sts : List Sta} {p : Int} {k : Nat} {F F' : List Int} (h : Rnd sts p k F) (h1 : ∀ x ∈ F, x ∈ F') (h2 : ∀ x ∈ F, ∀ y ∈ gosAt sts x, y ∈ F') (h3 : ∀ y ∈ F', y ∈ F ∨ ∃ x ∈ F, y ∈ gosAt sts x) : Rnd sts p (k + 1) F' := by
  obtain ⟨r1, r2, r3⟩ := h
  refine ⟨fun y hy => (h3 y hy).elim (r1 y) fun ⟨x, hx, hy⟩ => .next (r1 x hx) hy, fun x hx => h1 x (r2 x hx), ?_⟩
  by_cases hc : ∀ x ∈ F, ∀ y ∈ gosAt sts x, y ∈ F
  · refine .inl fun x hx y hy => h1 y ?_
    rcases h3 x hx with hx | ⟨z, hz, hx⟩
    · exact hc x hx y hy
    · exact hc x (hc z hz x hx) y hy
  · rcases r3 with r3 | ⟨G, g1, g2, g3⟩
    · exact absurd r3 hc
    · have : ∃ x ∈ F, ∃ y ∈ gosAt sts x, y ∉ F := by
        refine Classical.byContradiction fun hn => hc fun x hx y hy => Classical.byContradiction fun hyF => hn ⟨x, hx, y, hy, hyF⟩
      obtain ⟨x, hx, y, hy, hyF⟩ := this
      refine .inr ⟨y :: G, List.nodup_cons.mpr ⟨fun z => hyF (g2 y z), g1⟩, fun z hz => ?_, by rw [List.length_cons]; omega⟩
      rcases List.mem_cons.mp hz with rfl | hz
      · exact h2 x hx _ hy
      · exact h1 z (g2 z hz)
theorem rnd_done {sts : List Sta} {p : Int} {F : List Int} (hg : GoIn sts) (h : Rnd sts p sts.length F) (x : Int) : x ∈ F ↔ Rch sts p x := by
  obtain ⟨r1, r2, r3⟩ := h
  refine ⟨r1 x, fun r => ?_⟩
  rcases r3 with r3 | ⟨G, g1, g2, g3⟩
  · exact rch_in r2 r3 r
  · have := nodup_few (n := sts.length) g1 fun y hy => (r1 y (g2 y hy)).in_ hg
    omega
end Fm
namespace Fm
open PySem PySem.Spec PyProof.Rows L2
theorem lc_fm {α : Type} {K : PySem.W.Frag} {a : Addr} {xs : List V} {as : List α} {enc : α → PyData} {g : TG} {tt : TT} {te : TE} {vs : List Nat} {σ : L2.St} {H : Hp} {Qd : Addr → Hp → Prop} (f : α → Option PyData) (hS : SqL K H a xs ∨ SqT K H a xs) (hds : Ims K H xs (as.map enc)) (hlen : as.length ≤ 10000)
    (hs : ∀ x e H' (Q : VK) (R : Hp → Prop), e ∈ as → Im K H' x (enc e) → Mv [] H H' → (∀ d, f e = some d → ∀ y H4, Mv [] H' H4 → Im K H4 y d → Q y H4) → (f e = none → ∀ H3, Mv [] H' H3 → R H3) →
      g x (wipe σ vs) H' fun σ2 H2 => wipe σ2 vs = wipe σ vs ∧ tt σ2 H2 fun b H3 => if b = true then te σ2 H3 Q else R H3)
    (hd : ∀ D ys H', H D = none → H' D = some (.lst ys) → Ims K H' ys (as.filterMap f) → Mv [] H H' → Qd D H') :
    ((∃ xs, SqL K H a xs) ∧ ∀ D, H D = none → ∃ W : Nat → Nat → Hp → Prop, (∃ m, W 0 m (upd H D (.lst []))) ∧ ∀ i m H, W i m H →
      ((Itl K a).stop i H ∧ Qd D H) ∨ ((Itl K a).go i H ∧ ∃ Nx : Hp → Prop, (∀ H', Nx H' → ∃ m', m' < m ∧ W (i + 1) m' H') ∧ ∀ x H', (Itl K a).yld i H x H' → g x (wipe σ vs) H' fun σ2 H2 => wipe σ2 vs = wipe σ vs ∧ tt σ2 H2 fun b H3 =>
        if b = true then te σ2 H3 fun y H4 => ∃ acc, H4 D = some (.lst acc) ∧ acc.length < sizeLine ∧ Nx (upd H4 D (.lst (acc ++ [y]))) else Nx H3)) ∨
    ((∃ xs, SqT K H a xs) ∧ ∀ D, H D = none → ∃ W : Nat → Nat → Hp → Prop, (∃ m, W 0 m (upd H D (.lst []))) ∧ ∀ i m H, W i m H →
      ((Itt K a).stop i H ∧ Qd D H) ∨ ((Itt K a).go i H ∧ ∃ Nx : Hp → Prop, (∀ H', Nx H' → ∃ m', m' < m ∧ W (i + 1) m' H') ∧ ∀ x H', (Itt K a).yld i H x H' → g x (wipe σ vs) H' fun σ2 H2 => wipe σ2 vs = wipe σ vs ∧ tt σ2 H2 fun b H3 =>
        if b = true then te σ2 H3 fun y H4 => ∃ acc, H4 D = some (.lst acc) ∧ acc.length < sizeLine ∧ Nx (upd H4 D (.lst (acc ++ [y]))) else Nx H3)) := by
  have hxl := hds.length
  rw [List.length_map] at hxl
  refine lc_seq hS (fun i D H1 => ∃ ys, H1 D = some (.lst ys) ∧ Ims K H1 ys ((as.take i).filterMap f) ∧ Mv [] H H1)
    (fun D nD => ⟨[], upd_same, .nil, .new nD⟩) (fun i D H1 nD h1 => h1.choose_spec.2.2) (fun D nD i x H1 hx h1 => ?_) (fun D H1 nD h1 => ?_)
  · obtain ⟨ys, e1, i1, m1⟩ := h1
    obtain ⟨dd, hdd, him⟩ := hds.get hx
    rw [List.getElem?_map] at hdd
    obtain ⟨e, he, rfl⟩ := Option.map_eq_some_iff.mp hdd
    have hil := (List.getElem?_eq_some_iff.mp he).1
    have htk : as.take (i + 1) = as.take i ++ [e] := by rw [List.take_add_one, he]; rfl
    refine hs x e H1 _ _ (List.mem_of_getElem? he) (him.mv m1) m1 (fun d hfd y H4 m4 hy => ?_) (fun hfn H3 m3 => ?_)
    · have e4 := m4.same _ _ e1
      refine ⟨ys, e4, ?_, ys ++ [y], upd_same, ?_, (m1.trans m4).wr nD⟩
      · rw [i1.length]
        have h3 : ((as.take i).filterMap f).length ≤ (as.take i).length := List.length_filterMap_le _ _
        rw [List.length_take] at h3
        exact Nat.lt_of_le_of_lt (show _ ≤ 10000 by omega) (by decide)
      · have : (as.take (i + 1)).filterMap f = (as.take i).filterMap f ++ [d] := by
          rw [htk, List.filterMap_append]
          simp [hfd]
        rw [this]
        exact ((i1.mv m4).append (.cons hy .nil)).mv (Mv.set (S := [D]) e4 (by simp))
    · have : (as.take (i + 1)).filterMap f = (as.take i).filterMap f := by
        rw [htk, List.filterMap_append]
        simp [hfn]
      refine ⟨ys, m3.same _ _ e1, ?_, m1.trans m3⟩
      rw [this]
      exact i1.mv m3
  · obtain ⟨ys, e1, i1, m1⟩ := h1
    rw [hxl, List.take_length] at i1
    exact hd D ys H1 nD e1 i1 m1
end Fm
namespace Fm
open PySem PySem.Spec PyProof.Rows L2
local macro_rules | `(tactic| walk_at "nn") => `(tactic| dsimp only [tC, tNil, tCons, tCB, tCall, gName, tSeq, tAsg, tPar, tDrop, tRet])
def Look1 (K : PySem.W.Frag) (H : Hp) (vals : V) (P : Int → Prop) (f : Int → Tm) : Prop := ∃ a, vals = .ref a ∧
  ((∃ xs, SqL K H a xs ∧ ∀ i, P i → 0 ≤ i ∧ ∃ v, xs[i.toNat]? = some v ∧ Im K H v (f i).d) ∨
   (∃ xs, SqT K H a xs ∧ ∀ i, P i → 0 ≤ i ∧ ∃ v, xs[i.toNat]? = some v ∧ Im K H v (f i).d) ∨
   (∃ kvs, H a = some (.dK kvs) ∧ ∀ i, P i → ∃ v, valV kvs (.inl i) = some v ∧ Im K H v (f i).d))
theorem Look1.mv {K : PySem.W.Frag} {H H' : Hp} {vals : V} {P : Int → Prop} {f : Int → Tm} (h : Look1 K H vals P f) (m : Mv [] H H') : Look1 K H' vals P f := by
  obtain ⟨a, rfl, h⟩ := h
  refine ⟨a, rfl, ?_⟩
  rcases h with ⟨xs, h1, h2⟩ | ⟨xs, h1, h2⟩ | ⟨xs, h1, h2⟩
  · refine .inl ⟨xs, m.same.seq h1, fun i hi => ?_⟩
    obtain ⟨h0, v, hv, hm⟩ := h2 i hi
    exact ⟨h0, v, hv, hm.mv m⟩
  · refine .inr (.inl ⟨xs, m.sqT h1, fun i hi => ?_⟩)
    obtain ⟨h0, v, hv, hm⟩ := h2 i hi
    exact ⟨h0, v, hv, hm.mv m⟩
  · refine .inr (.inr ⟨xs, m.same _ _ h1, fun i hi => ?_⟩)
    obtain ⟨v, hv, hm⟩ := h2 i hi
    exact ⟨v, hv, hm.mv m⟩
def sp_put (K : PySem.W.Frag) (d : Nat) : Sp := fun vs H Q _ => ∃ (v vals : V) (t : Tm) (P : Int → Prop) (f : Int → Tm), vs = [v, vals] ∧ Im K H v t.d ∧ t.ok P ∧ t.dep < d ∧ Look1 K H vals P f ∧
  ∀ v' H', Mv [] H H' → Im K H' v' (t.put f).d → Q v' H'
section
variable {P : Program} {w : World} {K : PySem.W.Frag} {mg : Str → Option Value} {base : Heap}

theorem ok_put (T : TX K mg) : ∀ d : Nat, FnOk P w K mg base CX0 (d + 1) T.d_put.f T.d_put.fd P_put (sp_put K d)
  | 0 => ⟨fun vs H Q E h => by obtain ⟨_, _, _, _, _, _, _, _, h, _⟩ := h; omega, fun _ _ _ _ _ _ _ _ _ _ _ _ _ h => by obtain ⟨_, _, _, _, _, _, _, _, h, _⟩ := h; omega⟩
  | d + 1 => by
    have G_put := ok_put T d
    refine T.d_put.F.ok sc_put (fun vs H Q E h => ?_) (fun cdv A outer s H vs Q E hr h => ?_)
    · obtain ⟨_, _, _, _, _, rfl, _⟩ := h
      rfl
    · obtain ⟨v, vals, t, R, f, rfl, him, hok, hdp, hlk, q⟩ := h
      have hu1 := hu_of hr
      refine ⟨_, (pss_cons (ps_if (pt_val (pe_callB (r := rIsi K) call_isi (by rfl) T.b_isinstance bt_isinstance (pa_cons (pv 0) (pa_cons (pe_ty T.b_int bt_int) pa_nil)))) (pss_one (ps_ret (pe_or2 (pe_ix (r := rIx K) ix_seq (pv 1) (pv 0) (fun _ _ => rfl)) (pe_dget hu1 (pv 1) (pv 0) (fun _ _ => rfl))))) pss_nil) (pss_one (ps_ret (pe_op (r := rAddG K) op_addG (pe_slice (r := rSlG K) sl_G (pv 0) po_none (po_some pe_int)) (pe_callTy (r := rTupOf K) call_tupG (by rfl) T.b_tuple bt_tuple (pa_cons (pe_lc (own := [("part", 2)]) (g := gName 2) (by rfl) sc_put.nd (pi_seq (pe_slice (r := rSlG K) sl_G (pv 0) (po_some pe_int) po_none)) (blkOk_by (own := [("part", 2)]) (N := N_put) (sc := defScope s_put) (by decide +kernel)) (fun _ _ _ _ _ => pg_name (i := 2) sc_put.nd rfl (Or.inl rfl)) (fun _ _ _ _ _ => pts_nil) (fun _ _ _ _ _ => (pe_call G_put (hr.mono (by omega)) rfl T.d_put.g T.d_put.F.kp T.d_put.b .nil pass0 (pa_cons (pv 2) (pa_cons (pv 1) pa_nil))))) pa_nil)))))), ?_⟩
      refine ⟨v, rfl, ?_⟩
      walk_at "nn"
      refine rd_isInt him ?_
      refine ⟨_, rfl, ?_⟩
      cases t with
      | var i =>
        cases him.intI
        obtain ⟨a, rfl, hlk⟩ := hlk
        rcases hlk with ⟨xs, h1, h2⟩ | ⟨xs, h1, h2⟩ | ⟨xs, h1, h2⟩
        · obtain ⟨h0, y, hy, hm⟩ := h2 i hok
          exact Or.inl ⟨.ref a, rfl, .int i, rfl, rd_ixL h1 h0 hy (q _ _ .refl hm)⟩
        · obtain ⟨h0, y, hy, hm⟩ := h2 i hok
          exact Or.inl ⟨.ref a, rfl, .int i, rfl, rd_ixT h1 h0 hy (q _ _ .refl hm)⟩
        · obtain ⟨y, hy, hm⟩ := h2 i hok
          exact Or.inr ⟨.ref a, rfl, .int i, rfl, a, y, rfl, by rw [← hy]; exact DGet.k (k := .inl i) h1, q _ _ .refl hm⟩
      | op x ts =>
        obtain ⟨a, xs0, rfl, ha, hxs⟩ := him.tupI
        obtain ⟨x', xs, rfl, hx', hys⟩ := hxs.invD
        cases hx'.strI
        refine ⟨.ref a, rfl, 1, rfl, rd_slA ha fun p1 H1 m1 e1 => ⟨.ref a, rfl, 1, rfl, rd_sl1 (m1.sqT ha) fun p2 H2 m2 e2 => ⟨p2, rfl, Or.inr ⟨⟨_, e2⟩, fun D nD => ?_⟩⟩⟩⟩
        have m12 := m1.trans m2
        have hl : xs.length = ts.length := by rw [hys.length, Tm.ds_map, List.length_map]
        refine lc_tup (K := K) (a := p2) (xs := xs) (fun i H3 => ∃ ys, H3 D = some (.lst ys) ∧ Ims K H3 ys (Tm.ds ((ts.take i).map (Tm.put f))) ∧ Mv [] H2 H3)
          ⟨[], upd_same, Ims.nil, .new nD⟩ (fun i H3 _ h3 => ?_) (fun i z H3 hz h3 => ?_) (fun H3 h3 => ?_)
        · obtain ⟨ys, _, _, m3⟩ := h3
          exact m3.sqT e2
        · obtain ⟨ys, e3, i3, m3⟩ := h3
          obtain ⟨zd, hzd, hzi⟩ := hys.get hz
          rw [Tm.ds_map, List.getElem?_map] at hzd
          obtain ⟨zt, hzt, rfl⟩ := Option.map_eq_some_iff.mp hzd
          have hmem := List.mem_of_getElem? hzt
          refine ⟨rfl, z, rfl, vals, rfl, z, vals, zt, R, f, rfl, hzi.mv (m12.trans m3), Tm.oks_iff.mp hok.2.2 zt hmem, ?_, hlk.mv (m12.trans m3), fun y H4 m4 h4 => ?_⟩
          · have h5 := Tm.deps_le.mp (show Tm.deps ts ≤ Tm.deps ts from Nat.le_refl _) zt hmem
            simp only [Tm.dep] at hdp
            omega
          · have e4 := m4.same _ _ e3
            refine ⟨_, e4, ?_, ys ++ [y], upd_same, ?_, (m3.trans m4).wr nD⟩
            · have h6 := (List.getElem?_eq_some_iff.mp hzt).1
              have h7 := hok.2.1
              rw [i3.length, Tm.ds_map, List.length_map, List.length_map, List.length_take]
              exact small1000 (by omega)
            · rw [List.take_add_one, hzt]
              rw [show Tm.ds (List.map (Tm.put f) (ts.take i ++ (some zt).toList)) = Tm.ds ((ts.take i).map (Tm.put f)) ++ [(zt.put f).d] by simp [Tm.ds_map]]
              exact ((i3.mv m4).append (Ims.cons h4 Ims.nil)).mv (Mv.set (S := [D]) e4 (by simp))
        · obtain ⟨ys, e3, i3, m3⟩ := h3
          rw [hl, List.take_length] at i3
          walk_at "nn"
          refine rd_tupOf (.inl (.inl e3)) fun p4 H4 m4 e4 => ?_
          refine rd_cat (m4.sqT (m3.sqT (m2.sqT e1))) e4 ?_ fun p5 H5 m5 e5 => ?_
          · have h7 := hok.2.1
            rw [i3.length, Tm.ds_map, List.length_map, List.length_map]
            exact Nat.le_of_lt (small1000 (by simp; omega))
          · refine q _ H5 (((m12.trans m3).trans m4).trans m5) (Im.tup e5 (Ims.cons (Im.str x) ?_))
            rw [← Tm.puts_map] at i3
            exact (i3.mv m4).mv m5

end
end Fm
namespace Fm
open PySem PySem.Spec PyProof.Rows L2
local macro_rules | `(tactic| walk_at "nn") => `(tactic| dsimp only [tC, tNil, tCons, tCB, tCall, gName, tSeq, tAsg, tPar, tDrop, tRet])
theorem line5lt {n : Nat} (h : n ≤ 100000) : n < sizeLine := Nat.lt_of_le_of_lt h (by decide)
theorem Tm.lv_mem : ∀ {t : Tm} {ts : List Tm}, t ∈ ts → t.lv ≤ Tm.lvs ts
  | t, u :: ts, h => by
    rcases List.mem_cons.mp h with rfl | h
    · simp only [Tm.lvs]; omega
    · have := Tm.lv_mem h
      simp only [Tm.lvs]; omega
def sp_leavesR (K : PySem.W.Frag) (d : Nat) : Sp := fun vs H Q _ => ∃ (a : Addr) (xs : List V) (ts : List Tm), vs = [.ref a] ∧ (SqL K H a xs ∨ SqT K H a xs) ∧ Ims K H xs (Tm.ds ts) ∧ Tm.deps ts < d ∧ Tm.lvs ts ≤ 100000 ∧
  ∀ p H', H p = none → Mv [] H H' → H' p = some (.lst ((Tm.leavesL ts).map V.int)) → Q (.ref p) H'
def sp_sizeR (K : PySem.W.Frag) (d : Nat) : Sp := fun vs H Q _ => ∃ (a : Addr) (xs : List V) (ts : List Tm), vs = [.ref a] ∧ (SqL K H a xs ∨ SqT K H a xs) ∧ Ims K H xs (Tm.ds ts) ∧ Tm.deps ts < d ∧ ts.length ≤ 100000 ∧ Tm.oks (fun _ => True) ts ∧
  ∀ H', Mv [] H H' → Q (.int (Tm.sizes ts)) H'
section
variable {P : Program} {w : World} {K : PySem.W.Frag} {mg : Str → Option Value} {base : Heap}
end
end Fm
namespace Fm
open PySem PySem.Spec PyProof.Rows L2
local macro_rules | `(tactic| walk_at "nn") => `(tactic| dsimp only [tC, tNil, tCons, tCB, tCall, gName, tSeq, tAsg, tPar, tDrop, tRet])
local macro_rules | `(tactic| walk_at "nc") => `(tactic| dsimp only [tC, tNil, tCons, tCB])
structure Nms (H : Hp) (b nm : Addr) (xs : List Str) : Prop where
  at_ : H nm = some (.lst (xs.map V.str))
  ne : nm ≠ b
  some_ : xs ≠ []
  few : xs.length ≤ 1000
  ok : ∀ x ∈ xs, Nm x
theorem Nms.dr {H H' : Hp} {b nm : Addr} {xs : List Str} (h : Nms H b nm xs) (d : Dr b H H') : Nms H' b nm xs := ⟨d.get h.ne h.at_, h.ne, h.some_, h.few, h.ok⟩
def sp_alike (K : PySem.W.Frag) : Sp := fun vs H Q _ => ∃ (x y : V) (d : PyData), vs = [x, y] ∧ Dp K H x d ∧ Dp K H y d ∧ Shw d ∧ Q (.bl true) H
section
variable {P : Program} {w : World} {K : PySem.W.Frag} {mg : Str → Option Value} {base : Heap}
theorem ok__law_alike (T : TX K mg) {k : Nat} : FnOkG P w K mg base CX0 (k + 1) T.d__law_alike.f T.d__law_alike.fd P__law_alike (sp_alike K) := by
  refine okG T.d__law_alike.F sc__law_alike (fun vs H Q E h => ?_) (fun cdv A outer s H vs Q E hgd hr h => ?_)
  · obtain ⟨_, _, _, rfl, _⟩ := h
    rfl
  · obtain ⟨x, y, d, rfl, hx, hy, hs, q⟩ := h
    have hu64 := hr.units
    refine ⟨_, (pss_one (ps_ret (pe_and (pe_cmpR (r := rEqG K) (op_eqG hu64) (pv 0) (pv 1) (nomark _)) (pe_one (pe_cmpR (r := rEqG K) (op_eqG hu64) (pe_callB (r := rReprG K) (call_reprG hgd hu64) (by rfl) T.b_repr bt_repr (pa_cons (pv 0) pa_nil)) (pe_callB (r := rReprG K) (call_reprG hgd hu64) (by rfl) T.b_repr bt_repr (pa_cons (pv 1) pa_nil)) (nomark _)))))), ?_⟩
    have hf := fine_lay d hs.fi
    refine ⟨x, rfl, y, rfl, Or.inr ⟨d, d, hx, hy, hs.shaped, hs.shaped, _, rfl, ?_⟩⟩
    rw [hs.eqv]
    refine ⟨x, rfl, ?_⟩
    walk_at "nc"
    refine ⟨x, d, rfl, hx, hf.2.1, hf.2.2, hs.dp, hs.len, y, rfl, ?_⟩
    refine ⟨y, d, rfl, hy, hf.2.1, hf.2.2, hs.dp, hs.len, Or.inl ⟨rfl, ?_⟩⟩
    rw [decide_eq_true rfl]
    exact q
theorem ints_shaped : ∀ o : List Int, SeqAt.shaped (.list (o.map PyData.int)) = true := fun o => by
  have h1 : ∀ o : List Int, PyData.canLayAll0 (o.map PyData.int) = true := fun o => by
    induction o with
    | nil => rfl
    | cons x o ih => simp [PyData.canLayAll0, PyData.canLay0, ih]
  have h2 : ∀ o : List Int, PyData.depthAll (o.map PyData.int) = 0 := fun o => by
    induction o with
    | nil => rfl
    | cons x o ih => simp [PyData.depthAll, PyData.depth, ih]
  show (PyData.canLay0 (.list (o.map PyData.int)) && decide (PyData.depth (.list (o.map PyData.int)) ≤ 64)) = true
  simp only [PyData.canLay0, PyData.depth, h1, h2]
  rfl
theorem dp_ints {H : Hp} : ∀ o : List Int, DpAll K H (o.map V.int) (o.map PyData.int)
  | [] => .nil
  | x :: o => .cons (.int x) (dp_ints o)
theorem ints_any (o : List Int) (u : Int) : ((o.map PyData.int).any fun z => PyData.eqv z (.int u)) = decide (u ∈ o) := by
  rw [List.any_map]
  have e : ((fun z => PyData.eqv z (.int u)) ∘ PyData.int) = fun z => z == u := by
    funext z
    simp [PyData.eqv]
  rw [e, Bool.eq_iff_iff]
  simp
end
end Fm
namespace Fm
open PySem PySem.Spec PyProof.Rows L2
local macro_rules | `(tactic| walk_at "nn") => `(tactic| dsimp only [tC, tNil, tCons, tCB, tCall, gName, tSeq, tAsg, tPar, tDrop, tRet])
def sp_mixG (K : PySem.W.Frag) : Sp := fun vs H Q _ => ∃ (b l : Addr) (xs : List V), vs = [.ref b, .ref l] ∧ Bag H b ∧ ((H l = some (.lst xs) ∧ l ≠ b) ∨ SqT K H l xs) ∧ xs.length ≤ 1000 ∧
  ∀ (p : Addr) (ys : List V) H', ys.Perm xs → H p = none → H' p = some (.lst ys) → Dr b H H' → Q (.ref p) H'
theorem perm_ins {α : Type} (ms : List α) (j : Nat) (u : α) : (ms.take j ++ [u] ++ ms.drop j).Perm (ms ++ [u]) := by
  have h1 : (ms.take j ++ [u] ++ ms.drop j).Perm (ms.take j ++ (ms.drop j ++ [u])) := by
    rw [List.append_assoc]
    exact List.Perm.append_left _ List.perm_append_comm
  rw [← List.append_assoc, List.take_append_drop] at h1
  exact h1
section
variable {P : Program} {w : World} {K : PySem.W.Frag} {mg : Str → Option Value} {base : Heap}
theorem ok__law_mixed (T : TX K mg) {k : Nat} : FnOk P w K mg base CX0 (k + 2) T.d__law_mixed.f T.d__law_mixed.fd P__law_mixed (sp_mixG K) := by
  have G__law_take : FnOk P w K mg base CX0 1 T.d__law_take.f T.d__law_take.fd P__law_take sp_take := ok__law_take T
  refine T.d__law_mixed.F.ok sc__law_mixed (fun vs H Q E h => ?_) (fun cdv A outer s H vs Q E hr h => ?_)
  · obtain ⟨_, _, _, rfl, _⟩ := h
    rfl
  · obtain ⟨b, l, xs, rfl, hB, hl, hln, q⟩ := h
    refine ⟨_, (pss_cons (ps_set (i := 2) sc__law_mixed.nd rfl (Or.inl rfl) (pe_lst pa_nil)) (pss_cons (ps_for PassesOwn.never rfl (pi_seq (pv 1)) (pg_name (i := 3) sc__law_mixed.nd rfl (Or.inl rfl)) (pss_one (ps_expr (pe_bm PySem.F.plainAttrs_list PySem.F.slot_list_insert PySem.F.type_list_insert mt_insert (pv 2) (pa_cons (pe_call G__law_take (hr.mono (by omega)) rfl T.d__law_take.g T.d__law_take.F.kp T.d__law_take.b .nil pass0 (pa_cons (pv 0) (pa_cons (pe_op (r := rAddG K) op_addG (pe_callB (r := rLenG K) call_lenG (by rfl) T.b_len bt_len (pa_cons (pv 2) pa_nil)) pe_int) pa_nil))) (pa_cons (pv 3) pa_nil)))))) (pss_one (ps_ret (pv 2))))), ?_⟩
    refine ⟨Nat.zero_le _, fun p np => ⟨.ref l, rfl, l, rfl, ?_⟩⟩
    have hpb : p ≠ b := hB.fneq np
    rcases hl with ⟨hl, hlb⟩ | hl
    · refine Or.inl ⟨⟨_, .inl (.inl (same_new np _ _ hl))⟩, ?_⟩
      refine for_list (K := K) (a := l) (xs := xs) (fun i σ H2 => ∃ (ms : List V) (y : Option V), σ = [some (.ref b), some (.ref l), some (.ref p), y] ∧ H2 p = some (.lst ms) ∧ ms.Perm (xs.take i) ∧ Dr b H H2)
        ⟨[], none, rfl, upd_same, by simp, Dr.new np⟩ (fun i σ H2 _ h2 => ?_) (fun i x σ H2 hx h2 => ?_) (fun σ H2 h2 => ?_)
      · obtain ⟨_, _, _, _, _, d⟩ := h2
        exact .inl (.inl (d.get hlb hl))
      · obtain ⟨ms, y, rfl, e2, s2, d2⟩ := h2
        have hi := (List.getElem?_eq_some_iff.mp hx).1
        have l2 : ms.length = i := by rw [s2.length_eq, List.length_take]; omega
        refine ⟨.ref p, rfl, .inl ⟨rfl, _, .inl (.inl e2)⟩, .ref b, rfl, .ref p, rfl, ?_⟩
        walk_at "nn"
        refine rd_len (.inl (.inl (.inl e2))) ?_
        refine Or.inl ⟨_, 1, rfl, rfl, b, _, rfl, d2.bag hB, by omega, by omega, fun j H3 hj0 hj1 d3 => ?_⟩
        have e3 := d3.get hpb e2
        refine ⟨x, rfl, p, _, j, x, rfl, rfl, e3, small1000 (by omega), hj0, by omega, ?_⟩
        refine ⟨ms.take j.toNat ++ [x] ++ ms.drop j.toNat, _, rfl, ?_, ?_, (d2.trans d3).wr np⟩
        · rw [upd_same]
          first | done | simp
        · rw [List.take_add_one, hx]
          exact (perm_ins ms j.toNat x).trans (s2.append_right _)
      · obtain ⟨ms, y, rfl, e2, s2, d2⟩ := h2
        rw [List.take_length] at s2
        exact ⟨.ref p, rfl, q p ms H2 s2 np e2 d2⟩
    · refine Or.inr ⟨⟨_, (Mv.new (S := []) np).sqT hl⟩, ?_⟩
      refine for_tup (K := K) (a := l) (xs := xs) (fun i σ H2 => ∃ (ms : List V) (y : Option V), σ = [some (.ref b), some (.ref l), some (.ref p), y] ∧ H2 p = some (.lst ms) ∧ ms.Perm (xs.take i) ∧ Dr b H H2)
        ⟨[], none, rfl, upd_same, by simp, Dr.new np⟩ (fun i σ H2 _ h2 => ?_) (fun i x σ H2 hx h2 => ?_) (fun σ H2 h2 => ?_)
      · obtain ⟨_, _, _, _, _, d⟩ := h2
        exact d.mv.sqT hl
      · obtain ⟨ms, y, rfl, e2, s2, d2⟩ := h2
        have hi := (List.getElem?_eq_some_iff.mp hx).1
        have l2 : ms.length = i := by rw [s2.length_eq, List.length_take]; omega
        refine ⟨.ref p, rfl, .inl ⟨rfl, _, .inl (.inl e2)⟩, .ref b, rfl, .ref p, rfl, ?_⟩
        walk_at "nn"
        refine rd_len (.inl (.inl (.inl e2))) ?_
        refine Or.inl ⟨_, 1, rfl, rfl, b, _, rfl, d2.bag hB, by omega, by omega, fun j H3 hj0 hj1 d3 => ?_⟩
        have e3 := d3.get hpb e2
        refine ⟨x, rfl, p, _, j, x, rfl, rfl, e3, small1000 (by omega), hj0, by omega, ?_⟩
        refine ⟨ms.take j.toNat ++ [x] ++ ms.drop j.toNat, _, rfl, ?_, ?_, (d2.trans d3).wr np⟩
        · rw [upd_same]
          first | done | simp
        · rw [List.take_add_one, hx]
          exact (perm_ins ms j.toNat x).trans (s2.append_right _)
      · obtain ⟨ms, y, rfl, e2, s2, d2⟩ := h2
        rw [List.take_length] at s2
        exact ⟨.ref p, rfl, q p ms H2 s2 np e2 d2⟩
end
end Fm
namespace Fm
open PySem PySem.Spec PyProof.Rows L2 SlX
local macro_rules | `(tactic| walk_at "nn") => `(tactic| dsimp only [tC, tNil, tCons, tCB, tCall, gName, tSeq, tAsg, tPar, tDrop, tRet])
local macro_rules | `(tactic| walk_at "nc") => `(tactic| dsimp only [tC, tNil, tCons, tCB, tCall])
end Fm
namespace Fm
open PySem PySem.Spec PyProof.Rows L2
local macro_rules | `(tactic| walk_at "nn") => `(tactic| dsimp only [tC, tNil, tCons, tCB, tCall, gName, tSeq, tAsg, tPar, tDrop, tRet])
local macro_rules | `(tactic| walk_at "nc") => `(tactic| dsimp only [tC, tNil, tCons, tCB, tCall])
def sp_waysS (K : PySem.W.Frag) : Sp := fun vs H Q _ => ∃ (v : V) (st : Sta), vs = [v] ∧ Im K H v st.d ∧ (gosS st).length ≤ 1000 ∧ ∀ p H', H p = none → Mv [] H H' → H' p = some (.lst ((gosS st).map V.int)) → Q (.ref p) H'
def sp_comeTo (K : PySem.W.Frag) : Sp := fun vs H Q _ => ∃ (l : Addr) (xs : List V) (sts : List Sta) (p : Int), vs = [.ref l, .int p] ∧ H l = some (.lst xs) ∧ Ims K H xs (sts.map Sta.d) ∧ GoIn sts ∧ (∀ st ∈ sts, (gosS st).length ≤ 1000) ∧ sts.length ≤ 1000 ∧ 0 ≤ p ∧ p < sts.length ∧ ∀ q F H', H q = none → Mv [] H H' → H' q = some (.lst (F.map V.int)) → ComeOf sts p F → Q (.ref q) H'
theorem eq_str82 {x : Str} : decide (V.str x = V.str x) = true := decide_eq_true rfl
theorem ims_ints82 {K : PySem.W.Frag} {H : Hp} : ∀ {ns : List Int} {xs : List V}, Ims K H xs (ns.map PyData.int) → xs = ns.map V.int
  | [], _, h => h.nilD
  | n :: ns, _, h => by
    obtain ⟨v, vs, rfl, h1, h2⟩ := h.invD
    cases h1.intI
    rw [ims_ints82 h2]
    rfl
theorem rd_notIn82 {K : PySem.W.Frag} {H : Hp} {Q : VK} {a : Addr} {F : List Int} {g : Int} (ha : H a = some (.lst (F.map V.int))) (q : Q (.bl (!decide (g ∈ F))) H) : rNotInG K (.int g) (.ref a) H Q := by
  refine Or.inl ⟨.int g, F.map PyData.int, .int g, .lst (.inl (.inl ha)) (dp_ints F), rfl, ints_shaped F, ?_⟩
  rw [ints_any]
  exact q
theorem rd_in82 {K : PySem.W.Frag} {H : Hp} {Q : VK} {a : Addr} {F : List Int} {g : Int} (ha : H a = some (.lst (F.map V.int))) (q : Q (.bl (decide (g ∈ F))) H) : rInG K (.int g) (.ref a) H Q := by
  refine Or.inl ⟨.int g, F.map PyData.int, .int g, .lst (.inl (.inl ha)) (dp_ints F), rfl, ints_shaped F, ?_⟩
  rw [ints_any]
  exact q
section
variable {P : Program} {w : World} {K : PySem.W.Frag} {mg : Str → Option Value} {base : Heap}
theorem ok_ways_fromS (T : TX K mg) {k : Nat} : FnOk P w K mg base CX0 (k + 1) T.d_ways_from.f T.d_ways_from.fd P_ways_from (sp_waysS K) := by
  refine T.d_ways_from.F.ok sc_ways_from (fun vs H Q E h => ?_) (fun cdv A outer s H vs Q E hr h => ?_)
  · obtain ⟨_, _, rfl, _⟩ := h
    rfl
  · obtain ⟨v, st, rfl, hv, hl, q⟩ := h
    have hu64 := hr.units
    refine ⟨_, (pss_cons (ps_if (pt_cmpR (r := rEqG K) (op_eqG hu64) (pe_ix (r := rIx K) ix_seq (pv 0) pe_int (fun _ _ => rfl)) pe_str (nomark _)) (pss_one (ps_ret (pe_lst (pa_cons (pe_ix (r := rIx K) ix_seq (pv 0) pe_int (fun _ _ => rfl)) pa_nil)))) pss_nil) (pss_cons (ps_if (pt_cmpR (r := rEqG K) (op_eqG hu64) (pe_ix (r := rIx K) ix_seq (pv 0) pe_int (fun _ _ => rfl)) pe_str (nomark _)) (pss_one (ps_ret (pe_lc (own := [("way", 1)]) (g := gName 1) (by rfl) sc_ways_from.nd (pi_seq (pe_ix (r := rIx K) ix_seq (pv 0) pe_int (fun _ _ => rfl))) (blkOk_by (own := [("way", 1)]) (N := N_ways_from) (sc := defScope s_ways_from) (by decide +kernel)) (fun _ _ _ _ _ => pg_name (i := 1) sc_ways_from.nd rfl (Or.inl rfl)) (fun _ _ _ _ _ => pts_nil) (fun _ _ _ _ _ => (pe_ix (r := rIx K) ix_seq (pv 1) pe_int (fun _ _ => rfl)))))) pss_nil) (pss_one (ps_ret (pe_lst pa_nil))))), ?_⟩
    cases st with
    | set chs g =>
      obtain ⟨a, x0, x1, x2, rfl, ha, j0, j1, j2⟩ := hv.tup3
      cases j0.strI
      cases j2.intI
      refine ⟨.ref a, rfl, rd_ixT ha (by decide) (v := .str "set") rfl (Or.inl ⟨rfl, _, rfl, ?_⟩)⟩
      rw [eq_str82]
      refine ⟨.ref a, rfl, rd_ixT ha (by decide) (v := .int g) rfl ⟨(by decide : 1 ≤ sizeLine), fun p np => ?_⟩⟩
      exact q p _ np (.new np) upd_same
    | fin word ts =>
      obtain ⟨a, x0, x1, x2, rfl, ha, j0, j1, j2⟩ := hv.tup3
      cases j0.strI
      refine ⟨.ref a, rfl, rd_ixT ha (by decide) (v := .str "end") rfl (Or.inl ⟨rfl, _, rfl, ?_⟩)⟩
      rw [ne_str (by decide +kernel)]
      refine ⟨.ref a, rfl, rd_ixT ha (by decide) (v := .str "end") rfl (Or.inl ⟨rfl, _, rfl, ?_⟩)⟩
      rw [ne_str (by decide +kernel)]
      exact ⟨Nat.zero_le _, fun p np => q p _ np (.new np) upd_same⟩
    | ask act ts ws =>
      obtain ⟨a, x0, x1, x2, x3, rfl, ha, j0, j1, j2, j3⟩ := hv.tup4
      cases j0.strI
      refine ⟨.ref a, rfl, rd_ixT ha (by decide) (v := .str "ask") rfl (Or.inl ⟨rfl, _, rfl, ?_⟩)⟩
      rw [ne_str (by decide +kernel)]
      refine ⟨.ref a, rfl, rd_ixT ha (by decide) (v := .str "ask") rfl (Or.inl ⟨rfl, _, rfl, ?_⟩)⟩
      rw [eq_str82]
      obtain ⟨aw, wv, rfl, haw, hwv⟩ := j3.tupI
      refine ⟨.ref a, rfl, rd_ixT ha (by decide) (v := .ref aw) rfl ⟨aw, rfl, ?_⟩⟩
      have hl : ws.length ≤ 1000 := by simpa [gosS] using hl
      refine lc_fm (K := K) (as := ws) (enc := wayD) (fun w => some (.int w.2.2)) (.inr haw) hwv (by omega) (fun z w' H5 Q' R' hm him m5 k1 _ => ?_) (fun D zs5 H5 nD e5 i5 m5 => ?_)
      · obtain ⟨az, y0, y1, y2, rfl, haz, k0, k2, k3⟩ := him.tup3
        cases k3.intI
        refine ⟨rfl, .ref az, rfl, rd_ixT haz (by decide) (v := .int w'.2.2) rfl ?_⟩
        exact k1 _ rfl _ _ .refl (.int _)
      · have e : ws.filterMap (fun w => some (PyData.int w.2.2)) = (ws.map (·.2.2)).map PyData.int := by
          rw [List.filterMap_eq_map']
          simp
        rw [e] at i5
        rw [ims_ints82 i5] at e5
        exact q D _ nD m5 e5
theorem ok_come_to (T : TX K mg) {k : Nat} : FnOk P w K mg base CX0 (k + 2) T.d_come_to.f T.d_come_to.fd P_come_to (sp_comeTo K) := by
  have G_ways_from : FnOk P w K mg base CX0 1 T.d_ways_from.f T.d_ways_from.fd P_ways_from (sp_waysS K) := ok_ways_fromS (k := 0) T
  refine T.d_come_to.F.ok sc_come_to (fun vs H Q E h => ?_) (fun cdv A outer s H vs Q E hr h => ?_)
  · obtain ⟨_, _, _, _, rfl, _⟩ := h
    rfl
  · obtain ⟨l, xs, sts, p, rfl, hl, hxs, hg, hgl, hsl, p0, p1, q⟩ := h
    have hu64 := hr.units
    have hu65 := hu65_of hr
    refine ⟨_, (pss_cons (ps_par (i := 2) (j := 3) rfl sc_come_to.nd rfl rfl (by decide) rfl rfl (pa_cons (pe_lst pa_nil) (pa_cons (pe_lst (pa_cons (pv 1) pa_nil)) pa_nil)) rfl) (pss_cons (ps_while PassesOwn.never (pt_cmpR (r := rNeNil K) (op_neNil (Nat.lt_of_le_of_lt (Nat.le_add_right _ 65) hu65)) (pv 3) (pe_lst pa_nil) (nomark _)) (pss_one (ps_for PassesOwn.never rfl (pi_seq (pe_call G_ways_from (hr.mono (by omega)) rfl T.d_ways_from.g T.d_ways_from.F.kp T.d_ways_from.b .nil pass0 (pa_cons (pe_ix (r := rIx K) ix_seq (pv 0) (pe_bm0 PySem.F.plainAttrs_list PySem.F.slot_list_pop PySem.F.type_list_pop mt_pop (pv 3)) (fun _ _ => rfl)) pa_nil))) (pg_name (i := 4) sc_come_to.nd rfl (Or.inl rfl)) (pss_one (ps_if (pt_cmpR (r := rNotInG K) (op_notInG hu65) (pv 4) (pv 2) rfl) (pss_cons (ps_expr (pe_bm PySem.F.plainAttrs_list PySem.F.slot_list_append PySem.F.type_list_append mt_append (pv 2) (pa_cons (pv 4) pa_nil))) (pss_one (ps_expr (pe_bm PySem.F.plainAttrs_list PySem.F.slot_list_append PySem.F.type_list_append mt_append (pv 3) (pa_cons (pv 4) pa_nil))))) pss_nil))))) (pss_one (ps_ret (pv 2))))), ?_⟩
    have hFn : ∀ {F W : List Int}, Srch sts p F W → F.length ≤ sts.length := fun h => nodup_few h.nd fun x hx => (h.rch x hx).in_ hg
    refine ⟨Nat.zero_le _, fun pf nf => ⟨.int p, rfl, (by decide : 1 ≤ sizeLine), fun pw nw0 => ⟨_, _, rfl, ?_⟩⟩⟩
    have hfw : pw ≠ pf := fun e => by rw [e, upd_same] at nw0; cases nw0
    have nw : H pw = none := by rw [upd_ne hfw] at nw0; exact nw0
    have k0 : Mv [] H (upd H pf (.lst [])) := .new nf
    have k1 := k0.trans (Mv.new (S := []) (o := .lst [.int p]) nw0)
    have ef : upd (upd H pf (.lst [])) pw (.lst [.int p]) pf = some (.lst []) := by rw [upd_ne hfw.symm]; exact upd_same
    have ew : upd (upd H pf (.lst [])) pw (.lst [.int p]) pw = some (.lst [.int p]) := upd_same
    generalize upd (upd H pf (.lst [])) pw (.lst [.int p]) = H1 at k1 ef ew ⊢
    refine ⟨fun m σ H2 => ∃ (F W : List Int) (y4 : Option V), σ = [some (.ref l), some (.int p), some (.ref pf), some (.ref pw), y4] ∧ H2 pf = some (.lst (F.map V.int)) ∧ H2 pw = some (.lst (W.map V.int)) ∧ Srch sts p F W ∧ W.length ≤ F.length + 1 ∧ m = 2 * (sts.length - F.length) + W.length ∧ Mv [] H H2,
      ⟨_, [], [p], _, rfl, ef, ew, Srch.start sts p, Nat.le_refl 1, rfl, k1⟩, fun m σ H2 hW => ?_⟩
    obtain ⟨F, W, y4, rfl, ef, ew, hS, hWF, rfl, m2⟩ := hW
    refine ⟨.ref pw, rfl, Nat.zero_le _, fun q1 n1 => ⟨pw, q1, W.map V.int, rfl, rfl, .inl (.inl (same_new n1 _ _ ew)), .inl (.inl upd_same), _, rfl, ?_⟩⟩
    have m23 : Mv [] H (upd H2 q1 (.lst [])) := m2.trans (.new n1)
    have ef3 : upd H2 q1 (.lst []) pf = some (.lst (F.map V.int)) := same_new n1 _ _ ef
    have ew3 : upd H2 q1 (.lst []) pw = some (.lst (W.map V.int)) := same_new n1 _ _ ew
    generalize upd H2 q1 (.lst []) = H3 at m23 ef3 ew3 ⊢
    rcases List.eq_nil_or_concat W with rfl | ⟨W, x, rfl⟩
    · exact ⟨.ref pf, rfl, q pf F H3 nf m23 ef3 hS.done⟩
    · rw [List.concat_eq_append] at *
      rw [show (!((W ++ [x]).map V.int).isEmpty) = true by simp]
      refine ⟨fun σ' H' => ∃ m', m' < 2 * (sts.length - F.length) + (W ++ [x]).length ∧ _, fun _ _ h => h, ?_⟩
      have hx : 0 ≤ x ∧ x < sts.length := (hS.wat x (by simp)).elim (fun e => by rw [e]; exact ⟨p0, p1⟩) fun h => (hS.rch x h).in_ hg
      have hFl := hFn hS
      refine ⟨.ref l, rfl, .ref pw, rfl, .inl ⟨rfl, _, .inl (.inl ew3)⟩, pw, _, .int x, rfl, rfl, ew3, by simp, ?_⟩
      have m4 : Mv [] H (upd H3 pw (.lst ((W ++ [x]).map V.int).dropLast)) := m23.wr nw
      have ew4 : upd H3 pw (.lst ((W ++ [x]).map V.int).dropLast) pw = some (.lst (W.map V.int)) := by rw [upd_same, List.map_append, List.map_cons, List.map_nil, List.dropLast_concat]
      have ef4 : upd H3 pw (.lst ((W ++ [x]).map V.int).dropLast) pf = some (.lst (F.map V.int)) := by rw [upd_ne hfw.symm]; exact ef3
      generalize upd H3 pw (.lst ((W ++ [x]).map V.int).dropLast) = H4 at m4 ew4 ef4 ⊢
      obtain ⟨v, hv⟩ : ∃ v, xs[x.toNat]? = some v := ⟨_, List.getElem?_eq_getElem (by rw [hxs.length, List.length_map]; omega)⟩
      obtain ⟨d, hd, him⟩ := hxs.get hv
      rw [List.getElem?_map] at hd
      obtain ⟨st, hst, rfl⟩ := Option.map_eq_some_iff.mp hd
      refine rd_ixL (.inl (.inl (m4.same _ _ hl))) hx.1 hv ?_
      have hga : gosAt sts x = gosS st := by unfold gosAt; rw [hst]
      refine ⟨v, st, rfl, him.mv m4, hgl st (List.mem_of_getElem? hst), fun pg H5 ng m5 eg => ⟨pg, rfl, ?_⟩⟩
      rw [← hga] at eg
      have ef5 := m5.same _ _ ef4
      have ew5 := m5.same _ _ ew4
      have hgf : pg ≠ pf := fun e => by rw [e, ef4] at ng; cases ng
      have hgw : pg ≠ pw := fun e => by rw [e, ew4] at ng; cases ng
      refine .inl ⟨⟨_, .inl (.inl eg)⟩, for_list (K := K) (a := pg) (xs := (gosAt sts x).map V.int) (fun k σ H6 => ∃ (F' W' : List Int) (y4 : Option V), σ = [some (.ref l), some (.int p), some (.ref pf), some (.ref pw), y4] ∧ H6 pf = some (.lst (F'.map V.int)) ∧ H6 pw = some (.lst (W'.map V.int)) ∧ H6 pg = some (.lst ((gosAt sts x).map V.int)) ∧ Look sts p x k F' W' ∧ F.length ≤ F'.length ∧ W'.length + F.length = W.length + F'.length ∧ Mv [] H H6)
        ⟨F, W, _, rfl, ef5, ew5, eg, hS.look, Nat.le_refl _, rfl, m4.trans m5⟩ (fun k σ H6 _ h6 => ?_) (fun k z σ H6 hz h6 => ?_) (fun σ H6 h6 => ?_)⟩
      · obtain ⟨_, _, _, _, _, _, e, _⟩ := h6
        exact .inl (.inl e)
      · obtain ⟨F', W', y4, rfl, ef6, ew6, eg6, hL, f1, f2, m6⟩ := h6
        rw [List.getElem?_map] at hz
        obtain ⟨g, hg', rfl⟩ := Option.map_eq_some_iff.mp hz
        have hF'l : F'.length ≤ sts.length := nodup_few hL.nd fun x hx => (hL.rch x hx).in_ hg
        rw [List.length_append] at hWF
        have hW'l : W'.length ≤ 10000 := by
          simp at hWF
          omega
        refine ⟨.int g, rfl, .ref pf, rfl, rd_notIn82 ef6 ⟨_, rfl, ?_⟩⟩
        by_cases hgF : g ∈ F'
        · rw [decide_eq_true hgF]
          exact ⟨F', W', _, rfl, ef6, ew6, eg6, hL.old hg' hgF, f1, f2, m6⟩
        · rw [decide_eq_false hgF]
          refine ⟨.ref pf, rfl, .inl ⟨rfl, _, .inl (.inl ef6)⟩, .int g, rfl, pf, _, .int g, rfl, rfl, ef6, by rw [List.length_map]; exact line5lt (by omega), ?_⟩
          have m7 : Mv [] H (upd H6 pf (.lst (F'.map V.int ++ [.int g]))) := m6.wr nf
          have ef7 : upd H6 pf (.lst (F'.map V.int ++ [.int g])) pf = some (.lst ((F' ++ [g]).map V.int)) := by rw [upd_same, List.map_append]; rfl
          have ew7 : upd H6 pf (.lst (F'.map V.int ++ [.int g])) pw = some (.lst (W'.map V.int)) := by rw [upd_ne hfw]; exact ew6
          have eg7 : upd H6 pf (.lst (F'.map V.int ++ [.int g])) pg = some (.lst ((gosAt sts x).map V.int)) := by rw [upd_ne hgf]; exact eg6
          generalize upd H6 pf (.lst (F'.map V.int ++ [.int g])) = H7 at m7 ef7 ew7 eg7 ⊢
          refine ⟨.ref pw, rfl, .inl ⟨rfl, _, .inl (.inl ew7)⟩, .int g, rfl, pw, _, .int g, rfl, rfl, ew7, by rw [List.length_map]; exact line5lt (by omega), ?_⟩
          refine ⟨F' ++ [g], W' ++ [g], _, rfl, ?_, ?_, ?_, hL.new hg' hgF, by rw [List.length_append]; omega, by rw [List.length_append, List.length_append]; simp; omega, m7.wr nw⟩
          · rw [upd_ne hfw.symm]
            exact ef7
          · rw [upd_same, List.map_append]
            rfl
          · rw [upd_ne hgw]
            exact eg7
      · obtain ⟨F', W', y4, rfl, ef6, ew6, eg6, hL, f1, f2, m6⟩ := h6
        rw [List.length_map] at hL
        have hS' := hL.done (Nat.le_refl _)
        have hF'l := hFn hS'
        refine ⟨2 * (sts.length - F'.length) + W'.length, by rw [List.length_append]; simp; omega, F', W', _, rfl, ef6, ew6, hS', by rw [List.length_append] at hWF; simp at hWF; omega, rfl, m6⟩
end
end Fm
namespace Fm
open PySem PySem.Spec PyProof.Rows L2
section
variable {P : Program} {w : World} {K : PySem.W.Frag} {mg mb : Str → Option Value} {k : Nat} {fa a : Addr} {fd : FuncData} {x : Str} {sp : Sp} {s : Shared} {vs : List Value} {ns : List Int}
end
end Fm
namespace Fm
open PySem PySem.Spec PyProof.Rows L2
theorem no0 {X : Cx} : ∀ (H : Hp) (s : Shared) (e : Value) (s' : Shared), CX0 X.stack H s E0 e s' → False := fun _ _ _ _ h => h
end Fm
namespace Fm
open PySem PySem.Spec PyProof.Rows L2
open AutoSeq1 (wpAny_loadPart')
open PySem.MeetsSeq PySem.MeetsSeq2 PySem.MeetsSeq3 PySem.SeqRoads2
def EqW (prog : Program) (w : PySem.World) (A : Around) (s : Shared) (y x : Value) (b : Bool) : Prop := ∀ (E : Value → Shared → Prop) (Q : Bool → Shared → Prop), Q b s → wpAny (model prog w) A (eqBool y x) Q E s
section
variable {prog : Program} {w : PySem.World} {A : Around} {s : Shared} {E : Value → Shared → Prop}
theorem EqW.of_at {y x : Value} {b : Bool} (h : SeqAt.EqAt A s y x b) : EqW prog w A s y x b := fun E Q q => h prog w E Q q
theorem EqW.of_refs {p q : Addr} {b : Bool} (hne : p ≠ q) (h : ∀ (E : Value → Shared → Prop) (Q : Value → Shared → Prop), Q (.bool b) s → wpAny (model prog w) A (richCompare .Eq (.ref p) (.ref q)) Q E s) : EqW prog w A s (.ref p) (.ref q) b :=
  fun E Q hq => GQ.eqBool_refG hne (h E _ ⟨b, rfl, hq⟩)
theorem tupW {p q : Addr} {xs ys : Array Value} {e : Nat → Bool} {Q : Value → Shared → Prop} (hp : s.heap.IsTuple p xs) (hq : s.heap.IsTuple q ys) (hu : A.units < cLine)
    (he : ∀ j (h1 : j < xs.size) (h2 : j < ys.size), EqW prog w A.in1 s xs[j] ys[j] (e j)) (h : Q (.bool ((List.range (min xs.size ys.size)).all e && xs.size == ys.size)) s) : wpAny (model prog w) A (richCompare .Eq (.ref p) (.ref q)) Q E s := by
  obtain ⟨⟨c1, d1, t1, l1⟩, o1, k1, n1, r1⟩ := id hp
  obtain ⟨⟨c2, d2, t2, l2⟩, o2, k2, n2, r2⟩ := id hq
  dsimp only at k1 r1 k2 r2
  subst k1 r1 k2 r2
  refine wpAny_richCompare_same_room (op := .Eq) ⟨_, o1, rfl⟩ ⟨_, o2, rfl⟩ PySem.F.slot_tuple_eq (GQ.call_here PySem.F.slot_tuple_eq ⟨_, o1, rfl⟩ PySem.F.entry_tuple_eq (PySem.F.args_tuple_eq_2 _ _) ?_) hu
  have sub := AutoSeq1.sub_tuple_tuple
  have len : (xs.toList.zip ys.toList).length = min xs.size ys.size := by simp
  obtain ⟨hh, gg, dd, tt, oo⟩ := s
  wp_walk using wpAny_loadPart' o1, wpAny_loadPart' o2, wpAny_forIn_list _ (fun rest acc s' => acc.1 = none ∧ s' = ⟨hh, gg, dd, tt, oo⟩ ∧ ∃ i, rest = (xs.toList.zip ys.toList).drop i ∧
    Q (.bool (((List.range (min xs.size ys.size)).drop i).all e && xs.size == ys.size)) ⟨hh, gg, dd, tt, oo⟩) _
  case turn =>
    rintro ⟨y, x⟩ rest acc s' ⟨ha, rfl, i, hz, hQ⟩
    have lt : i < (xs.toList.zip ys.toList).length := Nat.lt_of_not_le fun ge => by
      rw [List.drop_of_length_le ge] at hz
      cases hz
    have lm : i < min xs.size ys.size := len ▸ lt
    have lx : i < xs.size := by omega
    have ly : i < ys.size := by omega
    rw [List.drop_eq_getElem_cons lt] at hz
    injection hz with hyx hrest
    obtain rfl : y = xs[i] := by simpa using congrArg Prod.fst hyx
    obtain rfl : x = ys[i] := by simpa using congrArg Prod.snd hyx
    have dr : (List.range (min xs.size ys.size)).drop i = i :: (List.range (min xs.size ys.size)).drop (i + 1) := by simp [List.drop_eq_getElem_cons, lm]
    rw [dr, List.all_cons] at hQ
    refine wpAny_bind (he i lx ly _ _ ?_)
    cases ei : e i with
    | true =>
      rw [ei] at hQ
      wp_walk
      exact ⟨rfl, rfl, i + 1, hrest, by simpa using hQ⟩
    | false =>
      rw [ei] at hQ
      wp_walk
      exact ⟨(fun z => nomatch z), by simpa using hQ⟩
  case fin =>
    rintro ⟨a1, a2⟩ s' ⟨ha, rfl, i, hz, hQ⟩
    dsimp only at ha
    subst ha
    have ge : min xs.size ys.size ≤ i := Nat.le_of_not_lt fun lt => by
      rw [List.drop_eq_getElem_cons (len ▸ lt)] at hz
      cases hz
    rw [List.drop_of_length_le (by simpa using ge)] at hQ
    wp_walk
    exact ⟨(fun z => nomatch z), by simpa [Builtin.Tuple.tupleCompareSizes] using hQ⟩
  case h => exact ⟨rfl, rfl, 0, rfl, by simpa using h⟩
end
inductive HitsW (prog : Program) (w : PySem.World) (A : Around) (s : Shared) (kb : List (L2.Key × Value)) : List (L2.Key × Value) → Bool → Prop
  | done : HitsW prog w A s kb [] true
  | lacks {k : L2.Key} {v : Value} {r : List (L2.Key × Value)} : valueAt kb k = none → HitsW prog w A s kb ((k, v) :: r) false
  | meets {k : L2.Key} {v y : Value} {r : List (L2.Key × Value)} {e b : Bool} : valueAt kb k = some y → EqW prog w A s v y e → HitsW prog w A s kb r b → HitsW prog w A s kb ((k, v) :: r) (e && b)
section
variable {prog : Program} {w : PySem.World} {A : Around} {s : Shared} {E : Value → Shared → Prop}
theorem HitsW.inv {kb r : List (L2.Key × Value)} {k : L2.Key} {v : Value} {b : Bool} (h : HitsW prog w A s kb ((k, v) :: r) b) : (valueAt kb k = none ∧ b = false) ∨ ∃ y e b', valueAt kb k = some y ∧ EqW prog w A s v y e ∧ HitsW prog w A s kb r b' ∧ b = (e && b') := by
  cases h with
  | lacks h => exact .inl ⟨h, rfl⟩
  | meets h1 h2 h3 => exact .inr ⟨_, _, _, h1, h2, h3, rfl⟩
theorem pairsW {nm : String} {p q : Addr} {ka kb : List (L2.Key × Value)} {r : Bool} {Q : Bool → Shared → Prop} (hp : (p == sysModules) = false) (hq : (q == sysModules) = false)
    (dp : s.heap.DictOf (mixKind prog w) p ka) (dq : s.heap.DictOf (mixKind prog w) q kb) (hits : ka.length = kb.length → HitsW prog w A s kb ka r) (h : Q (ka.length == kb.length && r) s) :
    wpAny (model prog w) A (Builtin.Dict.samePairs nm p q) Q E s := by
  obtain ⟨op, ep, np, gp, _, tp, kp, pp, _⟩ := dp
  obtain ⟨oq, eq, nq, gq, _, tq, kq, pq, _⟩ := dq
  have lp : ka.length = ep.size := by rw [← pp.length]; exact Array.length_toList
  have lq : kb.length = eq.size := by rw [← pq.length]; exact Array.length_toList
  have fnd : ∀ k, findBy (mixKind prog w).is eq k = valueAt kb k := fun k => by
    rw [← pq.find k]
    clear lq pq kq tq gq
    obtain ⟨es⟩ := eq
    simp [findBy]
  rw [lp, lq] at h
  unfold Builtin.Dict.samePairs Builtin.Dict.showsAll
  rw [if_neg (by rw [hp]; exact Bool.false_ne_true), if_neg (by rw [hq]; exact Bool.false_ne_true)]
  refine wpAny_bind (wpAny_pure (wpAny_bind (wpAny_pure (wpAny_bind (wpAny_dictEntries gp tp ?_)))))
  dsimp only
  refine wpAny_bind (wpAny_dictEntries gq tq ?_)
  by_cases sz : ep.size = eq.size
  · have hQ : Q r s := by simpa [sz] using h
    have hits' := hits (by omega)
    rw [if_neg (by rw [sz]; simp)]
    refine wpAny_bind (wpAny_dictEpoch gp tp (wpAny_bind ?_))
    rw [Std.Legacy.Range.forIn_eq_forIn_range']
    simp only [Std.Legacy.Range.size, Nat.sub_zero, Nat.add_sub_cancel, Nat.div_one]
    refine wpAny_forIn_list _ (fun rest acc s' => s' = s ∧ acc = (none, ()) ∧ ∃ i, rest = List.range' i (ep.size - i) ∧ i ≤ ep.size ∧ HitsW prog w A s kb (ka.drop i) r) _ ?_ ?_ _ _ ⟨rfl, rfl, 0, by simp, Nat.zero_le _, hits'⟩
    · rintro x rest acc s' ⟨rfl, rfl, i, hr, hi, hd⟩
      have lt : i < ep.size := Nat.lt_of_not_le fun ge => by
        rw [Nat.sub_eq_zero_of_le ge] at hr
        simp at hr
      have e1 : ep.size - i = (ep.size - (i + 1)) + 1 := by omega
      rw [e1, List.range'_succ] at hr
      injection hr with hx hrest
      subst hx
      refine wpAny_bind (wpAny_dictEntries gp tp ?_)
      rw [Array.getElem?_eq_getElem lt]
      have lt' : x < ka.length := by omega
      obtain ⟨k, v, hkv⟩ : ∃ k v, ka[x] = (k, v) := ⟨_, _, rfl⟩
      have hdrop : ka.drop x = (k, v) :: ka.drop (x + 1) := by rw [← hkv]; exact List.drop_eq_getElem_cons lt'
      obtain ⟨hk, hv⟩ := pp.get? (i := x) (e := ep[x]) (k := k) (v := v) (by rw [Array.getElem?_toList]; exact Array.getElem?_eq_getElem lt) (by rw [List.getElem?_eq_getElem lt', hkv])
      obtain ⟨k', hk', hh⟩ := kp ep[x] (Array.getElem_mem lt)
      have ekk : k' = k := (mixKind prog w).inj _ _ _ hk' hk
      rw [ekk] at hh
      rw [hdrop] at hd
      show wpAny _ _ (holding [ep[x].key, ep[x].val] _ >>= _) _ _ _
      rw [hh]
      refine wpAny_bind (wpAny_holding (wpAny_bind (wpAny_dictFind_of hk gq tq kq ?_)))
      cases hj : eq.findIdx? fun e => (mixKind prog w).is k e.key with
      | none =>
        have hn : valueAt kb k = none := by rw [← fnd k, findBy_of_findIdx?, hj]
        rcases hd.inv with ⟨_, er⟩ | ⟨y, _, _, hy, _⟩
        · rw [er] at hQ
          refine wpAny_pure ?_
          show wpAny _ _ (if (!false) = true then _ else _) _ _ _
          rw [if_pos (by decide)]
          exact wpAny_pure (wpAny_pure hQ)
        · rw [hn] at hy
          cases hy
      | some j =>
        obtain ⟨jl, _, _⟩ := Array.findIdx?_eq_some_iff_getElem.mp hj
        have hy' : valueAt kb k = some eq[j].val := by
          rw [← fnd k, findBy_of_findIdx?, hj]
          simp [Array.getElem?_eq_getElem jl]
        refine wpAny_bind (wpAny_dictEntries gq tq ?_)
        rw [Array.getElem?_eq_getElem jl]
        rcases hd.inv with ⟨hn, _⟩ | ⟨y, e, b', hy, he, hrr, er⟩
        · rw [hy'] at hn
          cases hn
        · have ey : eq[j].val = y := Option.some.inj (hy'.symm.trans hy)
          rw [← ey, ← hv] at he
          refine wpAny_holding (he _ _ ?_)
          cases e with
          | false =>
            rw [er, Bool.false_and] at hQ
            show wpAny _ _ (if (!false) = true then _ else _) _ _ _
            rw [if_pos (by decide)]
            exact wpAny_pure (wpAny_pure hQ)
          | true =>
            rw [Bool.true_and] at er
            rw [← er] at hrr
            show wpAny _ _ (if (!true) = true then _ else _) _ _ _
            rw [if_neg (by decide)]
            refine wpAny_bind (wpAny_dictEpoch gp tp ?_)
            rw [if_neg (by simp)]
            exact wpAny_pure ⟨rfl, rfl, x + 1, hrest, lt, hrr⟩
    · rintro acc s' ⟨rfl, rfl, i, hr, hi, hd⟩
      have ei : i = ep.size := Nat.le_antisymm hi (Nat.le_of_not_lt fun lt => by
        have e1 : ep.size - i = (ep.size - (i + 1)) + 1 := by omega
        rw [e1, List.range'_succ] at hr
        cases hr)
      refine wpAny_pure ?_
      rw [ei, ← lp, List.drop_length] at hd
      cases hd
      exact hQ
  · rw [if_pos (by simpa using sz)]
    have bf : (ep.size == eq.size) = false := by simpa using sz
    rw [bf, Bool.false_and] at h
    exact wpAny_bind (wpAny_rule (wpAny_pure h))
theorem dictW {p q : Addr} {ka kb : List (L2.Key × Value)} {r : Bool} {Q : Value → Shared → Prop} (hp : (p == sysModules) = false) (hq : (q == sysModules) = false) (dp : s.heap.DictOf (mixKind prog w) p ka) (dq : s.heap.DictOf (mixKind prog w) q kb)
    (hu : A.units < cLine) (hits : ka.length = kb.length → HitsW prog w A.in1 s kb ka r) (h : Q (.bool (ka.length == kb.length && r)) s) : wpAny (model prog w) A (richCompare .Eq (.ref p) (.ref q)) Q E s := by
  refine wpAny_richCompare_same_room (op := .Eq) dp.typeIs dq.typeIs PySem.F.slot_dict_eq (wpAny_call_entry PySem.F.slot_dict_eq dp.typeIs PySem.F.entry_dict_eq ?_ (PySem.F.args_dict_eq_2 _ _)) hu
  show wpAny _ _ (Builtin.Dict.dictSlotArgs "__eq__" ⟨[.ref p, .ref q], []⟩ >>= _) _ _ s
  refine wpAny_bind ?_
  unfold Builtin.Dict.dictSlotArgs
  refine wpAny_bind (wpAny_notOrdered_dict dp.typeIs ?_)
  show wpAny _ _ (pure (Value.ref p, Value.ref q)) _ _ s
  refine wpAny_pure (wpAny_bind (wpAny_isInstance (T := "dict") dq.typeIs PySem.F.sub_dict_dict ?_))
  simp only [Bool.not_true, Bool.false_eq_true, if_false]
  refine wpAny_bind (wpAny_pure (wpAny_bind (wpAny_pure (wpAny_bind (pairsW hp hq dp dq hits (wpAny_pure ⟨_, rfl, (fun z => nomatch z), ?_⟩))))))
  simpa using h
end
end Fm
namespace Fm
open PySem PySem.Spec PyProof.Rows L2
def lk (b : List (Str × Int)) (x : Str) : Option Int := (b.find? fun e => decide (e.1 = x)).map (·.2)
def hitO (b : List (Str × Int)) (e : Str × Int) : Bool := match lk b e.1 with
  | some j => e.2 == j
  | none => false
def outsEq (a b : List (Str × Int)) : Bool := a.length == b.length && a.all (hitO b)
def actEq (r q : ActR) : Bool := r.ar == q.ar && outsEq r.outs q.outs
def hitA (qs : List ActR) (r : ActR) : Bool := match qs.find? fun q => decide (q.nm = r.nm) with
  | some q => actEq r q
  | none => false
def rsEq (rs qs : List ActR) : Bool := rs.length == qs.length && rs.all (hitA qs)
theorem val_row (b : List (Str × Int)) (x : Str) : valV (b.map rowK) (.inr x) = (lk b x).map V.int := by
  unfold valV lk
  rw [List.find?_map, Option.map_map, Option.map_map]
  have : ((fun kv : L2.Key × V => decide (kv.1 = Sum.inr x)) ∘ rowK) = fun e : Str × Int => decide (e.1 = x) := by
    funext e
    show decide ((Sum.inr e.1 : L2.Key) = Sum.inr x) = _
    by_cases h : e.1 = x
    · rw [decide_eq_true h, decide_eq_true (by rw [h])]
    · rw [decide_eq_false h, decide_eq_false fun z => h (Sum.inr.inj z)]
  rw [this]
  rfl
theorem val_act (zs : List ActA) (x : Str) : valV (zs.map ActA.kv) (.inr x) = (zs.find? fun z => decide (z.r.nm = x)).map fun z => V.ref z.a := by
  unfold valV
  rw [List.find?_map, Option.map_map]
  have : ((fun kv : L2.Key × V => decide (kv.1 = Sum.inr x)) ∘ ActA.kv) = fun z : ActA => decide (z.r.nm = x) := by
    funext z
    show decide ((Sum.inr z.r.nm : L2.Key) = Sum.inr x) = _
    by_cases h : z.r.nm = x
    · rw [decide_eq_true h, decide_eq_true (by rw [h])]
    · rw [decide_eq_false h, decide_eq_false fun z => h (Sum.inr.inj z)]
  rw [this]
  rfl
theorem find_act (zs : List ActA) (x : Str) : ((zs.map (·.r)).find? fun q => decide (q.nm = x)) = (zs.find? fun z => decide (z.r.nm = x)).map (·.r) := by
  rw [List.find?_map]
  rfl
theorem lk_mem {b : List (Str × Int)} (n : (b.map (·.1)).Nodup) {e : Str × Int} (h : e ∈ b) : lk b e.1 = some e.2 := by
  have h1 := val_row b e.1
  rw [row_val n (x := e.1) (i := e.2) h] at h1
  cases h2 : lk b e.1 with
  | none => rw [h2] at h1; cases h1
  | some j =>
    rw [h2] at h1
    have : V.int e.2 = V.int j := Option.some.inj h1
    rw [V.int.inj this]
theorem outsEq_refl {a : List (Str × Int)} (n : (a.map (·.1)).Nodup) : outsEq a a = true := by
  unfold outsEq
  rw [beq_self_eq_true, Bool.true_and, List.all_eq_true]
  intro e he
  unfold hitO
  rw [lk_mem n he]
  exact beq_self_eq_true _
section
variable {X : Cx} {pins : List (Addr × Obj)} {σ : L2.St} {H : Hp} {s : Shared}
theorem hits_outs {A : Around} {b : List (Str × Int)} {vb : List (L2.Key × Value)} (rb : KV (b.map rowK) vb) : ∀ {a : List (Str × Int)} {va : List (L2.Key × Value)}, KV (a.map rowK) va → HitsW X.prog X.w A s vb va (a.all (hitO b))
  | [], _, .nil => .done
  | e :: a, _, .cons (b := kv) ⟨hk, hv⟩ t => by
    obtain ⟨k, v⟩ := kv
    cases hk
    have ih := hits_outs (A := A) rb t
    have hr := rb.val (Sum.inr e.1)
    rw [val_row] at hr
    rw [List.all_cons]
    obtain ⟨t1, rfl⟩ := (show ∃ t, v = Value.int e.2 t from hv)
    unfold hitO
    cases hl : lk b e.1 with
    | none =>
      rw [hl] at hr
      have hn : valueAt vb (Sum.inr e.1) = none := by
        cases hx : valueAt vb (Sum.inr e.1) with
        | none => rfl
        | some u => rw [hx] at hr; exact hr.elim
      rw [Bool.false_and]
      exact .lacks hn
    | some j =>
      rw [hl] at hr
      obtain ⟨u, hu, ru⟩ := RelO.some_of (v := V.int j) (o := valueAt vb (Sum.inr e.1)) hr
      obtain ⟨t2, rfl⟩ := (show ∃ t, u = Value.int j t from ru)
      exact .meets hu (.of_at (SeqAt.EqAt.int_int _ _ _ _)) ih
theorem rowK_inj {a b : List (Str × Int)} (h : a.map rowK = b.map rowK) : a = b := by
  refine (List.map_inj_right ?_).mp h
  intro e f he
  obtain ⟨x, i⟩ := e
  obtain ⟨y, j⟩ := f
  cases he
  rfl
theorem eqW_outs {A : Around} {p q : Addr} {a b : List (Str × Int)} (I : Inv X pins σ H s) (hp : H p = some (.dK (a.map rowK))) (hq : H q = some (.dK (b.map rowK))) (n : (a.map (·.1)).Nodup) (hu : A.units < cLine) : EqW X.prog X.w A s (.ref p) (.ref q) (outsEq a b) := by
  by_cases e : p = q
  · subst e
    rw [hp] at hq
    have hk : a.map rowK = b.map rowK := by
      have := Option.some.inj hq
      injection this
    cases rowK_inj hk
    rw [outsEq_refl n]
    exact .of_at (SeqAt.EqAt.same _)
  · obtain ⟨_, ya, va, ra, da⟩ := (show ObjOk X.prog X.w H s.heap p (.dK (a.map rowK)) from I.hok p _ hp)
    obtain ⟨_, yb, vb, rb, db⟩ := (show ObjOk X.prog X.w H s.heap q (.dK (b.map rowK)) from I.hok q _ hq)
    have la : va.length = a.length := by rw [← ra.length, List.length_map]
    have lb : vb.length = b.length := by rw [← rb.length, List.length_map]
    refine .of_refs e fun E Q hQ => dictW ya yb da db hu (fun _ => hits_outs rb ra) ?_
    rw [la, lb]
    exact hQ
theorem eqW_act {A : Around} {z y : ActA} (I : Inv X pins σ H s) (hz : SqT X.K H z.a [.int z.r.ar, .ref z.o]) (hy : SqT X.K H y.a [.int y.r.ar, .ref y.o]) (oz : H z.o = some (.dK (z.r.outs.map rowK))) (oy : H y.o = some (.dK (y.r.outs.map rowK)))
    (n : (z.r.outs.map (·.1)).Nodup) (hu : A.units + 1 < cLine) : EqW X.prog X.w A s (.ref z.a) (.ref y.a) (actEq z.r y.r) := by
  by_cases e : z.a = y.a
  · rw [e] at hz
    have he := I.tuple_inj hz hy
    have ho : z.o = y.o := by injection he with _ he; injection he with he _; injection he
    have har : z.r.ar = y.r.ar := by injection he with he _; injection he
    rw [ho, oy] at oz
    have hk : y.r.outs.map rowK = z.r.outs.map rowK := by
      have := Option.some.inj oz
      injection this
    have := rowK_inj hk
    unfold actEq
    rw [har, this, outsEq_refl n, beq_self_eq_true, e]
    exact .of_at (SeqAt.EqAt.same _)
  · obtain ⟨is, ri, ti, _⟩ := I.tuple hz
    obtain ⟨js, rj, tj, _⟩ := I.tuple hy
    obtain ⟨u1, u2, rfl, r1, r2⟩ := vals2 ri
    obtain ⟨v1, v2, rfl, q1, q2⟩ := vals2 rj
    obtain ⟨t1, rfl⟩ := (show ∃ t, u1 = Value.int z.r.ar t from r1)
    obtain ⟨t2, rfl⟩ := (show ∃ t, v1 = Value.int y.r.ar t from q1)
    cases (show u2 = Value.ref z.o from r2)
    cases (show v2 = Value.ref y.o from q2)
    have hin : A.in1.units < cLine := by show A.units + 1 < cLine; exact hu
    refine .of_refs e fun E Q hQ => tupW (e := fun j => if j = 0 then z.r.ar == y.r.ar else outsEq z.r.outs y.r.outs) ti tj (Nat.lt_of_succ_lt hu) (fun j h1 h2 => ?_) ?_
    · match j, h1, h2 with
      | 0, _, _ => exact .of_at (SeqAt.EqAt.int_int _ _ _ _)
      | 1, _, _ => exact eqW_outs I oz oy n hin
    · show Q (.bool (([0, 1] : List Nat).all _ && (2 : Nat) == 2)) s
      have : (([0, 1] : List Nat).all (fun j => if j = 0 then z.r.ar == y.r.ar else outsEq z.r.outs y.r.outs) && (2 : Nat) == 2) = actEq z.r y.r := by
        simp [actEq]
      rw [this]
      exact hQ
theorem hits_acts {A : Around} (I : Inv X pins σ H s) {ys : List ActA} {vb : List (L2.Key × Value)} (rb : KV (ys.map ActA.kv) vb) (hy : ∀ y ∈ ys, SqT X.K H y.a [.int y.r.ar, .ref y.o]) (oy : ∀ y ∈ ys, H y.o = some (.dK (y.r.outs.map rowK))) (hu : A.units + 1 < cLine) :
    ∀ {zs : List ActA} {va : List (L2.Key × Value)}, KV (zs.map ActA.kv) va → (∀ z ∈ zs, SqT X.K H z.a [.int z.r.ar, .ref z.o]) → (∀ z ∈ zs, H z.o = some (.dK (z.r.outs.map rowK))) → (∀ z ∈ zs, (z.r.outs.map (·.1)).Nodup) → HitsW X.prog X.w A s vb va ((zs.map (·.r)).all (hitA (ys.map (·.r))))
  | [], _, .nil, _, _, _ => .done
  | z :: zs, _, .cons (b := kv) ⟨hk, hv⟩ t, h1, h2, h3 => by
    obtain ⟨k, v⟩ := kv
    cases hk
    have ih := hits_acts (A := A) I rb hy oy hu t (fun z hz => h1 z (by simp [hz])) (fun z hz => h2 z (by simp [hz])) (fun z hz => h3 z (by simp [hz]))
    have hr := rb.val (Sum.inr z.r.nm)
    rw [val_act] at hr
    rw [List.map_cons, List.all_cons]
    cases (show v = Value.ref z.a from hv)
    have eh : hitA (ys.map (·.r)) z.r = match (ys.find? fun y => decide (y.r.nm = z.r.nm)) with | some y => actEq z.r y.r | none => false := by
      unfold hitA
      rw [find_act]
      cases ys.find? fun y => decide (y.r.nm = z.r.nm) <;> rfl
    rw [eh]
    cases hl : ys.find? fun y => decide (y.r.nm = z.r.nm) with
    | none =>
      rw [hl] at hr
      have hn : valueAt vb (Sum.inr z.r.nm) = none := by
        cases hx : valueAt vb (Sum.inr z.r.nm) with
        | none => rfl
        | some u => rw [hx] at hr; exact hr.elim
      rw [Bool.false_and]
      exact .lacks hn
    | some y =>
      rw [hl] at hr
      have hym := List.mem_of_find?_eq_some hl
      obtain ⟨u, hu', ru⟩ := RelO.some_of (v := V.ref y.a) (o := valueAt vb (Sum.inr z.r.nm)) hr
      cases (show u = Value.ref y.a from ru)
      exact .meets hu' (eqW_act I (h1 z (by simp)) (hy y hym) (h2 z (by simp)) (oy y hym) (h3 z (by simp)) hu) ih
def rEqA (K : PySem.W.Frag) : R2 := fun x y H Q => ∃ d e zs ys, x = .ref d ∧ y = .ref e ∧ ActsAt K H d zs ∧ ActsAt K H e ys ∧ Q (.bl (rsEq (zs.map (·.r)) (ys.map (·.r)))) H
theorem op_eqA (hu : X.A.units + 64 < cLine) : OpR X (compareOp .Eq) (rEqA X.K) := by
  intro pins s σ H x y v u Q I rx ry h
  obtain ⟨d, e, zs, ys, rfl, rfl, hz, hy, q⟩ := h
  cases (show v = Value.ref d from rx)
  cases (show u = Value.ref e from ry)
  obtain ⟨_, ya, va, ra, da⟩ := (show ObjOk X.prog X.w H s.heap d (.dK (zs.map ActA.kv)) from I.hok d _ hz.at_)
  obtain ⟨_, yb, vb, rb, db⟩ := (show ObjOk X.prog X.w H s.heap e (.dK (ys.map ActA.kv)) from I.hok e _ hy.at_)
  have la : va.length = zs.length := by rw [← ra.length, List.length_map]
  have lb : vb.length = ys.length := by rw [← rb.length, List.length_map]
  have hin : X.A.in1.units + 1 < cLine := by show X.A.units + 1 + 1 < cLine; omega
  refine dictW ya yb da db (by omega) (fun _ => hits_acts I rb hy.tup hy.out hin ra hz.tup hz.out hz.ond) (fin_bl I q ?_)
  rw [la, lb]
  unfold rsEq
  rw [List.length_map, List.length_map]
end
end Fm
namespace Fm
open PySem PySem.Spec PyProof.Rows L2 SlX
local macro_rules | `(tactic| walk_at "nn") => `(tactic| dsimp only [tC, tNil, tCons, tCB, tCall, gName, tSeq, tAsg, tPar, tDrop, tRet])
local macro_rules | `(tactic| walk_at "nc") => `(tactic| dsimp only [tC, tNil, tCons, tCB, tCall])
def rIsiX (K : PySem.W.Frag) (u : Value) : List V → Hp → VK → Prop := fun xs H Q => rIsiSl K u xs H Q ∨ rIsi K xs H Q
theorem call_isiX {X : Cx} (u : Value) : CallR X (.builtin "isinstance") (rIsiX X.K u) := CallR.or (call_isiSl u) call_isi
def plainTy (T : String) : Bool := match fastBuiltinMro T with
  | some l => l.all fun v => match v with | .ref _ => false | _ => true
  | none => false
theorem sub_plain {K : PySem.W.Frag} {T : String} {C : Addr} (h : plainTy T = true) : PySem.W.subIn K (.type T) (.ref C) = some false := by
  unfold plainTy at h
  show (fastBuiltinMro T).map _ = some false
  cases e : fastBuiltinMro T with
  | none => rw [e] at h; cases h
  | some l =>
    rw [e] at h
    show some (l.contains (.ref C)) = some false
    congr 1
    cases hc : l.contains (.ref C) with
    | false => rfl
    | true =>
      have hm : Value.ref C ∈ l := by simpa using hc
      have := List.all_eq_true.mp h _ hm
      cases this
theorem notFirst_self {K : PySem.W.Frag} {C : Addr} : PySem.W.notFirst K C (.ref C) = true := by
  unfold PySem.W.notFirst
  simp
theorem kitOne_plain {K : PySem.W.Frag} {T : String} {C : Addr} (h : plainTy T = true) (hc : PySem.W.isClsIn K C = true) (ht : PySem.W.typeIn K (.ref C) = some (.type "type")) : PySem.W.kitOne K (.type T) (.ref C) = some false := by
  unfold PySem.W.kitOne
  rw [if_neg (by simp)]
  show (if _ then _ else _) = _
  rw [if_pos ?_]
  · exact sub_plain h
  · rw [ht]
    unfold PySem.W.isClsIn at hc
    simp [hc]
def sp_WorldEq (K : PySem.W.Frag) (C : Addr) : Sp := fun vs H Q _ => ∃ (x : Addr) (rs : List ActR) (y : V), vs = [.ref x, y] ∧ WldAt K H C x rs ∧
  ((∃ x2 rs2, y = .ref x2 ∧ WldAt K H C x2 rs2 ∧ Q (.bl (rsEq rs rs2)) H) ∨ ∃ T, TyX K H y (.type T) ∧ plainTy T = true ∧ Q (.bl false) H)
section
variable {P : Program} {w : World} {K : PySem.W.Frag} {mg : Str → Option Value} {base : Heap}
theorem ok_World___eq__ (T : TX K mg) {k : Nat} : FnOk P w K mg base CX0 (k + 1) T.d_World___eq__.f T.d_World___eq__.fd P_World___eq__ (sp_WorldEq K T.C_World) := by
  refine T.d_World___eq__.F.ok sc_World___eq__ (fun vs H Q E h => ?_) (fun cdv A outer s H vs Q E hr h => ?_)
  · obtain ⟨_, _, _, rfl, _⟩ := h
    rfl
  · obtain ⟨x, rs, y, rfl, ⟨dx, d, zs, hs, hA, hz⟩, h⟩ := h
    have hu64 := hr.units
    refine ⟨_, (pss_one (ps_ret (pe_and (pe_callB (r := rIsiX K (.ref T.C_World)) (call_isiX (.ref T.C_World)) (by rfl) T.b_isinstance bt_isinstance (pa_cons (pv 1) (pa_cons (pe_glob rfl T.g_World (show L2.RelV (.ref T.C_World) _ from rfl)) pa_nil))) (pe_one (pe_cmpR (r := rEqA K) (op_eqA hu64) (pe_slC (K := K) rfl (pv 0)) (pe_slC (K := K) rfl (pv 1)) (nomark _)))))), ?_⟩
    rcases h with ⟨x2, rs2, rfl, ⟨dx2, d2, zs2, hs2, hA2, hz2⟩, q⟩ | ⟨ty, ht, hp, q⟩
    · refine ⟨.ref x2, rfl, ?_⟩
      walk_at "nc"
      refine Or.inl ⟨x2, T.C_World, dx2, _, .ref T.C_World, true, rfl, rfl, fun _ h => h, hs2, T.c_World, T.is_World, kitOne_self _, ?_⟩
      refine ⟨true, rfl, ?_⟩
      refine ⟨.ref x, rfl, x, T.C_World, dx, T.p_World_its_acts, _, 0, .ref d, rfl, hs, T.c_World, T.sl_World_its_acts, rfl, ?_⟩
      refine ⟨.ref x2, rfl, x2, T.C_World, dx2, T.p_World_its_acts, _, 0, .ref d2, rfl, hs2, T.c_World, T.sl_World_its_acts, rfl, ?_⟩
      refine ⟨d, d2, zs, zs2, rfl, rfl, hA, hA2, ?_⟩
      rw [hz, hz2]
      exact q
    · refine ⟨y, rfl, ?_⟩
      walk_at "nc"
      refine Or.inr ⟨y, .ref T.C_World, .type ty, .ref T.C_World, false, rfl, .own _, ht, kitOne_plain hp T.c_World.ic T.ty_World, ?_⟩
      exact ⟨false, rfl, q⟩
end
end Fm
namespace Fm
open PySem PySem.Spec PyProof.Rows L2
def rRepTG (K : PySem.W.Frag) : R2 := fun x y H Q => ∃ l k xs, x = .ref l ∧ y = .int k ∧ SqT K H l xs ∧ xs ≠ [] ∧ 0 ≤ k ∧ k ≤ 1000 ∧ xs.length ≤ 1000 ∧ (k = 1 → Q (.ref l) H) ∧ (k ≠ 1 → ∀ p, H p = none → Q (.ref p) (upd H p (.tup (List.replicate k.toNat xs).flatten)))
section
variable {X : Cx}
end
end Fm
namespace Fm
open PySem PySem.Spec PyProof.Rows L2 SlX
def nilD : PyData := .tuple [.str "nil"]
def firstD (given many : Int) : PyData := .tuple [.int 0, .tuple ((List.range given.toNat).map (fun i => .int (i : Nat)) ++ List.replicate (many - given).toNat nilD)]
end Fm
namespace Fm
open PySem PySem.Spec PyProof.Rows L2 SlX
local macro_rules | `(tactic| walk_at "nn") => `(tactic| dsimp only [tC, tNil, tCons, tCB, tCall, gName, tSeq, tAsg, tPar, tDrop, tRet])
local macro_rules | `(tactic| walk_at "nc") => `(tactic| dsimp only [tC, tNil, tCons, tCB, tCall])
def partsD (many given : Int) (sts : List Sta) : PyData := .tuple [.int many, .int given, .list (sts.map Sta.d)]
def sp_Cworld (K : PySem.W.Frag) (C CW : Addr) : Sp := fun vs H Q _ => ∃ (x wx : Addr) (rs : List ActR) (many given : Int) (sts : List Sta), vs = [.ref x] ∧ CodAt K H C CW x wx rs many given sts ∧ Q (.ref wx) H
def sp_Cvars (K : PySem.W.Frag) (C CW : Addr) : Sp := fun vs H Q _ => ∃ (x wx : Addr) (rs : List ActR) (many given : Int) (sts : List Sta), vs = [.ref x] ∧ CodAt K H C CW x wx rs many given sts ∧ Q (.int many) H
def sp_Cgiven (K : PySem.W.Frag) (C CW : Addr) : Sp := fun vs H Q _ => ∃ (x wx : Addr) (rs : List ActR) (many given : Int) (sts : List Sta), vs = [.ref x] ∧ CodAt K H C CW x wx rs many given sts ∧ Q (.int given) H
def sp_Codelen (K : PySem.W.Frag) (C CW : Addr) : Sp := fun vs H Q _ => ∃ (x wx : Addr) (rs : List ActR) (many given : Int) (sts : List Sta), vs = [.ref x] ∧ CodAt K H C CW x wx rs many given sts ∧ Q (.int (sts.length : Nat)) H
def sp_Cstats (K : PySem.W.Frag) (C CW : Addr) : Sp := fun vs H Q _ => ∃ (x wx : Addr) (rs : List ActR) (many given : Int) (sts : List Sta), vs = [.ref x] ∧ CodAt K H C CW x wx rs many given sts ∧ ∀ p xs, H p = none → Ims K H xs (sts.map Sta.d) → Q (.ref p) (upd H p (.lst xs))
def sp_Cfirst (K : PySem.W.Frag) (C CW : Addr) : Sp := fun vs H Q _ => ∃ (x wx : Addr) (rs : List ActR) (many given : Int) (sts : List Sta), vs = [.ref x] ∧ CodAt K H C CW x wx rs many given sts ∧ 0 ≤ given ∧ given ≤ many ∧ many ≤ 1000 ∧ ∀ v H', Im K H' v (firstD given many) → Mv [] H H' → Q v H'
def sp_Cparts (K : PySem.W.Frag) (C CW : Addr) : Sp := fun vs H Q _ => ∃ (x wx : Addr) (rs : List ActR) (many given : Int) (sts : List Sta), vs = [.ref x] ∧ CodAt K H C CW x wx rs many given sts ∧ ∀ v H', Dp K H' v (partsD many given sts) → Mv [] H H' → Q v H'
section
variable {P : Program} {w : World} {K : PySem.W.Frag} {mg : Str → Option Value} {base : Heap}
theorem ok_Code_world (T : TX K mg) {k : Nat} : FnOk P w K mg base CX0 (k + 1) T.d_Code_world.f T.d_Code_world.fd P_Code_world (sp_Cworld K T.C_Code T.C_World) := by
  refine T.d_Code_world.F.ok sc_Code_world (fun vs H Q E h => ?_) (fun cdv A outer s H vs Q E hr h => ?_)
  · obtain ⟨_, _, _, _, _, _, rfl, _⟩ := h
    rfl
  · obtain ⟨x, wx, rs, many, given, sts, rfl, ⟨dx, l, xs, hs, _⟩, q⟩ := h
    refine ⟨_, (pss_one (ps_ret (pe_slC (K := K) rfl (pv 0)))), ?_⟩
    exact ⟨.ref x, rfl, x, T.C_Code, dx, T.p_Code_its_world, _, 3, .ref wx, rfl, hs, T.c_Code, T.sl_Code_its_world, rfl, q⟩
theorem ok_Code_variables (T : TX K mg) {k : Nat} : FnOk P w K mg base CX0 (k + 1) T.d_Code_variables.f T.d_Code_variables.fd P_Code_variables (sp_Cvars K T.C_Code T.C_World) := by
  refine T.d_Code_variables.F.ok sc_Code_variables (fun vs H Q E h => ?_) (fun cdv A outer s H vs Q E hr h => ?_)
  · obtain ⟨_, _, _, _, _, _, rfl, _⟩ := h
    rfl
  · obtain ⟨x, wx, rs, many, given, sts, rfl, ⟨dx, l, xs, hs, _⟩, q⟩ := h
    refine ⟨_, (pss_one (ps_ret (pe_slC (K := K) rfl (pv 0)))), ?_⟩
    exact ⟨.ref x, rfl, x, T.C_Code, dx, T.p_Code_its_variables, _, 2, .int many, rfl, hs, T.c_Code, T.sl_Code_its_variables, rfl, q⟩
theorem ok_Code_given (T : TX K mg) {k : Nat} : FnOk P w K mg base CX0 (k + 1) T.d_Code_given.f T.d_Code_given.fd P_Code_given (sp_Cgiven K T.C_Code T.C_World) := by
  refine T.d_Code_given.F.ok sc_Code_given (fun vs H Q E h => ?_) (fun cdv A outer s H vs Q E hr h => ?_)
  · obtain ⟨_, _, _, _, _, _, rfl, _⟩ := h
    rfl
  · obtain ⟨x, wx, rs, many, given, sts, rfl, ⟨dx, l, xs, hs, _⟩, q⟩ := h
    refine ⟨_, (pss_one (ps_ret (pe_slC (K := K) rfl (pv 0)))), ?_⟩
    exact ⟨.ref x, rfl, x, T.C_Code, dx, T.p_Code_its_given, _, 0, .int given, rfl, hs, T.c_Code, T.sl_Code_its_given, rfl, q⟩
theorem ok_Code___len__ (T : TX K mg) {k : Nat} : FnOk P w K mg base CX0 (k + 1) T.d_Code___len__.f T.d_Code___len__.fd P_Code___len__ (sp_Codelen K T.C_Code T.C_World) := by
  refine T.d_Code___len__.F.ok sc_Code___len__ (fun vs H Q E h => ?_) (fun cdv A outer s H vs Q E hr h => ?_)
  · obtain ⟨_, _, _, _, _, _, rfl, _⟩ := h
    rfl
  · obtain ⟨x, wx, rs, many, given, sts, rfl, ⟨dx, l, xs, hs, _, hl, hx⟩, q⟩ := h
    refine ⟨_, (pss_one (ps_ret (pe_callB (r := rLenG K) call_lenG (by rfl) T.b_len bt_len (pa_cons (pe_slC (K := K) rfl (pv 0)) pa_nil)))), ?_⟩
    refine ⟨.ref x, rfl, x, T.C_Code, dx, T.p_Code_its_statements, _, 1, .ref l, rfl, hs, T.c_Code, T.sl_Code_its_statements, rfl, ?_⟩
    have e := hx.length
    rw [List.length_map] at e
    refine rd_len (.inl (.inl (.inl hl))) ?_
    rw [e]
    exact q
theorem ok_Code_statements (T : TX K mg) {k : Nat} : FnOk P w K mg base CX0 (k + 1) T.d_Code_statements.f T.d_Code_statements.fd P_Code_statements (sp_Cstats K T.C_Code T.C_World) := by
  refine T.d_Code_statements.F.ok sc_Code_statements (fun vs H Q E h => ?_) (fun cdv A outer s H vs Q E hr h => ?_)
  · obtain ⟨_, _, _, _, _, _, rfl, _⟩ := h
    rfl
  · obtain ⟨x, wx, rs, many, given, sts, rfl, ⟨dx, l, xs, hs, _, hl, hx⟩, q⟩ := h
    refine ⟨_, (pss_one (ps_ret (pe_callTy (r := rListG K) (call_listA rfl) (by rfl) T.b_list bt_list (pa_cons (pe_slC (K := K) rfl (pv 0)) pa_nil)))), ?_⟩
    refine ⟨.ref x, rfl, x, T.C_Code, dx, T.p_Code_its_statements, _, 1, .ref l, rfl, hs, T.c_Code, T.sl_Code_its_statements, rfl, ?_⟩
    exact Or.inl ⟨l, xs, rfl, .inl (.inl (.inl hl)), fun p np => q p xs np hx⟩
theorem ok_Code_parts (T : TX K mg) {k : Nat} : FnOk P w K mg base CX0 (k + 1) T.d_Code_parts.f T.d_Code_parts.fd P_Code_parts (sp_Cparts K T.C_Code T.C_World) := by
  refine T.d_Code_parts.F.ok sc_Code_parts (fun vs H Q E h => ?_) (fun cdv A outer s H vs Q E hr h => ?_)
  · obtain ⟨_, _, _, _, _, _, rfl, _⟩ := h
    rfl
  · obtain ⟨x, wx, rs, many, given, sts, rfl, ⟨dx, l, xs, hs, _, hl, hx⟩, q⟩ := h
    refine ⟨_, (pss_one (ps_ret (pe_tup (pa_cons (pe_slC (K := K) rfl (pv 0)) (pa_cons (pe_slC (K := K) rfl (pv 0)) (pa_cons (pe_slC (K := K) rfl (pv 0)) pa_nil)))))), ?_⟩
    refine ⟨.ref x, rfl, x, T.C_Code, dx, T.p_Code_its_variables, _, 2, .int many, rfl, hs, T.c_Code, T.sl_Code_its_variables, rfl, ?_⟩
    refine ⟨.ref x, rfl, x, T.C_Code, dx, T.p_Code_its_given, _, 0, .int given, rfl, hs, T.c_Code, T.sl_Code_its_given, rfl, ?_⟩
    refine ⟨.ref x, rfl, x, T.C_Code, dx, T.p_Code_its_statements, _, 1, .ref l, rfl, hs, T.c_Code, T.sl_Code_its_statements, rfl, ?_⟩
    refine ⟨(by decide : 3 ≤ sizeLine), fun p np => ?_⟩
    have m : Mv [] H (upd H p (.tup [.int many, .int given, .ref l])) := .new np
    exact q _ _ (.tup (.inl (.inl upd_same)) (.cons (.int _) (.cons (.int _) (.cons (.lst (.inl (.inl (m.same _ _ hl))) (hx.mv m).dp) .nil)))) m
end
end Fm
namespace Fm
open PySem PySem.Spec PyProof.Rows L2
local macro_rules | `(tactic| walk_at "nn") => `(tactic| dsimp only [tC, tNil, tCons, tCB, tCall, gName, tSeq, tAsg, tPar, tDrop, tRet])
def Tm.nod (ts : List Tm) : Nat := Tm.sizes ts + Tm.lvs ts
section
variable {K : PySem.W.Frag} {H : Hp}
theorem Ims.reverse : ∀ {ds : List PyData} {vs : List V}, Ims K H vs ds → Ims K H vs.reverse ds.reverse
  | [], _, h => by rw [h.nilD]; exact Ims.nil
  | d :: ds, _, h => by
    obtain ⟨v, vs', rfl, h1, h2⟩ := h.invD
    rw [List.reverse_cons, List.reverse_cons]
    exact h2.reverse.append (Ims.cons h1 Ims.nil)
theorem Ims.last {vs : List V} {ds : List PyData} {d : PyData} (h : Ims K H vs (ds ++ [d])) : ∃ vs' v, vs = vs' ++ [v] ∧ Ims K H vs' ds ∧ Im K H v d := by
  have hr := h.reverse
  rw [List.reverse_append] at hr
  obtain ⟨v, vs', e, h1, h2⟩ := hr.invD
  refine ⟨vs'.reverse, v, ?_, ?_, h1⟩
  · have := congrArg List.reverse e
    simpa using this
  · have := h2.reverse
    simpa using this
end
def sp_size (K : PySem.W.Frag) : Sp := fun vs H Q _ => ∃ (a : Addr) (xs : List V) (ts : List Tm) (P : Int → Prop), vs = [.ref a] ∧ (SqL K H a xs ∨ SqT K H a xs) ∧ Ims K H xs (Tm.ds ts) ∧ Tm.oks P ts ∧ (∀ i, P i → i.natAbs < 10 ^ 40) ∧ Tm.deps ts ≤ 50 ∧
  Tm.nod ts ≤ 100000 ∧ ∀ H', Mv [] H H' → Q (.int (Tm.sizes ts)) H'
def sp_leaves (K : PySem.W.Frag) : Sp := fun vs H Q _ => ∃ (a : Addr) (xs : List V) (ts : List Tm) (P : Int → Prop), vs = [.ref a] ∧ (SqL K H a xs ∨ SqT K H a xs) ∧ Ims K H xs (Tm.ds ts) ∧ Tm.oks P ts ∧ (∀ i, P i → i.natAbs < 10 ^ 40) ∧ Tm.deps ts ≤ 50 ∧
  Tm.nod ts ≤ 100000 ∧ ∀ p H', H p = none → Mv [] H H' → H' p = some (.lst ((Tm.leavesL ts).map V.int)) → Q (.ref p) H'
section
variable {P : Program} {w : World} {K : PySem.W.Frag} {mg : Str → Option Value} {base : Heap}
end
end Fm
namespace Fm
open PySem PySem.Spec PyProof.Rows L2
local macro_rules | `(tactic| walk_at "nn") => `(tactic| dsimp only [tC, tNil, tCons, tCB, tCall, gName, tSeq, tAsg, tPar, tDrop, tRet])
section
variable {P : Program} {w : World} {K : PySem.W.Frag} {mg : Str → Option Value} {base : Heap}
end
end Fm
namespace Fm
open PySem PySem.Spec PyProof.Rows L2
namespace Tm
mutual
theorem put_put (f g : Int → Tm) : ∀ t : Tm, put g (put f t) = put (fun i => put g (f i)) t
  | .var _ => by simp [put]
  | .op _ ts => by simp [put, puts_puts f g ts]
theorem puts_puts (f g : Int → Tm) : ∀ ts : List Tm, puts g (puts f ts) = puts (fun i => put g (f i)) ts
  | [] => by simp [puts]
  | t :: ts => by simp [puts, put_put f g t, puts_puts f g ts]
end
mutual
theorem put_id : ∀ t : Tm, put .var t = t
  | .var _ => by simp [put]
  | .op _ ts => by simp [put, puts_id ts]
theorem puts_id : ∀ ts : List Tm, puts .var ts = ts
  | [] => by simp [puts]
  | t :: ts => by simp [puts, put_id t, puts_id ts]
end
mutual
theorem size_put (f : Int → Tm) : ∀ t : Tm, size (put f t) = size t + ((leaves t).map fun i => size (f i)).sum
  | .var _ => by simp [put, size, leaves]
  | .op _ ts => by
    simp only [put, size, leaves, sizes_puts f ts]
    omega
theorem sizes_puts (f : Int → Tm) : ∀ ts : List Tm, sizes (puts f ts) = sizes ts + ((leavesL ts).map fun i => size (f i)).sum
  | [] => by simp [puts, sizes, leavesL]
  | t :: ts => by
    simp only [puts, sizes, leavesL, size_put f t, sizes_puts f ts, List.map_append, List.sum_append]
    omega
end
mutual
theorem lv_le {P : Int → Prop} : ∀ t : Tm, ok P t → lv t ≤ 2 * size t + 1
  | .var _, _ => by simp [lv, size]
  | .op _ ts, h => by
    have := lvs_le ts h.2.2
    have := h.2.1
    simp only [lv, size]
    omega
theorem lvs_le {P : Int → Prop} : ∀ ts : List Tm, oks P ts → lvs ts ≤ 2 * sizes ts + ts.length
  | [], _ => by simp [lvs]
  | t :: ts, h => by
    have := lv_le t h.1
    have := lvs_le ts h.2
    simp only [lvs, sizes, List.length_cons]
    omega
end
theorem size_le {t : Tm} : ∀ {ts : List Tm}, t ∈ ts → size t ≤ sizes ts
  | u :: ts, h => by
    rcases List.mem_cons.mp h with rfl | h
    · simp only [sizes]; omega
    · have := size_le h
      simp only [sizes]; omega
theorem sizes_small {P : Int → Prop} : ∀ (n : Nat) (t : Tm), ok P t → dep t ≤ n → 2 * size t + 1 ≤ 3 ^ n := by
  intro n
  induction n with
  | zero =>
    intro t h hd
    cases t with
    | var i => simp [size]
    | op x ts => simp [dep] at hd
  | succ n ih =>
    intro t h hd
    have hp : 1 ≤ 3 ^ n := Nat.one_le_pow _ _ (by decide)
    cases t with
    | var i =>
      simp only [size, Nat.pow_succ]
      omega
    | op x ts =>
      have hs : ∀ us : List Tm, oks P us → deps us ≤ n → 2 * sizes us + us.length ≤ us.length * 3 ^ n := by
        intro us
        induction us with
        | nil => intro _ _; simp [sizes]
        | cons u us ih2 =>
          intro ho hdd
          have h1 := ih u ho.1 (by simp only [deps] at hdd; omega)
          have h2 := ih2 ho.2 (by simp only [deps] at hdd; omega)
          simp only [sizes, List.length_cons, Nat.add_mul, Nat.one_mul]
          omega
      have h1 := hs ts h.2.2 (by simp only [dep] at hd; omega)
      have h3 := h.2.1
      simp only [size, Nat.pow_succ]
      generalize 3 ^ n = m at *
      have : ts.length = 0 ∨ ts.length = 1 ∨ ts.length = 2 ∨ ts.length = 3 := by omega
      rcases this with e | e | e | e <;> rw [e] at h1 <;> omega
end Tm
def vat (vs : List Tm) (i : Int) : Tm := (vs[i.toNat]?).getD (.var i)
def chAt (chs : List (Int × Tm)) (i : Nat) : Tm := ((chs.find? fun c => c.1 == (i : Int)).map (·.2)).getD (.var i)
def chT (n : Nat) (chs : List (Int × Tm)) : List Tm := (List.range n).map (chAt chs)
def chg (vs : List Tm) (chs : List (Int × Tm)) : List Tm := (chT vs.length chs).map (Tm.put (vat vs))
structure ChDp (many : Int) (dc : Nat) (chs : List (Int × Tm)) : Prop where
  ok : ∀ c ∈ chs, c.2.ok fun i => 0 ≤ i ∧ i < many
  dp : ∀ c ∈ chs, c.2.dep ≤ dc
end Fm
namespace Fm
open PySem PySem.Spec PyProof.Rows L2 SlX
local macro_rules | `(tactic| walk_at "nn") => `(tactic| dsimp only [tC, tNil, tCons, tCB, tCall, gName, tSeq, tAsg, tPar, tDrop, tRet])
local macro_rules | `(tactic| walk_at "nc") => `(tactic| dsimp only [tC, tNil, tCons, tCB, tCall])
def fit (i : Int) : Prop := i.natAbs < 10 ^ 40
structure VsOk (us : List Tm) : Prop where
  ok : Tm.oks fit us
  dp : Tm.deps us ≤ 50
  nd : Tm.nod us ≤ 10000
structure TsOk (many : Int) (ts : List Tm) : Prop where
  ok : Tm.oks (fun i => 0 ≤ i ∧ i < many) ts
  dp : Tm.deps ts ≤ 50
  nd : Tm.nod ts ≤ 10000
theorem Tm.nod_mem {t : Tm} {ts : List Tm} (h : t ∈ ts) : Tm.nod [t] ≤ Tm.nod ts := by
  have h1 := Tm.size_le h
  have h2 := Tm.lv_mem h
  simp only [Tm.nod, Tm.sizes, Tm.lvs]
  omega
theorem VsOk.one {us : List Tm} (h : VsOk us) {t : Tm} (ht : t ∈ us) : Tm.oks fit [t] ∧ Tm.deps [t] ≤ 50 ∧ Tm.nod [t] ≤ 10000 := by
  refine ⟨⟨Tm.oks_iff.mp h.ok t ht, trivial⟩, ?_, Nat.le_trans (Tm.nod_mem ht) h.nd⟩
  have := Tm.deps_le.mp h.dp t ht
  simp only [Tm.deps]
  omega
def sp_putAll (K : PySem.W.Frag) (d : Nat) : Sp := fun vs H Q _ => ∃ (a c : Addr) (xs ys : List V) (ts us : List Tm), vs = [.ref a, .ref c] ∧ (SqL K H a xs ∨ SqT K H a xs) ∧ Ims K H xs (Tm.ds ts) ∧ (SqL K H c ys ∨ SqT K H c ys) ∧ Ims K H ys (Tm.ds us) ∧
  Tm.oks (fun i => 0 ≤ i ∧ i < us.length) ts ∧ Tm.deps ts < d ∧ ts.length ≤ 1000 ∧ ∀ p zs H', Mv [] H H' → SqT K H' p zs → Ims K H' zs (Tm.ds (ts.map (Tm.put (vat us)))) → Q (.ref p) H'
def sp_sizePut (K : PySem.W.Frag) : Sp := fun vs H Q _ => ∃ (a c : Addr) (xs ys : List V) (ts us : List Tm), vs = [.ref a, .ref c] ∧ (SqL K H a xs ∨ SqT K H a xs) ∧ Ims K H xs (Tm.ds ts) ∧ (SqL K H c ys ∨ SqT K H c ys) ∧ Ims K H ys (Tm.ds us) ∧
  TsOk us.length ts ∧ VsOk us ∧ us.length ≤ 1000 ∧ ∀ H', Mv [] H H' → Q (.int (Tm.sizes (ts.map (Tm.put (vat us))))) H'
section
variable {P : Program} {w : World} {K : PySem.W.Frag} {mg : Str → Option Value} {base : Heap}
end
end Fm
namespace Fm
open PySem PySem.Spec PyProof.Rows L2
theorem paired_snoc {α β : Type} {F : α → β → Prop} : ∀ {l₁ : List α} {l₂ : List β} {a : α} {b : β}, Paired F l₁ l₂ → F a b → Paired F (l₁ ++ [a]) (l₂ ++ [b])
  | _, _, _, _, .nil, h => .cons h .nil
  | _, _, _, _, .cons x t, h => .cons x (paired_snoc t h)
theorem paired_len {α β : Type} {F : α → β → Prop} : ∀ {l₁ : List α} {l₂ : List β}, Paired F l₁ l₂ → l₁.length = l₂.length
  | _, _, .nil => rfl
  | _, _, .cons _ t => by simp [paired_len t]
theorem paired_bl {f : Th → Bool} : ∀ {ys : List V} {ts : List Th}, Paired (fun y t => y = V.bl (f t)) ys ts → ys = (ts.map f).map V.bl
  | _, _, .nil => rfl
  | _, _, .cons h t => by rw [h, paired_bl t]; rfl
theorem lc_th {K : PySem.W.Frag} {a b : Addr} {xs : List V} {ts : List Th} {g : TG} {tt : TT} {te : TE} {vs : List Nat} {σ : L2.St} {H : Hp} {Qd : Addr → Hp → Prop} (c : Th → Bool) (Rel : V → Th → Prop) (hS : SqL K H a xs ∨ SqT K H a xs) (hI : IsAll K b H xs ts) (hlen : ts.length ≤ 90000)
    (hs : ∀ x t H' (Q : VK) (R : Hp → Prop), t ∈ ts → Is K b H x t → Mv [] H H' → (c t = true → ∀ y H4, Rel y t → Mv [] H' H4 → Q y H4) → (c t = false → ∀ H4, Mv [] H' H4 → R H4) →
      g x (wipe σ vs) H' fun σ2 H2 => wipe σ2 vs = wipe σ vs ∧ tt σ2 H2 fun k H3 => if k = true then te σ2 H3 Q else R H3)
    (hd : ∀ D ys H', H D = none → H' D = some (.lst ys) → Paired Rel ys (ts.filter c) → Mv [] H H' → Qd D H') :
    ((∃ xs, SqL K H a xs) ∧ ∀ D, H D = none → ∃ W : Nat → Nat → Hp → Prop, (∃ m, W 0 m (upd H D (.lst []))) ∧ ∀ i m H, W i m H →
      ((Itl K a).stop i H ∧ Qd D H) ∨ ((Itl K a).go i H ∧ ∃ Nx : Hp → Prop, (∀ H', Nx H' → ∃ m', m' < m ∧ W (i + 1) m' H') ∧ ∀ x H', (Itl K a).yld i H x H' → g x (wipe σ vs) H' fun σ2 H2 => wipe σ2 vs = wipe σ vs ∧ tt σ2 H2 fun k H3 =>
        if k = true then te σ2 H3 fun y H4 => ∃ acc, H4 D = some (.lst acc) ∧ acc.length < sizeLine ∧ Nx (upd H4 D (.lst (acc ++ [y]))) else Nx H3)) ∨
    ((∃ xs, SqT K H a xs) ∧ ∀ D, H D = none → ∃ W : Nat → Nat → Hp → Prop, (∃ m, W 0 m (upd H D (.lst []))) ∧ ∀ i m H, W i m H →
      ((Itt K a).stop i H ∧ Qd D H) ∨ ((Itt K a).go i H ∧ ∃ Nx : Hp → Prop, (∀ H', Nx H' → ∃ m', m' < m ∧ W (i + 1) m' H') ∧ ∀ x H', (Itt K a).yld i H x H' → g x (wipe σ vs) H' fun σ2 H2 => wipe σ2 vs = wipe σ vs ∧ tt σ2 H2 fun k H3 =>
        if k = true then te σ2 H3 fun y H4 => ∃ acc, H4 D = some (.lst acc) ∧ acc.length < sizeLine ∧ Nx (upd H4 D (.lst (acc ++ [y]))) else Nx H3)) := by
  have hxl := hI.length
  refine lc_seq hS (fun i D H1 => ∃ ys, H1 D = some (.lst ys) ∧ Paired Rel ys ((ts.take i).filter c) ∧ Mv [] H H1)
    (fun D nD => ⟨[], upd_same, .nil, .new nD⟩) (fun i D H1 nD h1 => h1.choose_spec.2.2) (fun D nD i x H1 hx h1 => ?_) (fun D H1 nD h1 => ?_)
  · obtain ⟨ys, e1, i1, m1⟩ := h1
    obtain ⟨t, ht, him⟩ := hI.get hx
    have hil := (List.getElem?_eq_some_iff.mp ht).1
    have htk : ts.take (i + 1) = ts.take i ++ [t] := by rw [List.take_add_one, ht]; rfl
    refine hs x t H1 _ _ (List.mem_of_getElem? ht) him m1 (fun hc y H4 hy m4 => ?_) (fun hc H3 m3 => ?_)
    · have e4 := m4.same _ _ e1
      refine ⟨ys, e4, ?_, ys ++ [y], upd_same, ?_, (m1.trans m4).wr nD⟩
      · rw [paired_len i1]
        have h3 : ((ts.take i).filter c).length ≤ (ts.take i).length := List.length_filter_le _ _
        rw [List.length_take] at h3
        exact Nat.lt_of_le_of_lt (show _ ≤ 90000 by omega) (by decide)
      · rw [htk, List.filter_append]
        simp only [List.filter_cons, hc, if_true, List.filter_nil]
        exact paired_snoc i1 hy
    · refine ⟨ys, m3.same _ _ e1, ?_, m1.trans m3⟩
      rw [htk, List.filter_append]
      simp only [List.filter_cons, hc, Bool.false_eq_true, if_false, List.filter_nil, List.append_nil]
      exact i1
  · obtain ⟨ys, e1, i1, m1⟩ := h1
    rw [hxl, List.take_length] at i1
    exact hd D ys H1 nD e1 i1 m1
end Fm
namespace Fm
open PySem PySem.Spec PyProof.Rows L2
section
variable {P : Program} {w : World} {K : PySem.W.Frag} {mg : Str → Option Value} {base : Heap}
theorem _root_.L2.Fun.okN {x qual : Str} {st : Stmt} {f : Addr} {fd : FuncData} {N ps : List Str} {k : Nat} {sp : Sp} (F : Fun K x qual st f fd) (S : FnScope N ps (defScope st)) (len : ∀ vs H Q E, sp vs H Q E → vs.length = ps.length)
    (hbody : ∀ (cdv : Value) (A : Around) (outer : List Env) (s : Shared) (H : Hp) (vs : List V) (Q : VK) (E : XK), Room k (A.deeper (envOfC qual (defScope st) s.heap.objs.size f cdv)) → sp vs H Q E →
      ∃ t, PSs (cxOf (L2N.CX P w) P w K mg base N qual (defScope st) f cdv A outer s H E) (defBody st) t ∧ t { nx := fun _ H' => Q .non H', rt := Q } (start N vs) H) : FnOk P w K mg base (L2N.CX P w) (k + 1) f fd ps sp := by
  obtain ⟨oc, od, kV, doc, pm, an, cdv, ct, osl, rfl, lk, hcd⟩ := F.ex
  exact fn_of lk hcd S len fun A outer s H vs Q E hr hsp => hbody cdv A outer s H vs Q E hr hsp
theorem cx_imp {outer : List Env} {H : Hp} {s : Shared} {E : XK} {u : Value} {s' : Shared} (h : L2N.CX P w outer H s E u s') : L2.CX P w outer H s E u s' := by
  obtain ⟨a, B, H', cls, d, e, fl, r⟩ := h
  exact ⟨a, B, H', cls, d, e, L2H.flyingZ_imp (fun o z => z.zc) fl, r⟩
theorem FnOk.ofN {k : Nat} {f : Addr} {fd : FuncData} {ps : List Str} {sp : Sp} (F : FnOk P w K mg base (L2N.CX P w) k f fd ps sp) : FnOk P w K mg base (L2.CX P w) k f fd ps sp :=
  ⟨F.len, fun A outer s H args us vs Q E hr he hb hv hs => codeAny_mono (F.run A outer s H args us vs Q E hr he hb hv hs) fun r s' h => by
    cases r with
    | ok fl => cases fl <;> exact h
    | error e => exact cx_imp h⟩
end
section
variable {X : Cx} {C : Addr} {x f : Str}
theorem pmk_x5 {a : Expr} {ta : TA} {p pos : Pos} {k : Nat} (T : ExT X.prog X.K X.mg x f C) (hr : Room k X.A) (ha : PA X [a] ta) (hg : Gl X x := by rfl) (hdb : (x == ("__debug__" : Str)) = false := by decide)
    (he : starEach (a :: []) X.env = (false, eval a X.env) :: starEach [] X.env := by rfl) (hpl : (backTo pos (starEach [] X.env)).any (·.1) = false := by rfl) :
    L2H.PMk5 X (.Call (.Name x p) [a] [] pos) (tMkX C f ta) := by
  intro pins s σ H Q I h
  refine wpAny_Call_Name_kw (ld_glob I hg T.gC ?_ hdb)
  refine PySem.W.callWith_K (h₀ := X.base) I.ok.mod.kin T.kC (thn (ha.run pos pins s σ H _ I h) fun us s1 hh => ?_) he hpl
  obtain ⟨vs, H1, I1, r1, v, rfl, q1⟩ := hh
  refine ⟨I1.kIn, ?_⟩
  obtain ⟨v', rfl, rv⟩ := r1.one
  have keepB : ∀ b o, X.base.get? b = some o → s1.heap.get? b = some o := fun b o z => (I1.env0.bs b o z).1
  have hG := I1.env0.mod.glob.keeps keepB
  obtain ⟨mb, hmb, hbt⟩ := I1.env0.mod.blt
  show wpAny _ _ (call (.ref C) [v']) _ _ _
  have hlim := I1.nolimit
  have hmb' := hmb.keeps keepB
  obtain ⟨hp, g, dr, tk, os⟩ := s1
  refine wpAny_call (vx_made T I1.kIn hG ⟨mb, hmb', hbt⟩ hlim (by have := hr.dp; omega) fun h' tk' e d M => ?_)
  show L2N.MkP X pins σ Q (.ref e) ⟨h', g, dr, tk', os⟩ ∧ L2H.Six (.ref e) ⟨h', g, dr, tk', os⟩
  obtain ⟨t1, hoe⟩ := M.obj
  have hns := M.ns
  refine ⟨?_, fun a oe vs ea hg' hd => ?_⟩
  · obtain ⟨G', g1, g2⟩ := restrict h' fun b => decide (b ≠ e)
    have gk : ∀ b, b ≠ e → G'.get? b = h'.get? b := fun b hb => g1 b (decide_eq_true hb)
    have ge : G'.get? e = none := g2 e (by simp)
    have old : ∀ b o, hp.get? b = some o → G'.get? b = some o := fun b o q => (gk b (Nat.ne_of_lt (Nat.lt_of_lt_of_le (Heap.lt_size q) M.new))).trans (M.keep b o q)
    have ob : ObjOk X.prog X.w (upd H1 d (.xd [(f, v)])) G' d (.xd [(f, v)]) := ⟨_, hns.at (fun o q => (gk d M.dne).trans q), fun y => relO_one rv f y⟩
    have J : Inv X pins σ (upd H1 d (.xd [(f, v)])) ⟨G', g, dr, tk', os⟩ := I1.laid (t' := tk') old M.dbig ob
    refine ⟨e, _, _, ⟨G', g, dr, tk', os⟩, _, .ref C, some d, rfl, J, fun b o q => ?_, ge, hoe, ⟨rfl, rfl, fun vs z => by cases z; rfl⟩, rfl, rfl, ?_, rfl, I1.bare, raises_own T.exC T.tyC, q1 d (I1.hok.fresh M.dbig)⟩
    · by_cases hb : b = e
      · have q' : G'.get? b = some o := q
        rw [hb, ge] at q'
        cases q'
      · exact (gk b hb).symm.trans q
    · rw [upd_ne (Ne.symm M.dne)]
      exact I1.hok.fresh M.new
  · cases ea
    have he' : h'.get? e = some oe := hg'
    rw [hoe] at he'
    cases he'
    cases hd
    show (4 : Nat) < 6
    decide
theorem pmk_xN {a : Expr} {ta : TA} {p pos : Pos} {k : Nat} (T : ExT X.prog X.K X.mg x f C) (hr : Room k X.A) (ha : PA X [a] ta) (hg : Gl X x := by rfl) (hdb : (x == ("__debug__" : Str)) = false := by decide)
    (he : starEach (a :: []) X.env = (false, eval a X.env) :: starEach [] X.env := by rfl) (hpl : (backTo pos (starEach [] X.env)).any (·.1) = false := by rfl) :
    L2N.PMk X (.Call (.Name x p) [a] [] pos) (tMkX C f ta) := (pmk_x5 T hr ha hg hdb he hpl).pmk
end
end Fm
namespace Fm
open PySem PySem.Spec PyProof.Rows L2 SlX
local macro_rules | `(tactic| walk_at "nn") => `(tactic| dsimp only [tC, tNil, tCons, tCB, tCall, gName, tSeq, tAsg, tPar, tDrop, tRet])
local macro_rules | `(tactic| walk_at "nc") => `(tactic| dsimp only [tC, tNil, tCons, tCB, tCall])
inductive RcV (K : PySem.W.Frag) (b C : Addr) (H : Hp) : V → Option (List V × List Th) → Prop
  | lst {a : Addr} {xs : List V} {ts : List Th} : a ≠ b → H a = some (.lst xs) → IsAll K b H xs ts → RcV K b C H (.ref a) (some (xs, ts))
  | tup {a : Addr} {xs : List V} {ts : List Th} : SqT K H a xs → IsAll K b H xs ts → RcV K b C H (.ref a) (some (xs, ts))
  | odd {v : V} {t : Th} : Is K b H v t → isLstT t = false → isTupT t = false → RcV K b C H v none
  | ins {a dx : Addr} {vs : List (Option V)} : Slt H a C dx vs → RcV K b C H (.ref a) none
def recWrong (tm : Th) (rows : Option (List V × List Th)) : Option Nat :=
  match tm with
  | .int many => if many < 0 then some 0 else match rows with
    | some r => if (r.2.all fun t => isTerm t && under many t) = true then none else some 1
    | none => some 1
  | _ => some 0
def RecAt (K : PySem.W.Frag) (H : Hp) (C x : Addr) (many : Int) (ts : List Tm) : Prop := ∃ dx p xs, Slt H x C dx [some (.ref p), some (.int many)] ∧ SqT K H p xs ∧ Ims K H xs (Tm.ds ts)
section
variable {K : PySem.W.Frag} {H H' : Hp} {b C x : Addr}
theorem RcV.mv0 {v : V} {o : Option (List V × List Th)} (h : RcV K b C H v o) (m : Mv [] H H') : RcV K b C H' v o := by
  cases h with
  | lst h0 h1 h2 => exact .lst h0 (m.same _ _ h1) (h2.mv0 m)
  | tup h1 h2 => exact .tup (m.sqT h1) (h2.mv0 m)
  | odd h h1 h2 => exact .odd (h.mv0 m) h1 h2
  | ins h => exact .ins (Slt.mv h m)
theorem RecAt.mv {many : Int} {ts : List Tm} (h : RecAt K H C x many ts) (m : Mv [] H H') : RecAt K H' C x many ts := by
  obtain ⟨dx, p, xs, h1, h2, h3⟩ := h
  exact ⟨dx, p, xs, Slt.mv h1 m, m.sqT h2, h3.mv m⟩
theorem RecAt.dr {many : Int} {ts : List Tm} (h : RecAt K H C x many ts) (m : Dr b H H') (hB : Bag H b) : RecAt K H' C x many ts := by
  obtain ⟨dx, p, xs, h1, h2, h3⟩ := h
  exact ⟨dx, p, xs, Slt.dr h1 m hB, m.mv.sqT h2, h3.mv m.mv⟩
theorem rd_isTX {v : V} {o : Option (List V × List Th)} {p : Addr} {Q : VK} (h : RcV K b C H v o) (hp : H p = some (.tup [.ty "list", .ty "tuple"])) (hc : SCls K C) (hi : SIsi K C) (hn : PySem.W.kitAny K (.ref C) [.type "list", .type "tuple"] = some false) (q : Q (.bl o.isSome) H) : rIsiTX K [v, .ref p] H Q := by
  have key : (∃ t c, TyX K H v t ∧ PySem.W.kitAny K t [.type "list", .type "tuple"] = some c ∧ c = o.isSome) ∨ ∃ a dx vs, v = .ref a ∧ Slt H a C dx vs ∧ o = none := by
    cases h with
    | lst h0 h1 h2 => exact .inl ⟨_, true, .base (.lst h1), kitAny_cons (b := true) (kit_ty (b := "list") (by decide +kernel)) (fun z => by cases z) (fun _ => rfl), rfl⟩
    | tup h1 h2 => exact .inl ⟨_, true, tyx_sqT h1, kitAny_cons (r := true) (kit_ty (a := "tuple") (b := "list") (r := false) (by decide +kernel)) (fun _ => kitAny_cons (b := true) (kit_ty (by decide +kernel)) (fun z => by cases z) (fun _ => rfl)) (fun z => by cases z), rfl⟩
    | @odd _ t h h1 h2 =>
      refine .inl ⟨_, false, tyx_is h, kitAny_cons (kit_ty (kit_lst t)) (fun _ => kitAny_cons (kit_ty (kit_tup t)) (fun _ => rfl) (fun e => ?_)) (fun e => ?_), rfl⟩
      · rw [h2] at e
        cases e
      · rw [h1] at e
        cases e
    | ins h => exact .inr ⟨_, _, _, rfl, h, rfl⟩
  rcases key with ⟨t, c, ht, hk, rfl⟩ | ⟨a, dx, vs, rfl, hs, rfl⟩
  · exact .inl ⟨_, p, _, t, [.type "list", .type "tuple"], o.isSome, rfl, hp, .cons (.ty "list") (.cons (.ty "tuple") .nil), ht, hk, q⟩
  · exact .inr ⟨a, C, dx, vs, p, _, [.type "list", .type "tuple"], false, rfl, hp, .cons (.ty "list") (.cons (.ty "tuple") .nil), hs, hc, hi, hn, q⟩
end
theorem rd_tupSq {K : PySem.W.Frag} {H : Hp} {a : Addr} {xs : List V} {Q : VK} (h : SqL K H a xs ∨ SqT K H a xs) (q : ∀ p H', Mv [] H H' → SqT K H' p xs → Q (.ref p) H') : rTupOf K [.ref a] H Q :=
  h.elim (fun h => rd_tupOf h q) fun h => ⟨a, xs, rfl, .inr ⟨h, q a H .refl h⟩⟩
def sp_RecT (K : PySem.W.Frag) (C EW : Addr) : Sp := fun vs H Q E => ∃ (x dx : Addr) (mv tv : V) (b : Addr) (tm : Th) (rows : Option (List V × List Th)) (H0 : Hp), vs = [.ref x, mv, tv] ∧ H = upd (upd H0 dx (.own x)) x (.ins C dx []) ∧ H0 x = none ∧ H0 dx = none ∧ dx ≠ x ∧
  Is K b H0 mv tm ∧ RcV K b C H0 tv rows ∧ (∀ r, rows = some r → r.2.length ≤ 90000 ∧ ∀ t ∈ r.2, t.cnt ≤ 90000) ∧
  (∀ k : Nat, recWrong tm rows = some k → ∀ dd H', Mv [] H0 H' → H' dd = none → E (.ref EW) (some dd) (upd H' dd (.xd [("place", .int (k : Nat))]))) ∧
  ∀ many r, tm = .int many → rows = some r → recWrong tm rows = none → ∀ p H', Mv [] H0 H' → Slt H' x C dx [some (.ref p), some (.int many)] → SqT K H' p r.1 → Q .non H'
section
variable {P : Program} {w : World} {K : PySem.W.Frag} {mg : Str → Option Value} {base : Heap}
theorem ok_Recipe___init__N (T : TX K mg) (Y : TY P K mg) {k : Nat} : FnOk P w K mg base (L2N.CX P w) (k + 5) T.d_Recipe___init__.f T.d_Recipe___init__.fd P_Recipe___init__ (sp_RecT K T.C_Recipe Y.C_Wrong) := by
  have G_is_integer : FnOk P w K mg base CX0 1 T.d_is_integer.f T.d_is_integer.fd P_is_integer (sp_kind K isWhole) := ok_is_integer T
  have G_is_term_over : FnOk P w K mg base CX0 3 T.d_is_term_over.f T.d_is_term_over.fd P_is_term_over (sp_termOver K) := ok_is_term_over T
  refine T.d_Recipe___init__.F.okN sc_Recipe___init__ (fun vs H Q E h => ?_) (fun cdv A outer s H vs Q E hr h => ?_)
  · obtain ⟨_, _, _, _, _, _, _, _, rfl, _⟩ := h
    rfl
  · obtain ⟨x, dx, mv, tv, b, tm, rows, H0, rfl, eH, nx, ndx, hne, hm0, hT0, hbd, qW, q⟩ := h
    have hu65 := hu65_of hr
    have hu64 := hr.units
    refine ⟨_, (pss_cons (ps_if (PW.pt (pw_or (pt_not (pt_val (pe_call G_is_integer (hr.mono (by omega)) rfl T.d_is_integer.g T.d_is_integer.F.kp T.d_is_integer.b .nil pass0 (pa_cons (pv 1) pa_nil)))) (pw_or1 (pt_cmpR op_lt (pv 1) pe_int (nomark _))))) (pss_one (L2N.ps_raise rfl (L2N.takes_of rfl rfl rfl rfl) (pmk_xN Y.x_Wrong hr (pa_cons pe_int pa_nil)))) pss_nil) (pss_cons (ps_if (PW.pt (pw_or (pt_not (pt_val (pe_callB (r := rIsiTX K) call_isiTX (by rfl) T.b_isinstance bt_isinstance (pa_cons (pv 2) (pa_cons (pe_tup (pa_cons (pe_ty T.b_list bt_list) (pa_cons (pe_ty T.b_tuple bt_tuple) pa_nil))) pa_nil))))) (pw_or1 (pt_not (pt_val (pe_callB (r := rAll K) (cr_all rfl) (by rfl) T.b_all bt_all (pa_cons (pe_lc (own := [("term", 3)]) (g := gName 3) (by rfl) sc_Recipe___init__.nd (pi_seq (pv 2)) (blkOk_by (own := [("term", 3)]) (N := N_Recipe___init__) (sc := defScope s_Recipe___init__) (by decide +kernel)) (fun _ _ _ _ _ => pg_name (i := 3) sc_Recipe___init__.nd rfl (Or.inl rfl)) (fun _ _ _ _ _ => pts_nil) (fun _ _ _ _ _ => (pe_call G_is_term_over (hr.mono (by omega)) rfl T.d_is_term_over.g T.d_is_term_over.F.kp T.d_is_term_over.b .nil pass0 (pa_cons (pv 1) (pa_cons (pv 3) pa_nil))))) pa_nil))))))) (pss_one (L2N.ps_raise rfl (L2N.takes_of rfl rfl rfl rfl) (pmk_xN Y.x_Wrong hr (pa_cons pe_int pa_nil)))) pss_nil) (pss_cons (ps_sl (pv 0) (pv 1)) (pss_one (ps_sl (pv 0) (pe_callTy (r := rTupOf K) call_tupG (by rfl) T.b_tuple bt_tuple (pa_cons (pv 2) pa_nil))))))), ?_⟩
    have mH : Mv [] H0 H := by
      rw [eH]
      exact (Mv.new ndx).wr nx
    have hx : H x = some (.ins T.C_Recipe dx []) := by rw [eH]; exact upd_same
    have hdx : H dx = some (.own x) := by rw [eH, upd_ne hne]; exact upd_same
    clear eH
    have hm := hm0.mv0 mH
    have hT := hT0.mv0 mH
    have wrong : ∀ (k : Nat) H1, recWrong tm rows = some k → Mv [] H H1 → ∀ dd, H1 dd = none → E (.ref Y.C_Wrong) (some dd) (upd H1 dd (.xd [("place", .int (k : Nat))])) := fun k H1 hk m1 dd nd => qW k hk dd H1 (mH.trans m1) nd
    refine ⟨mv, rfl, mv, tm, b, rfl, hm, fun H1 m1 => ⟨_, rfl, ?_⟩⟩
    cases htm : isWhole tm with
    | false =>
      refine ⟨.int 0, rfl, fun dd nd => wrong 0 H1 ?_ m1 dd nd⟩
      cases tm <;> first | rfl | cases htm
    | true =>
      obtain ⟨many, rfl⟩ : ∃ i, tm = .int i := by
        cases tm <;> first | exact ⟨_, rfl⟩ | cases htm
      cases (show mv = V.int many from hm)
      refine ⟨.int many, rfl, many, 0, rfl, rfl, _, rfl, ite2 (fun e0 => ?_) (fun e0 => ?_)⟩
      · have h0 : many < 0 := by simpa using e0
        refine ⟨.int 0, rfl, fun dd nd => wrong 0 H1 ?_ m1 dd nd⟩
        show (if many < 0 then some 0 else _) = _
        rw [if_pos h0]
      have h0 : ¬ many < 0 := by simpa using e0
      refine ⟨tv, rfl, (by decide : 2 ≤ sizeLine), fun p5 np5 => ?_⟩
      have m5 : Mv [] H (upd H1 p5 (.tup [.ty "list", .ty "tuple"])) := m1.trans (.new np5)
      have e5 : upd H1 p5 (.tup [.ty "list", .ty "tuple"]) p5 = some (.tup [.ty "list", .ty "tuple"]) := upd_same
      generalize upd H1 p5 (.tup [.ty "list", .ty "tuple"]) = H5 at m5 e5 ⊢
      have hT5 := hT.mv0 m5
      walk_at "nn"
      refine rd_isTX hT5 e5 T.c_Recipe T.is_Recipe (kitAny_no T.nl_Recipe T.nt_Recipe) ?_
      refine ⟨_, rfl, ?_⟩
      cases hrows : rows with
      | none =>
        refine ⟨.int 1, rfl, fun dd nd => wrong 1 H5 ?_ m5 dd nd⟩
        rw [hrows]
        show (if many < 0 then some 0 else _) = _
        rw [if_neg h0]
      | some r =>
        obtain ⟨xs, ts⟩ := r
        subst hrows
        obtain ⟨sl, rfl, hSq0, hxs0⟩ : ∃ sl, tv = .ref sl ∧ (SqL K H0 sl xs ∨ SqT K H0 sl xs) ∧ IsAll K b H0 xs ts := by
          cases hT0 with
          | lst h0 h1 h2 => exact ⟨_, rfl, .inl (.inl (.inl h1)), h2⟩
          | tup h1 h2 => exact ⟨_, rfl, .inr h1, h2⟩
        have hSq := (mH.trans m5).seq hSq0
        have hxs := hxs0.mv0 (mH.trans m5)
        obtain ⟨hl, hcn⟩ := hbd _ rfl
        refine ⟨.ref sl, rfl, sl, rfl, ?_⟩
        refine lc_th (K := K) (b := b) (fun _ => true) (fun y t => y = V.bl (isTerm t && under many t)) hSq hxs hl (fun y t H6 Q' R hm' hy m6 k1 _ => ?_) (fun D ys H6 nD e6 hp m6 => ?_)
        · exact ⟨rfl, .int many, rfl, y, rfl, many, y, t, b, rfl, hy.mv0 m6, hcn t hm', fun H7 m7 => k1 rfl _ H7 rfl m7⟩
        · rw [List.filter_eq_self.mpr fun _ _ => rfl] at hp
          rw [paired_bl hp] at e6
          have m06 := m5.trans m6
          refine ⟨D, _, rfl, .inl (.inl e6), ?_⟩
          have ea : (ts.map fun t => isTerm t && under many t).all id = ts.all fun t => isTerm t && under many t := by rw [List.all_map]; rfl
          rw [ea]
          refine ⟨_, rfl, ite2 (fun e1 => ?_) (fun e1 => ?_)⟩
          · refine ⟨.int 1, rfl, fun dd nd => wrong 1 H6 ?_ m06 dd nd⟩
            show (if many < 0 then some 0 else if _ then none else some 1) = _
            rw [if_neg h0, if_neg (by simpa using e1)]
          · have hgood : recWrong (.int many) (some (xs, ts)) = none := by
              show (if many < 0 then some 0 else if _ then none else some 1) = _
              rw [if_neg h0, if_pos (by simpa using e1)]
            have hx6 := m06.same _ _ hx
            have hd6 := m06.same _ _ hdx
            refine ⟨.int many, rfl, .ref x, rfl, x, T.C_Recipe, dx, T.p_Recipe_its_variables, [], 1, rfl, Or.inl ⟨hx6, rfl⟩, T.c_Recipe, T.sl_Recipe_its_variables, ?_⟩
            have m7 := (mH.trans m06).sl (C := T.C_Recipe) (vs := putS 1 (.int many) []) nx ndx
            have k7 := Mv.slA hne hx6 hd6 (us := putS 1 (.int many) [])
            have hx7 := slH_x (H := H6) (x := x) (C := T.C_Recipe) (dx := dx) (vs := putS 1 (.int many) [])
            have hd7 := slH_dx (H := H6) (C := T.C_Recipe) (vs := putS 1 (.int many) []) hne
            have hs7 := slH_slt (H := H6) (C := T.C_Recipe) (vs := putS 1 (.int many) []) hne
            generalize slH H6 x T.C_Recipe dx (putS 1 (.int many) []) = H7 at k7 m7 hx7 hd7 hs7 ⊢
            refine ⟨.ref sl, rfl, ?_⟩
            walk_at "nc"
            refine rd_tupSq (m7.seq hSq0) fun p H8 m8 e8 => ?_
            have hx8 := m8.same _ _ hx7
            have hd8 := m8.same _ _ hd7
            refine ⟨.ref x, rfl, x, T.C_Recipe, dx, T.p_Recipe_its_terms, _, 0, rfl, Slt.mv hs7 m8, T.c_Recipe, T.sl_Recipe_its_terms, ?_⟩
            have m9 := (m7.trans m8).sl (C := T.C_Recipe) (vs := putS 0 (.ref p) (putS 1 (.int many) [])) nx ndx
            have k9 := Mv.slB hne hx8 hd8 (us := putS 0 (.ref p) (putS 1 (.int many) []))
            have hs9 := slH_slt (H := H8) (C := T.C_Recipe) (vs := putS 0 (.ref p) (putS 1 (.int many) [])) hne
            generalize slH H8 x T.C_Recipe dx (putS 0 (.ref p) (putS 1 (.int many) [])) = H9 at m9 k9 hs9 ⊢
            exact q many _ rfl rfl hgood p H9 m9 hs9 (k9.sqT e8)
theorem ok_Recipe___init__ (T : TX K mg) (Y : TY P K mg) {k : Nat} : FnOk P w K mg base (CX P w) (k + 5) T.d_Recipe___init__.f T.d_Recipe___init__.fd P_Recipe___init__ (sp_RecT K T.C_Recipe Y.C_Wrong) := FnOk.ofN (ok_Recipe___init__N T Y)
end
end Fm
namespace Fm
open PySem PySem.Spec PyProof.Rows L2 SlX
local macro_rules | `(tactic| walk_at "nn") => `(tactic| dsimp only [tC, tNil, tCons, tCB, tCall, gName, tSeq, tAsg, tPar, tDrop, tRet])
local macro_rules | `(tactic| walk_at "nc") => `(tactic| dsimp only [tC, tNil, tCons, tCB, tCall])
def tsD (ts : List Tm) : PyData := .tuple (Tm.ds ts)
def over (n : Int) (i : Int) : Prop := 0 ≤ i ∧ i < n
def varsT (n : Nat) : List Tm := (List.range n).map fun i => Tm.var (i : Nat)
def sp_Recvars (K : PySem.W.Frag) (C : Addr) : Sp := fun vs H Q _ => ∃ (x : Addr) (many : Int) (ts : List Tm), vs = [.ref x] ∧ RecAt K H C x many ts ∧ Q (.int many) H
def sp_Recterms (K : PySem.W.Frag) (C : Addr) : Sp := fun vs H Q _ => ∃ (x : Addr) (many : Int) (ts : List Tm), vs = [.ref x] ∧ RecAt K H C x many ts ∧ ∀ v, Im K H v (tsD ts) → Q v H
def sp_Reclen (K : PySem.W.Frag) (C : Addr) : Sp := fun vs H Q _ => ∃ (x : Addr) (many : Int) (ts : List Tm), vs = [.ref x] ∧ RecAt K H C x many ts ∧ Q (.int ts.length) H
def sp_Reckeep (K : PySem.W.Frag) (C : Addr) : Sp := fun vs H Q _ => ∃ (many : Int), vs = [.int many] ∧ 0 ≤ many ∧ many ≤ 1000 ∧ ∀ x H', Mv [] H H' → RecAt K H' C x many (varsT many.toNat) → Q (.ref x) H'
def sp_Reccall (K : PySem.W.Frag) (C : Addr) (d : Nat) : Sp := fun vs H Q _ => ∃ (x c : Addr) (many : Int) (ts us : List Tm) (ys : List V), vs = [.ref x, .ref c] ∧ RecAt K H C x many ts ∧ (SqL K H c ys ∨ SqT K H c ys) ∧ Ims K H ys (Tm.ds us) ∧
  Tm.oks (fun i => 0 ≤ i ∧ i < us.length) ts ∧ Tm.deps ts < d ∧ ts.length ≤ 1000 ∧ ∀ v H', Mv [] H H' → Im K H' v (tsD (ts.map (Tm.put (vat us)))) → Q v H'
def sp_Recmul (K : PySem.W.Frag) (C EU : Addr) (d : Nat) : Sp := fun vs H Q E => ∃ (x y : Addr) (many wide : Int) (ts us : List Tm), vs = [.ref x, .ref y] ∧ RecAt K H C x many ts ∧ RecAt K H C y wide us ∧ 0 ≤ many ∧ ts.length ≤ 1000 ∧
  (wide ≠ ts.length → E (.ref EU) none H) ∧
  (wide = ts.length → Tm.oks (fun i => 0 ≤ i ∧ i < many) ts ∧ Tm.oks (fun i => 0 ≤ i ∧ i < ts.length) us ∧ Tm.deps us < d ∧ us.length ≤ 1000 ∧ (∀ t ∈ us.map (Tm.put (vat ts)), t.cst + t.lv ≤ 90000) ∧ ∀ z H', Mv [] H H' → RecAt K H' C z many (us.map (Tm.put (vat ts))) → Q (.ref z) H')
def recEq (many many2 : Int) (ts ts2 : List Tm) : Bool := decide (many = many2) && PyData.eqv (tsD ts) (tsD ts2)
def sp_RecipeEq (K : PySem.W.Frag) (C : Addr) : Sp := fun vs H Q _ => ∃ (x : Addr) (many : Int) (ts : List Tm) (y : V), vs = [.ref x, y] ∧ RecAt K H C x many ts ∧ SeqAt.shaped (tsD ts) = true ∧
  ((∃ x2 many2 ts2, y = .ref x2 ∧ RecAt K H C x2 many2 ts2 ∧ SeqAt.shaped (tsD ts2) = true ∧ Q (.bl (recEq many many2 ts ts2)) H) ∨ (∃ T, TyX K H y (.type T) ∧ plainTy T = true ∧ Q (.bl false) H))
def recText (many : Int) (ts : List Tm) : Str := Str.ofString "Recipe(" ++ (PyData.int many).shown ++ Str.ofString ", " ++ (tsD ts).shown ++ Str.ofString ")"
def sp_Recrepr (K : PySem.W.Frag) (C : Addr) : Sp := fun vs H Q _ => ∃ (x : Addr) (many : Int) (ts : List Tm), vs = [.ref x] ∧ RecAt K H C x many ts ∧ many.natAbs < 10 ^ 40 ∧ Shw (tsD ts) ∧ Q (.str (recText many ts)) H
theorem ths_map : ∀ ts : List Tm, Tm.ths ts = ts.map Tm.th
  | [] => by simp [Tm.ths]
  | t :: ts => by simp [Tm.ths, ths_map ts]
theorem rec_good {many : Int} {ts : List Tm} {xs : List V} (hm : 0 ≤ many) (ho : Tm.oks (fun i => 0 ≤ i ∧ i < many) ts) (hl : ts.length ≤ 90000) (hc : ∀ t ∈ ts, t.cst + t.lv ≤ 90000) :
    recWrong (.int many) (some (xs, Tm.ths ts)) = none ∧ (Tm.ths ts).length ≤ 90000 ∧ ∀ t ∈ Tm.ths ts, t.cnt ≤ 90000 := by
  refine ⟨?_, by rw [ths_len]; exact hl, fun t ht => ?_⟩
  · show (if many < 0 then some 0 else if _ then none else some 1) = _
    rw [if_neg (by omega), if_pos ?_]
    rw [List.all_eq_true]
    intro t ht
    rw [ths_map] at ht
    obtain ⟨u, hu, rfl⟩ := List.mem_map.mp ht
    have h1 := Tm.oks_iff.mp ho u hu
    rw [isTerm_th (fun i h => h.1) u h1, under_th (fun i h => h.2) u h1]
    rfl
  · rw [ths_map] at ht
    obtain ⟨u, hu, rfl⟩ := List.mem_map.mp ht
    have := cnt_th u
    have := hc u hu
    omega
def vv : Tm → V
  | .var i => .int i
  | _ => .non
theorem rgv_vars (n : Int) : rgV 0 n = (varsT n.toNat).map vv := by
  unfold rgV varsT
  rw [List.map_map, Int.sub_zero]
  refine List.map_congr_left fun i _ => ?_
  show V.int (0 + (i : Int)) = V.int (i : Int)
  rw [Int.zero_add]
theorem ims_list {K : PySem.W.Frag} {H : Hp} : ∀ is : List Int, Ims K H ((is.map Tm.var).map vv) (Tm.ds (is.map Tm.var))
  | [] => .nil
  | i :: is => .cons (Im.int i) (ims_list is)
theorem vars_is (n : Nat) : varsT n = ((List.range n).map fun i : Nat => (i : Int)).map Tm.var := by
  unfold varsT
  rw [List.map_map]
  rfl
theorem ims_vars {K : PySem.W.Frag} {H : Hp} (n : Nat) : Ims K H ((varsT n).map vv) (Tm.ds (varsT n)) := by
  rw [vars_is]
  exact ims_list _
theorem vars_len (n : Nat) : (varsT n).length = n := by
  unfold varsT
  rw [List.length_map, List.length_range]
theorem vars_ok {many : Int} (h : 0 ≤ many) : Tm.oks (fun i => 0 ≤ i ∧ i < many) (varsT many.toNat) := by
  rw [Tm.oks_iff]
  intro t ht
  obtain ⟨i, hi, rfl⟩ := List.mem_map.mp ht
  have := List.mem_range.mp hi
  show 0 ≤ ((i : Nat) : Int) ∧ ((i : Nat) : Int) < many
  omega
theorem RecAt.tm {K : PySem.W.Frag} {H : Hp} {C x : Addr} {many : Int} {ts : List Tm} (h : RecAt K H C x many ts) : ∃ dx p xs, Slt H x C dx [some (.ref p), some (.int many)] ∧ SqT K H p xs ∧ Ims K H xs (Tm.ds ts) ∧ xs.length = ts.length := by
  obtain ⟨dx, p, xs, h1, h2, h3⟩ := h
  exact ⟨dx, p, xs, h1, h2, h3, by rw [h3.length, Tm.ds_map, List.length_map]⟩
section
variable {P : Program} {w : World} {K : PySem.W.Frag} {mg : Str → Option Value} {base : Heap}
end
end Fm
namespace Fm
open PySem PySem.Spec PyProof.Rows L2 SlX
local macro_rules | `(tactic| walk_at "nn") => `(tactic| dsimp only [tC, tNil, tCons, tCB, tCall, gName, tSeq, tAsg, tPar, tDrop, tRet])
local macro_rules | `(tactic| walk_at "nc") => `(tactic| dsimp only [tC, tNil, tCons, tCB, tCall])
section
variable {P : Program} {w : World} {K : PySem.W.Frag} {mg : Str → Option Value} {base : Heap}
theorem ok_Recipe___eq__ (T : TX K mg) {k : Nat} : FnOk P w K mg base CX0 (k + 1) T.d_Recipe___eq__.f T.d_Recipe___eq__.fd P_Recipe___eq__ (sp_RecipeEq K T.C_Recipe) := by
  refine T.d_Recipe___eq__.F.ok sc_Recipe___eq__ (fun vs H Q E h => ?_) (fun cdv A outer s H vs Q E hr h => ?_)
  · obtain ⟨_, _, _, _, rfl, _⟩ := h
    rfl
  · obtain ⟨x, many, ts, y, rfl, hR, hsh, h⟩ := h
    obtain ⟨dx, p, xs, hs, hp, hx, hl⟩ := hR.tm
    have hu64 := hr.units
    refine ⟨_, (pss_cons (ps_if (PW.pt (pw_or (pt_not (pt_val (pe_callB (r := rIsiX K (.ref T.C_Recipe)) (call_isiX (.ref T.C_Recipe)) (by rfl) T.b_isinstance bt_isinstance (pa_cons (pv 1) (pa_cons (pe_glob rfl T.g_Recipe (show L2.RelV (.ref T.C_Recipe) _ from rfl)) pa_nil))))) (pw_or1 (pt_cmpR (r := rNeG K) (op_neG hu64) (pe_slC (K := K) rfl (pv 0)) (pe_slC (K := K) rfl (pv 1)) (nomark _))))) (pss_one (ps_ret pe_bl)) pss_nil) (pss_one (ps_ret (pe_cmpR (r := rEqG K) (op_eqG hu64) (pe_slC (K := K) rfl (pv 0)) (pe_slC (K := K) rfl (pv 1)) (nomark _))))), ?_⟩
    rcases h with ⟨x2, many2, ts2, rfl, hR2, hsh2, q⟩ | ⟨ty, ht, hpl, q⟩
    · obtain ⟨dx2, p2, xs2, hs2, hp2, hx2, hl2⟩ := hR2.tm
      refine ⟨.ref x2, rfl, ?_⟩
      walk_at "nc"
      refine Or.inl ⟨x2, T.C_Recipe, dx2, _, .ref T.C_Recipe, true, rfl, rfl, fun _ h => h, hs2, T.c_Recipe, T.is_Recipe, kitOne_self _, ?_⟩
      refine ⟨_, rfl, ?_⟩
      refine ⟨.ref x, rfl, x, T.C_Recipe, dx, T.p_Recipe_its_variables, _, 1, .int many, rfl, hs, T.c_Recipe, T.sl_Recipe_its_variables, rfl, ?_⟩
      refine ⟨.ref x2, rfl, x2, T.C_Recipe, dx2, T.p_Recipe_its_variables, _, 1, .int many2, rfl, hs2, T.c_Recipe, T.sl_Recipe_its_variables, rfl, ?_⟩
      refine Or.inl ⟨rfl, _, rfl, ite2 (fun e => ?_) (fun e => ?_)⟩
      · have hn : many ≠ many2 := fun z => by rw [z] at e; simp at e
        rw [show recEq many many2 ts ts2 = false by unfold recEq; rw [decide_eq_false hn]; rfl] at q
        exact q
      have hn : many = many2 := by simpa using e
      refine ⟨.ref x, rfl, x, T.C_Recipe, dx, T.p_Recipe_its_terms, _, 0, .ref p, rfl, hs, T.c_Recipe, T.sl_Recipe_its_terms, rfl, ?_⟩
      refine ⟨.ref x2, rfl, x2, T.C_Recipe, dx2, T.p_Recipe_its_terms, _, 0, .ref p2, rfl, hs2, T.c_Recipe, T.sl_Recipe_its_terms, rfl, ?_⟩
      refine Or.inr ⟨_, _, (Im.tup hp hx).dp, (Im.tup hp2 hx2).dp, hsh, hsh2, ?_⟩
      rw [show recEq many many2 ts ts2 = PyData.eqv (tsD ts) (tsD ts2) by unfold recEq; rw [decide_eq_true hn]; rfl] at q
      exact q
    · refine ⟨y, rfl, ?_⟩
      walk_at "nc"
      refine Or.inr ⟨y, .ref T.C_Recipe, .type ty, .ref T.C_Recipe, false, rfl, .own _, ht, kitOne_plain hpl T.c_Recipe.ic T.ty_Recipe, ?_⟩
      exact ⟨_, rfl, q⟩
end
end Fm
namespace Fm
open PySem PySem.Spec PyProof.Rows L2 SlX
local macro_rules | `(tactic| walk_at "nn") => `(tactic| dsimp only [tC, tNil, tCons, tCB, tCall, gName, tSeq, tAsg, tPar, tDrop, tRet])
local macro_rules | `(tactic| walk_at "nc") => `(tactic| dsimp only [tC, tNil, tCons, tCB, tCall])
structure Rooms (sts : List Sta) : Prop where
  go : GoIn sts
  ways : ∀ st ∈ sts, (gosS st).length ≤ 1000
  len : sts.length ≤ 60
def sp_loopOf (K : PySem.W.Frag) (C CW : Addr) : Sp := fun vs H Q _ => ∃ (x wx : Addr) (rs : List ActR) (many given : Int) (sts : List Sta) (p : Int), vs = [.ref x, .int p] ∧ CodAt K H C CW x wx rs many given sts ∧ Rooms sts ∧ 0 ≤ p ∧ p < sts.length ∧ ∀ q L H', H q = none → Mv [] H H' → H' q = some (.lst (L.map V.int)) → LoopOf sts p L → Q (.ref q) H'
noncomputable def onLoop (sts : List Sta) (p o : Int) : Bool := @decide (Rch sts o p) (Classical.propDecidable _)
theorem onLoop_iff {sts : List Sta} {p o : Int} : onLoop sts p o = true ↔ Rch sts o p := by
  unfold onLoop
  exact @decide_eq_true_iff _ (Classical.propDecidable _)
theorem loop_of_sorted {sts : List Sta} {p : Int} {F ns : List Int} (hF : ComeOf sts p F) (hp : ns.Perm F) (hs : ns.Pairwise (· ≤ ·)) : LoopOf sts p (ns.filter (onLoop sts p)) := by
  have hn : ns.Nodup := hp.nodup_iff.mpr hF.1
  have hlt : ns.Pairwise (· < ·) := by
    have hn := List.nodup_iff_pairwise_ne.mp hn
    exact (hs.and hn).imp fun h => by omega
  refine ⟨hlt.filter _, fun x => ?_⟩
  rw [List.mem_filter, hp.mem_iff, hF.2, onLoop_iff]
def sp_copied82 (K : PySem.W.Frag) (C CW CR : Addr) : Sp := fun vs H Q _ => ∃ (x wx : Addr) (rs : List ActR) (many given : Int) (sts : List Sta), vs = [.ref x] ∧ CodAt K H C CW x wx rs many given sts ∧ 0 ≤ many ∧ many ≤ 1000 ∧ ∀ z H', Mv [] H H' → RecAt K H' CR z many (varsT many.toNat) → Q (.ref z) H'
def gotK (gs : List (Int × Int)) (i : Int) : Int := ((gs.find? fun e => decide (e.1 = i)).map (·.2)).getD i
def ledS (f : Int → Int) : Sta → Sta
  | .set chs g => .set chs (f g)
  | .ask a ts ws => .ask a ts (ws.map fun w => (w.1, w.2.1, f w.2.2))
  | .fin x ts => .fin x ts
section
variable {P : Program} {w : World} {K : PySem.W.Frag} {mg : Str → Option Value} {base : Heap}
theorem ims_int82 {H : Hp} : ∀ ms : List Int, Ims K H (ms.map V.int) (ms.map PyData.int)
  | [] => Ims.nil
  | m :: ms => Ims.cons (.int m) (ims_int82 ms)
theorem ok_loop_of (T : TX K mg) {k : Nat} : FnOk P w K mg base CX0 (k + 3) T.d_loop_of.f T.d_loop_of.fd P_loop_of (sp_loopOf K T.C_Code T.C_World) := by
  have G_come_to : FnOk P w K mg base CX0 2 T.d_come_to.f T.d_come_to.fd P_come_to (sp_comeTo K) := ok_come_to (k := 0) T
  have G_Code_statements : FnOk P w K mg base CX0 1 T.d_Code_statements.f T.d_Code_statements.fd P_Code_statements (sp_Cstats K T.C_Code T.C_World) := ok_Code_statements T
  refine T.d_loop_of.F.ok sc_loop_of (fun vs H Q E h => ?_) (fun cdv A outer s H vs Q E hr h => ?_)
  · obtain ⟨_, _, _, _, _, _, _, rfl, _⟩ := h
    rfl
  · obtain ⟨x, wx, rs, many, given, sts, p, rfl, hC, hR, p0, p1', q⟩ := h
    have hu1 := hu1_of hr
    have hu64 := hr.units
    have hu65 := hu65_of hr
    refine ⟨_, (pss_cons (ps_set (i := 2) sc_loop_of.nd rfl (Or.inr rfl) (pe_methSl0 (pv 0) T.c_Code T.d_Code_statements.M (fnR_of G_Code_statements T.d_Code_statements.b) (hr.mono (by omega)) pass0)) (pss_one (ps_ret (pe_lc (own := [("one", 3)]) (g := gName 3) (by rfl) sc_loop_of.nd (pi_seq (pe_callB (r := rSortA K) (cr_sortA rfl) (by rfl) T.b_sorted bt_sorted (pa_cons (pe_call G_come_to (hr.mono (by omega)) rfl T.d_come_to.g T.d_come_to.F.kp T.d_come_to.b .nil pass0 (pa_cons (pv 2) (pa_cons (pv 1) pa_nil))) pa_nil))) (blkOk_by (own := [("one", 3)]) (N := N_loop_of) (sc := defScope s_loop_of) (by decide +kernel)) (fun _ _ _ _ _ => pg_name (i := 3) sc_loop_of.nd rfl (Or.inl rfl)) (fun _ _ _ _ _ => (pts_one (pt_cmpR (r := rInG K) (op_inG hu65) (pv 1) (pe_call G_come_to (hr.mono (by omega)) rfl T.d_come_to.g T.d_come_to.F.kp T.d_come_to.b .nil pass0 (pa_cons (pv 2) (pa_cons (pv 3) pa_nil))) rfl))) (fun _ _ _ _ _ => (pv 3)))))), ?_⟩
    obtain ⟨dx, l, xs0, hs, _⟩ := id hC
    refine ⟨.ref x, rfl, x, dx, _, rfl, hs, x, wx, rs, many, given, sts, rfl, hC, fun p1 xs n1 i1 => ?_⟩
    have k1 := Mv.new (S := []) (o := (.lst xs)) n1
    have e1 : upd H p1 (.lst xs) p1 = some (.lst xs) := upd_same
    generalize upd H p1 (.lst xs) = H1 at k1 e1 ⊢
    have m1 := k1
    have i1 := i1.mv k1
    refine ⟨.ref p1, rfl, .int p, rfl, ?_⟩
    refine ⟨p1, xs, sts, p, rfl, e1, i1, hR.go, hR.ways, by have := hR.len; omega, p0, p1', fun p2 F H2 n2 m2 e2 hF => ?_⟩
    have hFl : F.length ≤ sts.length := nodup_few hF.1 fun y hy => ((hF.2 y).mp hy).in_ hR.go
    have hRl := hR.len
    refine Or.inr (Or.inr ⟨p2, F, rfl, .inl (.inl e2), by omega, fun ns p3 hp hs' n3 => ⟨p3, rfl, ?_⟩⟩)
    have k3 := Mv.new (S := []) (o := (.lst (ns.map V.int))) n3
    have e3 : upd H2 p3 (.lst (ns.map V.int)) p3 = some (.lst (ns.map V.int)) := upd_same
    generalize upd H2 p3 (.lst (ns.map V.int)) = H3 at k3 e3 ⊢
    have m3 := m2.trans k3
    have hnl : ns.length ≤ 60 := by rw [hp.length_eq]; omega
    refine lc_fm (K := K) (as := ns) (enc := PyData.int) (fun o => if onLoop sts p o = true then some (.int o) else none) (.inl (.inl (.inl e3))) (ims_int82 ns) (by omega) (fun z o H5 Q' R' hm him m5 k1' k2' => ?_) (fun D zs5 H5 nD e5 i5 m5 => ?_)
    · cases him.intI
      have ho := ((hF.2 o).mp (hp.mem_iff.mp hm)).in_ hR.go
      refine ⟨rfl, .int p, rfl, .ref p1, rfl, .int o, rfl, ?_⟩
      refine ⟨p1, xs, sts, o, rfl, (m3.trans m5).same _ _ e1, i1.mv (m3.trans m5), hR.go, hR.ways, by omega, ho.1, ho.2, fun p6 F6 H6 n6 m6 e6 hF6 => ?_⟩
      refine rd_in82 e6 ⟨_, rfl, ?_⟩
      have hb : decide (p ∈ F6) = onLoop sts p o := by
        rw [Bool.eq_iff_iff, decide_eq_true_iff, onLoop_iff]
        exact hF6.2 p
      rw [hb]
      by_cases hl : onLoop sts p o = true
      · rw [hl]
        exact ⟨.int o, rfl, k1' _ (if_pos hl) _ _ m6 (.int _)⟩
      · rw [Bool.not_eq_true] at hl
        rw [hl]
        exact k2' (if_neg (by rw [hl]; decide)) _ m6
    · have e : (ns.filterMap fun o => if onLoop sts p o = true then some (PyData.int o) else none) = (ns.filter (onLoop sts p)).map PyData.int := by
        clear hp hs' e3 k3 m3 hnl i5
        induction ns with
        | nil => rfl
        | cons o ns ih =>
          rw [List.filterMap_cons, List.filter_cons]
          by_cases h : onLoop sts p o = true
          · rw [if_pos h, if_pos h, List.map_cons, ih]
          · rw [if_neg h, if_neg h, ih]
      rw [e] at i5
      rw [ims_ints82 i5] at e5
      refine q D _ H5 ?_ (k1.trans (m3.trans m5)) e5 (loop_of_sorted hF hp hs')
      exact (k1.trans m3).free nD
theorem ok_copied82 (T : TX K mg) (Y : TY P K mg) {k : Nat} : FnOk P w K mg base CX0 (k + 10) T.d_copied.f T.d_copied.fd P_copied (sp_copied82 K T.C_Code T.C_World T.C_Recipe) := by
  have G_Recipe___init__ : FnOk P w K mg base (CX P w) 5 T.d_Recipe___init__.f T.d_Recipe___init__.fd P_Recipe___init__ (sp_RecT K T.C_Recipe Y.C_Wrong) := ok_Recipe___init__ T Y
  have G_Code_variables : FnOk P w K mg base CX0 1 T.d_Code_variables.f T.d_Code_variables.fd P_Code_variables (sp_Cvars K T.C_Code T.C_World) := ok_Code_variables T
  refine T.d_copied.F.ok sc_copied (fun vs H Q E h => ?_) (fun cdv A outer s H vs Q E hr h => ?_)
  · obtain ⟨_, _, _, _, _, _, rfl, _⟩ := h
    rfl
  · obtain ⟨x, wx, rs, many, given, sts, rfl, hC, hm0, hm1, q⟩ := h
    have hu1 := hu1_of hr
    have hu64 := hr.units
    obtain ⟨dx, l, xs0, hs, _⟩ := id hC
    refine ⟨_, (pss_one (ps_ret (pe_makeS ⟨T.mk_Recipe, T.d_Recipe___init__.M.at_, T.d_Recipe___init__.M.fn, T.k_Recipe⟩ G_Recipe___init__ (hr.mono (by omega)) rfl T.g_Recipe T.d_Recipe___init__.b (fun σ => passAt takes0 σ) (pa_cons (pe_propSl (pv 0) T.c_Code T.d_Code_variables.at_ T.d_Code_variables.get T.d_Code_variables.tk T.d_Code_variables.rc (fnR_of G_Code_variables T.d_Code_variables.b) (hr.mono (by omega)) no0) (pa_cons (pe_listRg rfl (by rfl) T.b_list (prg_1 (by rfl) T.b_range (pe_propSl (pv 0) T.c_Code T.d_Code_variables.at_ T.d_Code_variables.get T.d_Code_variables.tk T.d_Code_variables.rc (fnR_of G_Code_variables T.d_Code_variables.b) (hr.mono (by omega)) no0))) pa_nil))))), ?_⟩
    refine ⟨.ref x, rfl, x, dx, _, rfl, hs, x, wx, rs, many, given, sts, rfl, hC, ?_⟩
    refine ⟨.ref x, rfl, x, dx, _, rfl, hs, x, wx, rs, many, given, sts, rfl, hC, ?_⟩
    refine ⟨many, rfl, RgOk.of_le (by decide) (by omega) (by decide) (by omega), fun rl nrl => ?_⟩
    rw [rgv_vars]
    have e1 : upd H rl (.lst ((varsT many.toNat).map vv)) rl = some (.lst ((varsT many.toNat).map vv)) := upd_same
    have m1 : Mv [] H (upd H rl (.lst ((varsT many.toNat).map vv))) := .new nrl
    generalize upd H rl (.lst ((varsT many.toNat).map vv)) = H1 at e1 m1 ⊢
    intro z dz nz ndz hne
    have hi : Ims K H1 ((varsT many.toNat).map vv) (Tm.ds (varsT many.toNat)) := ims_vars _
    have hov := vars_ok hm0
    obtain ⟨hgood, hbd⟩ := rec_good (xs := (varsT many.toNat).map vv) hm0 hov (by rw [vars_len]; omega) (fun t ht => by
      obtain ⟨i, _, rfl⟩ := List.mem_map.mp ht
      simp [Tm.cst, Tm.lv])
    refine ⟨z, dz, .int many, .ref rl, z, .int many, _, H1, rfl, rfl, nz, ndz, hne, rfl, .lst (fun e => by rw [e, nz] at e1; cases e1) e1 (IsAll.of_ims _ _ hov hi), fun r hr' => ?_, fun k hk => ?_, fun many' r h1 h2 h3 p4 H4 m4 s4 e4 => ?_⟩
    · cases hr'
      exact hbd
    · rw [hgood] at hk
      cases hk
    · cases h1
      cases h2
      exact ⟨rfl, q z H4 (m1.trans m4) ⟨dz, p4, _, s4, e4, hi.mv m4⟩⟩
end
end Fm
namespace Fm
open PySem PySem.Spec PyProof.Rows L2 SlX
local macro_rules | `(tactic| walk_at "nn") => `(tactic| dsimp only [tC, tNil, tCons, tCB, tCall, gName, tSeq, tAsg, tPar, tDrop, tRet])
local macro_rules | `(tactic| walk_at "nc") => `(tactic| dsimp only [tC, tNil, tCons, tCB, tCall])
def LedAt (H : Hp) (g : Addr) (f : Int → Int) : Prop := ∃ kvs : List (L2.Key × V), H g = some (.dK kvs) ∧ ∀ i : Int, (valV kvs (.inl i)).getD (.int i) = .int (f i)
theorem LedAt.mv {H H' : Hp} {g : Addr} {f : Int → Int} (h : LedAt H g f) (m : Mv [] H H') : LedAt H' g f := let ⟨kvs, h1, h2⟩ := h; ⟨kvs, m.same _ _ h1, h2⟩
def sp_led (K : PySem.W.Frag) : Sp := fun vs H Q _ => ∃ (v : V) (st : Sta) (g : Addr) (f : Int → Int), vs = [v, .ref g] ∧ Im K H v st.d ∧ LedAt H g f ∧ (gosS st).length ≤ 1000 ∧ ∀ v' H', Mv [] H H' → Im K H' v' (ledS f st).d → Q v' H'
section
variable {P : Program} {w : World} {K : PySem.W.Frag} {mg : Str → Option Value} {base : Heap}
theorem ok_led (T : TX K mg) {k : Nat} : FnOk P w K mg base CX0 (k + 1) T.d_led.f T.d_led.fd P_led (sp_led K) := by
  refine T.d_led.F.ok sc_led (fun vs H Q E h => ?_) (fun cdv A outer s H vs Q E hr h => ?_)
  · obtain ⟨_, _, _, _, rfl, _⟩ := h
    rfl
  · obtain ⟨v, st, g, f, rfl, hv, hG, hl, q⟩ := h
    have hu1 := hu1_of hr
    have hu64 := hr.units
    have hu65 := hu65_of hr
    obtain ⟨kvs, hg, hf⟩ := id hG
    refine ⟨_, (pss_cons (ps_if (pt_cmpR (r := rEqG K) (op_eqG hu64) (pe_ix (r := rIx K) ix_seq (pv 0) pe_int (fun _ _ => rfl)) pe_str (nomark _)) (pss_one (ps_ret (pe_tup (pa_cons pe_str (pa_cons (pe_ix (r := rIx K) ix_seq (pv 0) pe_int (fun _ _ => rfl)) (pa_cons (pe_dget2 hu1 (pv 1) (pe_ix (r := rIx K) ix_seq (pv 0) pe_int (fun _ _ => rfl)) (pe_ix (r := rIx K) ix_seq (pv 0) pe_int (fun _ _ => rfl)) ⟨rfl, rfl, rfl, rfl⟩) pa_nil)))))) pss_nil) (pss_cons (ps_if (pt_cmpR (r := rEqG K) (op_eqG hu64) (pe_ix (r := rIx K) ix_seq (pv 0) pe_int (fun _ _ => rfl)) pe_str (nomark _)) (pss_cons (ps_setLc (i := 2) (own := [("outcome", 3), ("variables", 4), ("to", 5)]) (g := gTup K 3 (gCons (gName 3) (gCons (gName 4) (gCons (gName 5) gNil)))) (by rfl) sc_led.nd rfl rfl (sw_true rfl rfl rfl (by decide +kernel)) (pi_seq (pe_ix (r := rIx K) ix_seq (pv 0) pe_int (fun _ _ => rfl))) (blkOk_by (own := [("outcome", 3), ("variables", 4), ("to", 5)]) (N := N_led) (sc := defScope s_led) (by decide +kernel)) (fun _ _ _ _ _ => (pg_tup rfl (pgs_cons (pg_name (i := 3) sc_led.nd rfl (Or.inl rfl)) (pgs_cons (pg_name (i := 4) sc_led.nd rfl (Or.inl rfl)) (pgs_cons (pg_name (i := 5) sc_led.nd rfl (Or.inl rfl)) pgs_nil))))) (fun _ _ _ _ _ => pts_nil) (fun _ _ _ _ _ => (pe_tup (pa_cons (pv 3) (pa_cons (pv 4) (pa_cons (pe_dget2 hu1 (pv 1) (pv 5) (pv 5) ⟨rfl, rfl, rfl, rfl⟩) pa_nil)))))) (pss_one (ps_ret (pe_op (r := rAddG K) op_addG (pe_slice (r := rSlG K) sl_G (pv 0) po_none (po_some pe_int)) (pe_tup (pa_cons (pe_callTy (r := rTupOf K) call_tupG (by rfl) T.b_tuple bt_tuple (pa_cons (pv 2) pa_nil)) pa_nil)))))) pss_nil) (pss_one (ps_ret (pv 0))))), ?_⟩
    cases st with
    | set chs gl =>
      obtain ⟨a, x0, x1, x2, rfl, ha, j0, j1, j2⟩ := hv.tup3
      cases j0.strI
      cases j2.intI
      refine ⟨.ref a, rfl, rd_ixT ha (by decide) (v := .str "set") rfl (Or.inl ⟨rfl, _, rfl, ?_⟩)⟩
      rw [eq_str82]
      refine ⟨.ref a, rfl, rd_ixT ha (by decide) (v := x1) rfl ⟨.ref g, rfl, g, rfl, .inl ⟨kvs, .inl hg⟩, .ref a, rfl, rd_ixT ha (by decide) (v := .int gl) rfl ⟨.ref a, rfl, rd_ixT ha (by decide) (v := .int gl) rfl ⟨_, DGet.k (k := Sum.inl gl) hg, ?_⟩⟩⟩⟩
      rw [hf gl]
      refine ⟨(by decide : 3 ≤ sizeLine), fun p1 n1 => ?_⟩
      have k1 := Mv.new (S := []) (o := (.tup [.str "set", x1, .int (f gl)])) n1
      have e1 : SqT K (upd H p1 (.tup [.str "set", x1, .int (f gl)])) p1 [.str "set", x1, .int (f gl)] := .inl (.inl upd_same)
      generalize upd H p1 (.tup [.str "set", x1, .int (f gl)]) = H1 at k1 e1 ⊢
      have m1 := k1
      exact q _ _ k1 (.tup e1 (.cons (.str _) (.cons (j1.mv k1) (.cons (.int _) .nil))))
    | fin word ts =>
      obtain ⟨a, x0, x1, x2, rfl, ha, j0, j1, j2⟩ := hv.tup3
      cases j0.strI
      refine ⟨.ref a, rfl, rd_ixT ha (by decide) (v := .str "end") rfl (Or.inl ⟨rfl, _, rfl, ?_⟩)⟩
      rw [ne_str (by decide +kernel)]
      refine ⟨.ref a, rfl, rd_ixT ha (by decide) (v := .str "end") rfl (Or.inl ⟨rfl, _, rfl, ?_⟩)⟩
      rw [ne_str (by decide +kernel)]
      exact ⟨.ref a, rfl, q _ H .refl hv⟩
    | ask act ts ws =>
      obtain ⟨a, x0, x1, x2, x3, rfl, ha, j0, j1, j2, j3⟩ := hv.tup4
      cases j0.strI
      refine ⟨.ref a, rfl, rd_ixT ha (by decide) (v := .str "ask") rfl (Or.inl ⟨rfl, _, rfl, ?_⟩)⟩
      rw [ne_str (by decide +kernel)]
      refine ⟨.ref a, rfl, rd_ixT ha (by decide) (v := .str "ask") rfl (Or.inl ⟨rfl, _, rfl, ?_⟩)⟩
      rw [eq_str82]
      obtain ⟨aw, wv, rfl, haw, hwv⟩ := j3.tupI
      refine ⟨.ref a, rfl, rd_ixT ha (by decide) (v := .ref aw) rfl ⟨aw, rfl, ?_⟩⟩
      have hl : ws.length ≤ 1000 := by simpa [gosS] using hl
      refine lc_fm (K := K) (as := ws) (enc := wayD) (fun w => some (wayD (w.1, w.2.1, f w.2.2))) (.inr haw) hwv (by omega) (fun z w' H5 Q' R' hm him m5 k1 _ => ?_) (fun D zs5 H5 nD e5 i5 m5 => ?_)
      · obtain ⟨az, y0, y1, y2, rfl, haz, k0, k2, k3⟩ := him.tup3
        cases k3.intI
        refine ⟨az, _, rfl, haz, rfl, _, _, rfl, _, _, rfl, _, _, rfl, rfl, rfl, ?_⟩
        refine ⟨y0, rfl, y1, rfl, .ref g, rfl, g, rfl, .inl ⟨kvs, .inl (m5.same _ _ hg)⟩, .int w'.2.2, rfl, .int w'.2.2, rfl, _, DGet.k (k := Sum.inl w'.2.2) (m5.same _ _ hg), ?_⟩
        rw [hf w'.2.2]
        refine ⟨(by decide : 3 ≤ sizeLine), fun p1x n1x => ?_⟩
        have k1x := Mv.new (S := []) (o := (.tup [y0, y1, .int (f w'.2.2)])) n1x
        have e1x : SqT K (upd H5 p1x (.tup [y0, y1, .int (f w'.2.2)])) p1x [y0, y1, .int (f w'.2.2)] := .inl (.inl upd_same)
        generalize upd H5 p1x (.tup [y0, y1, .int (f w'.2.2)]) = H1x at k1x e1x ⊢
        have m1x := k1x
        exact k1 _ rfl _ _ k1x (.tup e1x (.cons (k0.mv k1x) (.cons (k2.mv k1x) (.cons (.int _) .nil))))
      · have e : (ws.filterMap fun w => some (wayD (w.1, w.2.1, f w.2.2))) = (ws.map fun w => (w.1, w.2.1, f w.2.2)).map wayD := by
          rw [List.filterMap_eq_map']
          simp
        rw [e] at i5
        refine ⟨.ref a, rfl, 3, rfl, rd_slT (m5.sqT ha) fun p6 H6 m6 e6 => ?_⟩
        refine ⟨.ref D, rfl, ?_⟩
        walk_at "nc"
        refine rd_tupOf (K := K) (.inl (.inl (m6.same _ _ e5))) fun p7 H7 m7 e7 => ⟨(by decide : 1 ≤ sizeLine), fun p8 n8 => ?_⟩
        have k8 := Mv.new (S := []) (o := (.tup [.ref p7])) n8
        have e8 : SqT K (upd H7 p8 (.tup [.ref p7])) p8 [.ref p7] := .inl (.inl upd_same)
        generalize upd H7 p8 (.tup [.ref p7]) = H8 at k8 e8 ⊢
        have m8 := m7.trans k8
        refine rd_cat (m8.sqT e6) e8 (show 3 + 1 ≤ sizeLine by decide) fun p9 H9 m9 e9 => ?_
        have mm := m5.trans (m6.trans (m8.trans m9))
        refine q _ H9 mm (.tup e9 (.cons (.str _) (.cons (j1.mv mm) (.cons (j2.mv mm) (.cons (.tup ((k8.trans m9).sqT e7) (i5.mv (m6.trans (m8.trans m9)))) .nil)))))
end
end Fm
namespace Fm
open PySem PySem.Spec PyProof.Rows L2
section
variable {M : Model} {A : Around} {E : Value → Shared → Prop} {s : Shared} {env : Env}
def compPostX (M : Model) (A : Around) (E : Value → Shared → Prop) (use : Option (Value → Sem Unit)) (Q : Value → Shared → Prop) (acc : Value) (ce : Env) (r : Result) (s' : Shared) : Prop :=
  match r, use with
  | .ok _, none => ∃ m, s'.heap.Ns ce.locals m ∧ ∀ h', Heap.SameBut ce.locals s'.heap h' → Q acc { s' with heap := h' }
  | .ok _, some u => wpAny M A (u acc) (fun _ s'' => ∃ m, s''.heap.Ns ce.locals m ∧ ∀ h', Heap.SameBut ce.locals s''.heap h' → Q .none { s'' with heap := h' }) E s'
  | .error x, _ => ∃ m, s'.heap.Ns ce.locals m ∧ ∀ h', Heap.SameBut ce.locals s'.heap h' → wpAny M A (passOn "comprehension.variables-let-go" x ce : Sem Value) (fun _ _ => False) E { s' with heap := h' }
end
section
variable {M : Model} {A : Around} {E : Value → Shared → Prop} {s : Shared} {Z : Obj → Prop} {base : Heap} {env : Env} {outer : List Env} {L e : Addr}
end
abbrev blkX (X : Cx) (s : Shared) (H : Hp) (scope : Scope) (cenv : Env) (fp : List Addr) (xe : Value → Shared → Prop) : Cx := (X.blk s H scope cenv fp).wish xe
section
variable {X : Cx}
def tLcX (W : WX) (wi : TI) (g : TG) (tt : TT) (te : XK → TE) (vs : List Nat) : TE := fun σ H Q => tLc wi g tt (te fun cls d H' => W cls d σ H') vs σ H Q
end
end Fm
namespace Fm
open PySem PySem.Spec PyProof.Rows L2 SlX
local macro_rules | `(tactic| walk_at "nn") => `(tactic| dsimp only [tC, tNil, tCons, tCB, tCall, gName, tSeq, tAsg, tPar, tDrop, tRet])
local macro_rules | `(tactic| walk_at "nc") => `(tactic| dsimp only [tC, tNil, tCons, tCB, tCall])
structure CodeOk (rs : List ActR) (many given : Int) : Prop where
  w : WOk rs
  m0 : 0 ≤ many
  m1 : many ≤ 24
  g0 : 0 ≤ given
  g1 : given ≤ many
def sp_withSts (K : PySem.W.Frag) (C CW : Addr) : Sp := fun vs H Q _ => ∃ (x wx sl : Addr) (rs : List ActR) (many given : Int) (sts ns : List Sta) (xs : List V), vs = [.ref x, .ref sl] ∧ CodAt K H C CW x wx rs many given sts ∧ CodeOk rs many given ∧ (H sl = some (.lst xs) ∨ SqT K H sl xs) ∧ Ims K H xs (ns.map Sta.d) ∧ (∀ st ∈ ns, st.ok rs many ns.length) ∧ 0 < ns.length ∧ ns.length ≤ 1000 ∧
  ∀ z H', Mv [] H H' → CodAt K H' C CW z wx rs many given (ns.map Sta.ord) → Q (.ref z) H'
section
variable {P : Program} {w : World} {K : PySem.W.Frag} {mg : Str → Option Value} {base : Heap}
theorem ok_with_statements (T : TX K mg) {k : Nat} : FnOk P w K mg base CX0 (k + 9) T.d_with_statements.f T.d_with_statements.fd P_with_statements (sp_withSts K T.C_Code T.C_World) := by
  have G_Code_world : FnOk P w K mg base CX0 1 T.d_Code_world.f T.d_Code_world.fd P_Code_world (sp_Cworld K T.C_Code T.C_World) := ok_Code_world T
  have G_Code_variables : FnOk P w K mg base CX0 1 T.d_Code_variables.f T.d_Code_variables.fd P_Code_variables (sp_Cvars K T.C_Code T.C_World) := ok_Code_variables T
  have G_Code_given : FnOk P w K mg base CX0 1 T.d_Code_given.f T.d_Code_given.fd P_Code_given (sp_Cgiven K T.C_Code T.C_World) := ok_Code_given T
  have G_Code___init__ : FnOk P w K mg base CX0 7 T.d_Code___init__.f T.d_Code___init__.fd P_Code___init__ (sp_Code K T.C_Code T.C_World) := ok_Code___init__ (k := 0) T
  refine T.d_with_statements.F.ok sc_with_statements (fun vs H Q E h => ?_) (fun cdv A outer s H vs Q E hr h => ?_)
  · obtain ⟨_, _, _, _, _, _, _, _, _, rfl, _⟩ := h
    rfl
  · obtain ⟨x, wx, sl, rs, many, given, sts, ns, xs, rfl, hC, hk, hsl, hxs, hok, h0, h1, q⟩ := h
    have hu64 := hr.units
    have hu1 := hu1_of hr
    obtain ⟨dx, lc, xs0, hs, hW, hlc, hx0⟩ := id hC
    refine ⟨_, (pss_one (ps_ret (pe_make ⟨T.mk_Code, T.d_Code___init__.M.at_, T.d_Code___init__.M.fn, T.k_Code⟩ G_Code___init__ (hr.mono (by omega)) rfl T.g_Code T.d_Code___init__.b .nil pass0 (pa_cons (pe_propSl (pv 0) T.c_Code T.d_Code_world.at_ T.d_Code_world.get T.d_Code_world.tk T.d_Code_world.rc (fnR_of G_Code_world T.d_Code_world.b) (hr.mono (by omega)) no0) (pa_cons (pe_propSl (pv 0) T.c_Code T.d_Code_variables.at_ T.d_Code_variables.get T.d_Code_variables.tk T.d_Code_variables.rc (fnR_of G_Code_variables T.d_Code_variables.b) (hr.mono (by omega)) no0) (pa_cons (pe_propSl (pv 0) T.c_Code T.d_Code_given.at_ T.d_Code_given.get T.d_Code_given.tk T.d_Code_given.rc (fnR_of G_Code_given T.d_Code_given.b) (hr.mono (by omega)) no0) (pa_cons (pv 1) pa_nil))))))), ?_⟩
    refine ⟨.ref x, rfl, x, dx, _, rfl, hs, x, wx, rs, many, given, sts, rfl, hC, ?_⟩
    refine ⟨.ref x, rfl, x, dx, _, rfl, hs, x, wx, rs, many, given, sts, rfl, hC, ?_⟩
    refine ⟨.ref x, rfl, x, dx, _, rfl, hs, x, wx, rs, many, given, sts, rfl, hC, ?_⟩
    refine ⟨.ref sl, rfl, ?_⟩
    refine fun c dc nc ndc hne => ⟨c, dc, wx, sl, rs, many, given, xs, ns, H, rfl, rfl, nc, ndc, hne, hW, hk.w, hk.m0, hk.m1, hk.g0, hk.g1, hsl, hxs, hok, h0, h1, fun l H8 m8 nl8 hCd => ⟨rfl, q c H8 m8 hCd.at_⟩⟩
def sp_stat82 (K : PySem.W.Frag) (C CW : Addr) : Sp := fun vs H Q _ => ∃ (x wx : Addr) (rs : List ActR) (many given : Int) (sts : List Sta) (i : Int) (st : Sta), vs = [.ref x, .int i] ∧ CodAt K H C CW x wx rs many given sts ∧ 0 ≤ i ∧ sts[i.toNat]? = some st ∧ ∀ v H', Mv [] H H' → Im K H' v st.d → Q v H'
theorem ok_Code_statement82 (T : TX K mg) {k : Nat} : FnOk P w K mg base CX0 (k + 4) T.d_Code_statement.f T.d_Code_statement.fd P_Code_statement (sp_stat82 K T.C_Code T.C_World) := by
  have G_is_place : FnOk P w K mg base CX0 2 T.d_is_place.f T.d_is_place.fd P_is_place (sp_place K) := ok_is_place (k := 0) T
  refine T.d_Code_statement.F.ok sc_Code_statement (fun vs H Q E h => ?_) (fun cdv A outer s H vs Q E hr h => ?_)
  · obtain ⟨_, _, _, _, _, _, _, _, rfl, _⟩ := h
    rfl
  · obtain ⟨x, wx, rs, many, given, sts, i, st, rfl, hC, h0, hst, q⟩ := h
    have hu64 := hr.units
    have hu1 := hu1_of hr
    refine ⟨_, (pss_cons (ps_if (pt_not (pt_val (pe_call G_is_place (hr.mono (by omega)) rfl T.d_is_place.g T.d_is_place.F.kp T.d_is_place.b .nil pass0 (pa_cons (pe_callB (r := rLenG K) call_lenG (by rfl) T.b_len bt_len (pa_cons (pe_slC (K := K) rfl (pv 0)) pa_nil)) (pa_cons (pv 1) pa_nil))))) (pss_one ps_never) pss_nil) (pss_one (ps_ret (pe_ix (r := rIx K) ix_seq (pe_slC (K := K) rfl (pv 0)) (pv 1) (fun _ _ => rfl))))), ?_⟩
    obtain ⟨dx, l, xs, hs, hW, hl, hxs⟩ := id hC
    have hxl : xs.length = sts.length := by
      have := hxs.length
      rwa [List.length_map] at this
    have hil := (List.getElem?_eq_some_iff.mp hst).1
    refine ⟨.ref x, rfl, x, T.C_Code, dx, T.p_Code_its_statements, _, 1, .ref l, rfl, hs, T.c_Code, T.sl_Code_its_statements, rfl, ?_⟩
    walk_at "nc"
    refine rd_len (.inl (.inl (.inl hl))) ?_
    refine ⟨.int i, rfl, _, .int i, .int i, x, rfl, rfl, fun H1 m1 => ⟨_, rfl, ite2 (fun e => ?_) (fun e => ?_)⟩⟩
    · have e' : i < 0 ∨ (xs.length : Int) ≤ i := by simpa [inPl] using e
      omega
    · have hi : i.toNat < xs.length := by omega
      refine ⟨.ref x, rfl, x, T.C_Code, dx, T.p_Code_its_statements, _, 1, .ref l, rfl, Slt.mv hs m1, T.c_Code, T.sl_Code_its_statements, rfl, ?_⟩
      obtain ⟨d1, hd1, him⟩ := hxs.get (List.getElem?_eq_getElem hi)
      rw [List.getElem?_map, hst] at hd1
      cases hd1
      exact ⟨.int i, rfl, rd_ixL (.inl (.inl (m1.same _ _ hl))) h0 (v := xs[i.toNat]) (List.getElem?_eq_getElem hi) (q _ H1 m1 (him.mv m1))⟩
end
end Fm
namespace Fm
open PySem PySem.Spec PyProof.Rows L2
section
variable {X : Cx}
def rSortP (K : PySem.W.Frag) : List V → Hp → VK → Prop := fun vs H Q => ∃ (a : Addr) (xs : List V) (k : V → Int × Int), vs = [.ref a] ∧ SqL K H a xs ∧ (∀ x ∈ xs, ∃ t, x = .ref t ∧ SqT K H t [.int (k x).1, .int (k x).2]) ∧
  ∀ ys p, ys.Perm xs → SrtO.Srtd (ltP k) ys → H p = none → Q (.ref p) (upd H p (.lst ys))
theorem cr_sortP : CallR X (.builtin "sorted") (rSortP X.K) := by
  intro pins s σ H vs us Q I r h
  obtain ⟨a, xs, k, rfl, hs, hx, q⟩ := h
  obtain ⟨its, rv, hl, hz⟩ := I.list hs
  obtain ⟨u, rfl, ru⟩ := vals1 r
  obtain rfl : u = Value.ref a := ru
  obtain ⟨e1, e2⟩ := refs_back rv fun x m => by
    obtain ⟨t, e, _⟩ := hx x m
    exact ⟨t, e⟩
  have hmem : ∀ v ∈ its, backV v ∈ xs := fun v hv => by rw [e1]; exact List.mem_map.mpr ⟨_, hv, rfl⟩
  have hp : ∀ v ∈ its, Srt.IsPair s.heap v (k (backV v)).1 (k (backV v)).2 := fun v hv => by
    obtain ⟨t, rfl⟩ := e2 v hv
    obtain ⟨t', e, ht⟩ := hx _ (hmem _ hv)
    cases e
    obtain ⟨its2, rv2, ⟨o, ho, hc, n, hd⟩, _⟩ := I.tuple ht
    obtain ⟨u1, u2, rfl, ri, rj⟩ := vals2 rv2
    obtain ⟨t1, rfl⟩ := ri
    obtain ⟨t2, rfl⟩ := rj
    exact ⟨t, o, t1, t2, n, rfl, ho, hc, hd⟩
  refine SrtO.sorted_ord (SrtO.swo_lex fun u => k (backV u)) hl.isList (by rw [← rv.length]; exact hz) (fun h2 h₁ b hb kk => ?_) fun out o1 o2 => ?_
  · refine SrtO.pairs_sortableO (s := { s with heap := h₁ }) (k := fun u => k (backV u)) (by omega) (fun v hv => ?_) fun o e => ?_
    · exact (hp v hv).keeps fun p o ho _ => (kk p o ho).2
    · have e' : some o = some (seqObj "list" its.toArray 0) := e.symm.trans hb
      cases e'
      intro c
      exact absurd (Value.type.inj c) (by decide)
  · have h3 : ∀ u ∈ out, ∃ a, u = Value.ref a := fun u hu => e2 u (o2.perm.mem_iff.mp hu)
    obtain ⟨n, hn⟩ := PyProof.Rows.sortedAll_at s.heap its out.toArray
    have hb : (out.map backV).Perm xs := by
      rw [e1]
      exact o2.perm.map _
    refine ⟨.ref (s.heap.objs.size + 1), upd H (s.heap.objs.size + 1) (.lst (out.map backV)), I.laid (t' := s.toks) (fun b o e => PyProof.Rows.sortedAll_old e) (Nat.le_succ _) ⟨?_, out, n, vals_back h3, hn⟩, rfl, q _ _ hb (SrtO.srtd_map o1) (I.hok.fresh (Nat.le_succ _))⟩
    rw [hb.length_eq]
    exact hz
end
theorem pw_pairs {k : V → Int × Int} {ys : List V} (h : SrtO.Srtd (ltP k) ys) : (ys.map k).Pairwise fun a b => SrtO.lexB b a = false := List.pairwise_map.mpr h
end Fm
namespace Fm
open PySem PySem.Spec PyProof.Rows L2 SlX
def secI (n : Nat) (L : List Int) (i : Int) : Int := (n : Int) + (L.idxOf i : Nat)
def secP (n : Nat) (L : List Int) (p i : Int) : Int := if i = p then secI n L p else i
def secQ (n : Nat) (L : List Int) (p i : Int) : Int := if i ∈ L ∧ i ≠ p then secI n L i else i
def unrA (sts : List Sta) (p : Int) (L : List Int) (e : Sta × Nat) : Sta := if ((e.2 : Nat) : Int) ∈ L then ledS (secP sts.length L p) e.1 else e.1
def unrS (sts : List Sta) (p : Int) (L : List Int) : List Sta := sts.zipIdx.map (unrA sts p L) ++ L.map fun i => ledS (secQ sts.length L p) (sts.getD i.toNat (.fin "" []))
def prsU (n : Nat) (L : List Int) : List (Int × Int) := (List.range n).map (fun i : Nat => ((i : Int), (i : Int))) ++ L.map fun i => (i, secI n L i)
def PrsOf (n : Nat) (L : List Int) (ps : List (Int × Int)) : Prop := ps.Perm (prsU n L) ∧ ps.Pairwise fun a b => SrtO.lexB b a = false
def BckOf (n : Nat) (L : List Int) (ps : List (Int × Int)) : Prop := ps.Perm ((prsU n L).map fun e => (e.2, e.1)) ∧ ps.Pairwise fun a b => SrtO.lexB b a = false
theorem lexB_no82 {a b : Int × Int} : SrtO.lexB b a = false ↔ a.1 < b.1 ∨ a.1 = b.1 ∧ a.2 ≤ b.2 := by
  rw [SrtO.lexB_no]
  omega
theorem lex_one {ps qs : List (Int × Int)} (hp : ps.Perm qs) (h1 : ps.Pairwise fun a b => SrtO.lexB b a = false) (h2 : qs.Pairwise fun a b => SrtO.lexB b a = false) : ps = qs := by
  refine hp.eq_of_pairwise (fun a b _ _ h k => ?_) h1 h2
  rw [lexB_no82] at h k
  exact Prod.ext (by omega) (by omega)
theorem prs_one {n : Nat} {L : List Int} {ps qs : List (Int × Int)} (h : PrsOf n L ps) (k : PrsOf n L qs) : ps = qs := lex_one (h.1.trans k.1.symm) h.2 k.2
theorem bck_one {n : Nat} {L : List Int} {ps qs : List (Int × Int)} (h : BckOf n L ps) (k : BckOf n L qs) : ps = qs := lex_one (h.1.trans k.1.symm) h.2 k.2
theorem ledS_id (st : Sta) : ledS (fun i => i) st = st := by
  cases st <;> simp [ledS]
theorem for_enum82 {K : PySem.W.Frag} {a : Addr} {xs : List V} {g : TG} {tb : TS} {D : Ends} {σ : L2.St} {H : Hp} (Pv : Nat → L2.St → Hp → Prop) (h0 : Pv 0 σ H) (hk : ∀ i σ' H', Pv i σ' H' → SqL K H' a xs)
    (hs : ∀ i x T σ' H', xs[i]? = some x → Pv i σ' H' → H' T = none → g (.ref T) σ' (upd H' T (.tup [.int (i : Nat), x])) fun σ2 H2 => tb { D with nx := Pv (i + 1), ct := Pv (i + 1), bk := D.nx } σ2 H2) (hd : ∀ σ' H', Pv xs.length σ' H' → D.nx σ' H') :
    (SqL K H a xs ∧ ∃ W : Nat → Nat → L2.St → Hp → Prop, (∃ m, W 0 m σ H) ∧ ∀ i m σ H, W i m σ H →
      ((Ite K a).stop i H ∧ D.nx σ H) ∨ ((Ite K a).go i H ∧ ∃ N : L2.St → Hp → Prop, (∀ σ' H', N σ' H' → ∃ m', m' < m ∧ W (i + 1) m' σ' H') ∧ ∀ x H', (Ite K a).yld i H x H' → g x σ H' fun σ2 H2 => tb { D with nx := N, ct := N, bk := D.nx } σ2 H2)) ∨
    (SqT K H a xs ∧ ∃ W : Nat → Nat → L2.St → Hp → Prop, (∃ m, W 0 m σ H) ∧ ∀ i m σ H, W i m σ H →
      ((IteT K a).stop i H ∧ D.nx σ H) ∨ ((IteT K a).go i H ∧ ∃ N : L2.St → Hp → Prop, (∀ σ' H', N σ' H' → ∃ m', m' < m ∧ W (i + 1) m' σ' H') ∧ ∀ x H', (IteT K a).yld i H x H' → g x σ H' fun σ2 H2 => tb { D with nx := N, ct := N, bk := D.nx } σ2 H2)) := by
  refine .inl ⟨hk 0 σ H h0, fun i m σ H => m = xs.length - i ∧ i ≤ xs.length ∧ Pv i σ H, ⟨xs.length, by simp, Nat.zero_le _, h0⟩, ?_⟩
  rintro i m σ H ⟨rfl, hi, p⟩
  have q := hk i σ H p
  by_cases hlt : i < xs.length
  · refine .inr ⟨⟨xs, xs[i], q, by simp [hlt]⟩, Pv (i + 1), fun σ' H' p' => ⟨xs.length - (i + 1), by omega, rfl, hlt, p'⟩, fun x H' y => ?_⟩
    obtain ⟨T, x', rfl, hT, rfl, y⟩ := y
    exact hs i x' T σ _ (y xs q) p hT
  · have e : i = xs.length := by omega
    subst e
    exact .inl ⟨⟨xs, q, Nat.le_refl _⟩, hd σ H p⟩
theorem dc_enumL {K : PySem.W.Frag} {a : Addr} {xs : List V} {g : TG} {tt : TT} {tk tv : TE} {vs : List Nat} {σ : L2.St} {H1 : Hp} {D : Addr} {Qd : Hp → Prop} (Pv : Nat → Hp → Prop) (h0 : Pv 0 (upd H1 D (.dK []))) (hl : ∀ i H, Pv i H → SqL K H a xs)
    (hs : ∀ i x T H', xs[i]? = some x → Pv i H' → H' T = none → g (.ref T) (wipe σ vs) (upd H' T (.tup [.int (i : Nat), x])) fun σ2 H2 => wipe σ2 vs = wipe σ vs ∧ tt σ2 H2 fun b H3 =>
      if b = true then tk σ2 H3 fun y H4 => tv σ2 H4 fun z H5 => ∃ kvs k, y = kV k ∧ H5 D = some (.dK kvs) ∧ kvs.length < sizeLine ∧ Pv (i + 1) (upd H5 D (.dK (putK kvs k z))) else Pv (i + 1) H3) (hd : ∀ H, Pv xs.length H → Qd H) :
    ∃ W : Nat → Nat → Hp → Prop, (∃ m, W 0 m (upd H1 D (.dK []))) ∧ ∀ i m H, W i m H →
      ((Ite K a).stop i H ∧ Qd H) ∨ ((Ite K a).go i H ∧ ∃ Nx : Hp → Prop, (∀ H', Nx H' → ∃ m', m' < m ∧ W (i + 1) m' H') ∧ ∀ x H', (Ite K a).yld i H x H' → g x (wipe σ vs) H' fun σ2 H2 => wipe σ2 vs = wipe σ vs ∧ tt σ2 H2 fun b H3 =>
        if b = true then tk σ2 H3 fun y H4 => tv σ2 H4 fun z H5 => ∃ kvs k, y = kV k ∧ H5 D = some (.dK kvs) ∧ kvs.length < sizeLine ∧ Nx (upd H5 D (.dK (putK kvs k z))) else Nx H3) := by
  refine ⟨fun i m H => m = xs.length - i ∧ i ≤ xs.length ∧ Pv i H, ⟨xs.length, by simp, Nat.zero_le _, h0⟩, ?_⟩
  rintro i m H ⟨rfl, hi, p⟩
  have q := hl i H p
  by_cases hlt : i < xs.length
  · refine .inr ⟨⟨xs, xs[i], q, by simp [hlt]⟩, Pv (i + 1), fun H' p' => ⟨xs.length - (i + 1), by omega, rfl, hlt, p'⟩, fun x H' y => ?_⟩
    obtain ⟨T, x', rfl, hT, rfl, y⟩ := y
    exact hs i x' T _ (y xs q) p hT
  · have e : i = xs.length := by omega
    subst e
    exact .inl ⟨⟨xs, q, Nat.le_refl _⟩, hd H p⟩
end Fm
namespace Fm
open PySem PySem.Spec PyProof.Rows L2 SlX
theorem led_ok {f : Int → Int} {rs : List ActR} {many places places' : Int} : ∀ {st : Sta}, st.ok rs many places → (∀ g ∈ gosS st, 0 ≤ f g ∧ f g < places') → (ledS f st).ok rs many places'
  | .set chs g, h, hf => ⟨h.1, hf g (by simp [gosS])⟩
  | .ask act ts ways, ⟨r, hr, hn, hk⟩, hf => by
    refine ⟨r, hr, hn, hk.len, hk.ts, ?_, fun w hw => ?_⟩
    · have : (ways.map fun w => (w.1, w.2.1, f w.2.2)).map (·.1) = ways.map (·.1) := by rw [List.map_map]; rfl
      rw [this]
      exact hk.pm
    · obtain ⟨w', hw', rfl⟩ := List.mem_map.mp hw
      obtain ⟨i, h1, h2, h3, h4, _⟩ := hk.ways w' hw'
      exact ⟨i, h1, h2, h3, h4, hf _ (List.mem_map.mpr ⟨w', hw', rfl⟩)⟩
  | .fin word ts, h, _ => h
theorem led_ord {f : Int → Int} {rs : List ActR} (hw : WOk rs) {many places : Int} : ∀ {st : Sta}, st.ok rs many places → (ledS f st).ord = ledS f st.ord
  | .set chs g, _ => rfl
  | .ask act ts ways, ⟨r, hr, _, hk⟩ => by
    show Sta.ask act ts (srt leS (·.1) (ways.map fun w => (w.1, w.2.1, f w.2.2))) = .ask act ts ((srt leS (·.1) ways).map fun w => (w.1, w.2.1, f w.2.2))
    rw [srt_map (k := fun w : Str × List Int × Int => w.1) (l := fun w : Str × List Int × Int => w.1) totS (f := fun w : Str × List Int × Int => (w.1, w.2.1, f w.2.2)) (fun _ => rfl) (hk.pm.nodup_iff.mpr (hw.ond r hr))]
  | .fin _ _, _ => rfl
theorem gos_ok {rs : List ActR} {many places : Int} : ∀ {st : Sta}, st.ok rs many places → ∀ g ∈ gosS st, 0 ≤ g ∧ g < places
  | .set chs g, h, g', hg => by
    rw [gosS, List.mem_singleton] at hg
    rw [hg]
    exact h.2
  | .ask act ts ways, ⟨r, hr, _, hk⟩, g, hg => by
    obtain ⟨w, hw, rfl⟩ := List.mem_map.mp hg
    obtain ⟨i, _, _, _, _, h5⟩ := hk.ways w hw
    exact h5
  | .fin _ _, _, g, hg => by cases hg
theorem ok_more {rs : List ActR} {many places places' : Int} (hp : places ≤ places') {st : Sta} (h : st.ok rs many places) : st.ok rs many places' := by
  have := led_ok (f := fun i => i) (places' := places') h fun g hg => by
    have := gos_ok h g hg
    omega
  rwa [ledS_id] at this
theorem secI_in {n : Nat} {L : List Int} {i : Int} (h : i ∈ L) : (n : Int) ≤ secI n L i ∧ secI n L i < ((n + L.length : Nat) : Int) := by
  unfold secI
  have := List.idxOf_lt_length_of_mem h
  omega
theorem unr_len {sts : List Sta} {p : Int} {L : List Int} : (unrS sts p L).length = sts.length + L.length := by
  unfold unrS
  rw [List.length_append, List.length_map, List.length_map, List.length_zipIdx]
theorem unr_all {sts : List Sta} {p : Int} {L : List Int} {C : Sta → Prop} (h1 : ∀ st ∈ sts, C st ∧ C (ledS (secP sts.length L p) st) ∧ C (ledS (secQ sts.length L p) st)) (hL : ∀ i ∈ L, 0 ≤ i ∧ i < sts.length) : ∀ st ∈ unrS sts p L, C st := by
  intro st hst
  unfold unrS at hst
  rcases List.mem_append.mp hst with hst | hst
  · obtain ⟨e, he, rfl⟩ := List.mem_map.mp hst
    obtain ⟨s, i⟩ := e
    have hs : s ∈ sts := (List.mem_zipIdx he).2.2 ▸ List.getElem_mem _
    unfold unrA
    split
    · exact (h1 s hs).2.1
    · exact (h1 s hs).1
  · obtain ⟨i, hi, rfl⟩ := List.mem_map.mp hst
    obtain ⟨i0, i1⟩ := hL i hi
    have hlt : i.toNat < sts.length := by omega
    rw [List.getD_eq_getElem?_getD, List.getElem?_eq_getElem hlt]
    exact (h1 _ (List.getElem_mem hlt)).2.2
theorem unr_ok {rs : List ActR} {many : Int} {sts : List Sta} {p : Int} {L : List Int} (h : ∀ st ∈ sts, st.ok rs many sts.length) (hL : ∀ i ∈ L, 0 ≤ i ∧ i < sts.length) (hp : p ∈ L) : ∀ st ∈ unrS sts p L, st.ok rs many (unrS sts p L).length := by
  rw [unr_len]
  refine unr_all (fun st hst => ⟨ok_more (by omega) (h st hst), led_ok (h st hst) fun g hg => ?_, led_ok (h st hst) fun g hg => ?_⟩) hL
  · have hg := gos_ok (h st hst) g hg
    unfold secP
    split
    · have := secI_in (n := sts.length) hp
      omega
    · omega
  · have hg := gos_ok (h st hst) g hg
    unfold secQ
    split
    · rename_i hh
      have := secI_in (n := sts.length) hh.1
      omega
    · omega
theorem unr_ord {rs : List ActR} (hw : WOk rs) {many : Int} {sts : List Sta} {p : Int} {L : List Int} (h : ∀ st ∈ sts, st.ok rs many sts.length) (ho : ∀ st ∈ sts, st.ord = st) (hL : ∀ i ∈ L, 0 ≤ i ∧ i < sts.length) : (unrS sts p L).map Sta.ord = unrS sts p L := by
  conv => rhs; rw [← List.map_id (unrS sts p L)]
  refine List.map_congr_left fun st hst => ?_
  exact unr_all (C := fun st => st.ord = st) (fun st hst => ⟨ho st hst, by rw [led_ord hw (h st hst), ho st hst], by rw [led_ord hw (h st hst), ho st hst]⟩) hL st hst
end Fm
namespace Fm
open PySem PySem.Spec PyProof.Rows L2 SlX
local macro_rules | `(tactic| walk_at "nn") => `(tactic| dsimp only [tC, tNil, tCons, tCB, tCall, gName, tSeq, tAsg, tPar, tDrop, tRet])
local macro_rules | `(tactic| walk_at "nc") => `(tactic| dsimp only [tC, tNil, tCons, tCB, tCall])
def MvsAt (K : PySem.W.Frag) (H : Hp) (ps : List (Int × Int)) (rc : Addr) (xs : List V) : Prop := xs.length = ps.length ∧ ∀ (i : Nat) (x : V) (e : Int × Int), xs[i]? = some x → ps[i]? = some e → ∃ t, x = .ref t ∧ SqT K H t [.int e.1, .int e.2, .ref rc]
def sp_unrolled (K : PySem.W.Frag) (C CW CR DN DU : Addr) : Sp := fun vs H Q E => ∃ (x wx : Addr) (rs : List ActR) (many given : Int) (sts : List Sta) (p : Int), vs = [.ref x, .int p] ∧ CodAt K H C CW x wx rs many given sts ∧ CodeOk rs many given ∧ Rooms sts ∧ (∀ st ∈ sts, st.ok rs many sts.length) ∧ (∀ st ∈ sts, st.ord = st) ∧ sts.length ≤ 30 ∧
  (¬ (0 ≤ p ∧ p < sts.length) → ∀ d H', Mv [] H H' → H' d = none → E (.ref DN) (some d) (upd H' d (.xd [("place", .int p)]))) ∧
  (0 ≤ p → p < sts.length → LoopOf sts p [] → ∀ H', Mv [] H H' → E (.ref DU) none H') ∧
  (0 ≤ p → p < sts.length → ∀ L, LoopOf sts p L → L ≠ [] → ∀ (r z rc a1 a2 : Addr) (xs1 xs2 : List V) (ps1 ps2 : List (Int × Int)) H', Mv [] H H' → H a1 = none → H a2 = none → a1 ≠ a2 → SqT K H' r [.ref z, .ref a1, .ref a2] → CodAt K H' C CW z wx rs many given (unrS sts p L) → RecAt K H' CR rc many (varsT many.toNat) →
    H' a1 = some (.lst xs1) → H' a2 = some (.lst xs2) → MvsAt K H' ps1 rc xs1 → MvsAt K H' ps2 rc xs2 → PrsOf sts.length L ps1 → BckOf sts.length L ps2 → Q (.ref r) H')
def TupAt (H : Hp) (x : V) (e : Int × Int) : Prop := ∃ t, x = .ref t ∧ H t = some (.tup [.int e.1, .int e.2])
theorem TupAt.mv {H H' : Hp} {x : V} {e : Int × Int} (h : TupAt H x e) (m : Mv [] H H') : TupAt H' x e := let ⟨t, h1, h2⟩ := h; ⟨t, h1, m.same _ _ h2⟩
theorem TupAt.one {H : Hp} {x : V} {e e' : Int × Int} (h : TupAt H x e) (k : TupAt H x e') : e = e' := by
  obtain ⟨t, rfl, h2⟩ := h
  obtain ⟨t', e1, k2⟩ := k
  cases e1
  rw [h2] at k2
  have k3 := Option.some.inj k2
  injection k3 with k3
  injection k3 with k4 k5
  injection k5 with k5 k6
  exact Prod.ext (V.int.inj k4) (V.int.inj k5)
def PlAt (H : Hp) (xs : List V) (ps : List (Int × Int)) : Prop := xs.length = ps.length ∧ ∀ (i : Nat) (x : V) (e : Int × Int), xs[i]? = some x → ps[i]? = some e → TupAt H x e
theorem TupAt.put {H : Hp} {x : V} {e : Int × Int} {l : Addr} {zs : List V} {o : HO} (h : TupAt H x e) (k : H l = some (.lst zs)) : TupAt (upd H l o) x e := by
  obtain ⟨t, h1, h2⟩ := h
  refine ⟨t, h1, ?_⟩
  rw [upd_ne (fun z => by rw [z, k] at h2; cases h2)]
  exact h2
theorem PlAt.put {H : Hp} {xs : List V} {ps : List (Int × Int)} {l : Addr} {zs : List V} {o : HO} (h : PlAt H xs ps) (k : H l = some (.lst zs)) : PlAt (upd H l o) xs ps := ⟨h.1, fun i x e h1 h2 => (h.2 i x e h1 h2).put k⟩
theorem PlAt.nil {H : Hp} : PlAt H [] [] := ⟨rfl, fun i x e h => by simp at h⟩
theorem PlAt.mv {H H' : Hp} {xs : List V} {ps : List (Int × Int)} (h : PlAt H xs ps) (m : Mv [] H H') : PlAt H' xs ps := ⟨h.1, fun i x e h1 h2 => (h.2 i x e h1 h2).mv m⟩
theorem PlAt.app {H : Hp} {xs ys : List V} {ps qs : List (Int × Int)} (h : PlAt H xs ps) (k : PlAt H ys qs) : PlAt H (xs ++ ys) (ps ++ qs) := by
  refine ⟨by rw [List.length_append, List.length_append, h.1, k.1], fun i x e h1 h2 => ?_⟩
  by_cases hi : i < xs.length
  · rw [List.getElem?_append_left hi] at h1
    rw [List.getElem?_append_left (by rw [← h.1]; exact hi)] at h2
    exact h.2 i x e h1 h2
  · rw [List.getElem?_append_right (by omega)] at h1
    rw [List.getElem?_append_right (by rw [← h.1]; omega), ← h.1] at h2
    exact k.2 _ x e h1 h2
theorem PlAt.snoc {H : Hp} {xs : List V} {ps : List (Int × Int)} {x : V} {e : Int × Int} (h : PlAt H xs ps) (k : TupAt H x e) : PlAt H (xs ++ [x]) (ps ++ [e]) := h.app ⟨rfl, fun i y f h1 h2 => by
  cases i with
  | zero => simp at h1 h2; rw [← h1, ← h2]; exact k
  | succ i => simp at h1⟩
theorem rd_sortP {K : PySem.W.Frag} {H : Hp} {Q : VK} {pa : Addr} {xs : List V} {ps : List (Int × Int)} (e : H pa = some (.lst xs)) (h : PlAt H xs ps) (q : ∀ ys qs p, H p = none → PlAt H ys qs → qs.Perm ps → (qs.Pairwise fun a b => SrtO.lexB b a = false) → Q (.ref p) (upd H p (.lst ys))) : rSortP K [.ref pa] H Q := by
  have hx : ∀ x ∈ xs, ∃ e, TupAt H x e := fun x hx => by
    obtain ⟨i, hi⟩ := List.mem_iff_getElem?.mp hx
    have hil := (List.getElem?_eq_some_iff.mp hi).1
    exact ⟨_, h.2 i x _ hi (List.getElem?_eq_getElem (by rw [← h.1]; exact hil))⟩
  obtain ⟨k, hk⟩ : ∃ k : V → Int × Int, ∀ x ∈ xs, TupAt H x (k x) := by
    classical
    refine ⟨fun x => if h : ∃ e, TupAt H x e then h.choose else (0, 0), fun x hxm => ?_⟩
    have := hx x hxm
    show TupAt H x (if h : ∃ e, TupAt H x e then h.choose else (0, 0))
    rw [dif_pos this]
    exact this.choose_spec
  have hps : xs.map k = ps := by
    refine List.ext_getElem? fun i => ?_
    rw [List.getElem?_map]
    cases hi : xs[i]? with
    | none =>
      have := List.getElem?_eq_none_iff.mp hi
      rw [Option.map_none, eq_comm, List.getElem?_eq_none_iff, ← h.1]
      exact this
    | some x =>
      have hil := (List.getElem?_eq_some_iff.mp hi).1
      have hil' : i < ps.length := by rw [← h.1]; exact hil
      have hp : ps[i]? = some ps[i] := List.getElem?_eq_getElem hil'
      rw [hp]
      exact congrArg some ((hk x (List.mem_of_getElem? hi)).one (h.2 i x _ hi hp))
  refine ⟨pa, xs, k, rfl, .inl (.inl e), fun x hxm => ?_, fun ys p hp hs np => ?_⟩
  · obtain ⟨t, h1, h2⟩ := hk x hxm
    exact ⟨t, h1, .inl (.inl h2)⟩
  · refine q ys (ys.map k) p np ⟨by rw [List.length_map], fun i y e h1 h2 => ?_⟩ ?_ (pw_pairs hs)
    · rw [List.getElem?_map, h1] at h2
      cases h2
      exact hk y (hp.mem_iff.mp (List.mem_of_getElem? h1))
    · rw [← hps]
      exact hp.map k
theorem MvsAt.mv {K : PySem.W.Frag} {S : List Addr} {H H' : Hp} {ps : List (Int × Int)} {rc : Addr} {xs : List V} (h : MvsAt K H ps rc xs) (m : Mv S H H') : MvsAt K H' ps rc xs := ⟨h.1, fun i x e h1 h2 => let ⟨t, a, b⟩ := h.2 i x e h1 h2; ⟨t, a, m.sqT b⟩⟩
theorem MvsAt.snoc {K : PySem.W.Frag} {H : Hp} {ps : List (Int × Int)} {e : Int × Int} {rc : Addr} {xs : List V} {x : V} (h : MvsAt K H ps rc xs) (k : ∃ t, x = .ref t ∧ SqT K H t [.int e.1, .int e.2, .ref rc]) : MvsAt K H (ps ++ [e]) rc (xs ++ [x]) := by
  refine ⟨by rw [List.length_append, List.length_append, h.1]; rfl, fun i y f h1 h2 => ?_⟩
  by_cases hi : i < xs.length
  · rw [List.getElem?_append_left hi] at h1
    rw [List.getElem?_append_left (by rw [← h.1]; exact hi)] at h2
    exact h.2 i y f h1 h2
  · rw [List.getElem?_append_right (by omega)] at h1
    rw [List.getElem?_append_right (by rw [← h.1]; omega), ← h.1] at h2
    cases hj : i - xs.length with
    | zero =>
      rw [hj] at h1 h2
      simp at h1 h2
      rw [← h1, ← h2]
      exact k
    | succ j =>
      rw [hj] at h1
      simp at h1
theorem rch_trans {sts : List Sta} {p x y : Int} (h : Rch sts p x) (k : Rch sts x y) : Rch sts p y := by
  induction k with
  | step k => exact .next h k
  | next _ k ih => exact .next ih k
theorem loop_self {sts : List Sta} {p : Int} {L : List Int} (h : LoopOf sts p L) (hn : L ≠ []) : p ∈ L := by
  obtain ⟨x, hx⟩ := List.exists_mem_of_ne_nil L hn
  obtain ⟨h1, h2⟩ := (h.2 x).mp hx
  have := rch_trans h1 h2
  exact (h.2 p).mpr ⟨this, this⟩
theorem putK_len82 (kvs : List (L2.Key × V)) (k : L2.Key) (z : V) : (putK kvs k z).length ≤ kvs.length + 1 := by
  unfold putK
  split <;> simp
theorem dc_list82 {K : PySem.W.Frag} {a : Addr} {xs : List V} {g : TG} {tt : TT} {tk tv : TE} {vs : List Nat} {σ : L2.St} {H1 : Hp} {D : Addr} {Qd : Hp → Prop} (Pv : Nat → Hp → Prop) (h0 : Pv 0 (upd H1 D (.dK []))) (hl : ∀ i H, Pv i H → SqL K H a xs)
    (hs : ∀ i x H', xs[i]? = some x → Pv i H' → g x (wipe σ vs) H' fun σ2 H2 => wipe σ2 vs = wipe σ vs ∧ tt σ2 H2 fun b H3 =>
      if b = true then tk σ2 H3 fun y H4 => tv σ2 H4 fun z H5 => ∃ kvs k, y = kV k ∧ H5 D = some (.dK kvs) ∧ kvs.length < sizeLine ∧ Pv (i + 1) (upd H5 D (.dK (putK kvs k z))) else Pv (i + 1) H3) (hd : ∀ H, Pv xs.length H → Qd H) :
    ∃ W : Nat → Nat → Hp → Prop, (∃ m, W 0 m (upd H1 D (.dK []))) ∧ ∀ i m H, W i m H →
      ((Itl K a).stop i H ∧ Qd H) ∨ ((Itl K a).go i H ∧ ∃ Nx : Hp → Prop, (∀ H', Nx H' → ∃ m', m' < m ∧ W (i + 1) m' H') ∧ ∀ x H', (Itl K a).yld i H x H' → g x (wipe σ vs) H' fun σ2 H2 => wipe σ2 vs = wipe σ vs ∧ tt σ2 H2 fun b H3 =>
        if b = true then tk σ2 H3 fun y H4 => tv σ2 H4 fun z H5 => ∃ kvs k, y = kV k ∧ H5 D = some (.dK kvs) ∧ kvs.length < sizeLine ∧ Nx (upd H5 D (.dK (putK kvs k z))) else Nx H3) := by
  refine ⟨fun i m H => m = xs.length - i ∧ i ≤ xs.length ∧ Pv i H, ⟨xs.length, by simp, Nat.zero_le _, h0⟩, ?_⟩
  rintro i m H ⟨rfl, hi, p⟩
  have q := hl i H p
  by_cases hlt : i < xs.length
  · refine .inr ⟨⟨xs, xs[i], q, by simp [hlt]⟩, Pv (i + 1), fun H' p' => ⟨xs.length - (i + 1), by omega, rfl, hlt, p'⟩, fun x H' y => ?_⟩
    obtain ⟨rfl, y⟩ := y
    exact hs i x _ (y xs q) p
  · have e : i = xs.length := by omega
    subst e
    exact .inl ⟨⟨xs, q, Nat.le_refl _⟩, hd H p⟩
section
variable {P : Program} {w : World} {K : PySem.W.Frag} {mg : Str → Option Value} {base : Heap}
theorem ok_unrolled (T : TX K mg) (Y : TY P K mg) {k : Nat} : FnOk P w K mg base (CX P w) (k + 12) T.d_unrolled.f T.d_unrolled.fd P_unrolled (sp_unrolled K T.C_Code T.C_World T.C_Recipe Y.C_NoPlace Y.C_Unfit) := by
  have G_Code___len__ : FnOk P w K mg base CX0 1 T.d_Code___len__.f T.d_Code___len__.fd P_Code___len__ (sp_Codelen K T.C_Code T.C_World) := ok_Code___len__ T
  have G_Code_statements : FnOk P w K mg base CX0 1 T.d_Code_statements.f T.d_Code_statements.fd P_Code_statements (sp_Cstats K T.C_Code T.C_World) := ok_Code_statements T
  have G_Code_statement : FnOk P w K mg base CX0 4 T.d_Code_statement.f T.d_Code_statement.fd P_Code_statement (sp_stat82 K T.C_Code T.C_World) := ok_Code_statement82 (k := 0) T
  have G_loop_of : FnOk P w K mg base CX0 3 T.d_loop_of.f T.d_loop_of.fd P_loop_of (sp_loopOf K T.C_Code T.C_World) := ok_loop_of (k := 0) T
  have G_led : FnOk P w K mg base CX0 1 T.d_led.f T.d_led.fd P_led (sp_led K) := ok_led (k := 0) T
  have G_copied : FnOk P w K mg base CX0 10 T.d_copied.f T.d_copied.fd P_copied (sp_copied82 K T.C_Code T.C_World T.C_Recipe) := ok_copied82 (k := 0) T Y
  have G_with_statements : FnOk P w K mg base CX0 9 T.d_with_statements.f T.d_with_statements.fd P_with_statements (sp_withSts K T.C_Code T.C_World) := ok_with_statements (k := 0) T
  refine T.d_unrolled.F.okX sc_unrolled (fun vs H Q E h => ?_) (fun cdv A outer s H vs Q E hr h => ?_)
  · obtain ⟨_, _, _, _, _, _, _, rfl, _⟩ := h
    rfl
  · obtain ⟨x, wx, rs, many, given, sts, p, rfl, hC, hK, hR, hok, hord, h30, eN, eU, q⟩ := h
    have hu64 := hr.units
    have hu65 := hu65_of hr
    have hu1 := hu1_of hr
    obtain ⟨dx, lc, xs0, hs, hW, hlc, hxs0⟩ := id hC
    refine ⟨_, (pss_cons (ps_if (pt_not (pt_chain op_le op_lt pe_int (pv 1) (pe_callB (r := rLenOwn T.C_Code (sp_Codelen K T.C_Code T.C_World) _) (call_lenOwn T.d_Code___len__.M.at_ T.d_Code___len__.M.fn (fnR_of G_Code___len__ T.d_Code___len__.b) (hr.mono (by omega)) pass0) (by rfl) T.b_len bt_len (pa_cons (pv 0) pa_nil)))) (pss_one (ps_raise rfl (takes_of rfl rfl rfl rfl) (pmk_x Y.x_NoPlace hr (pa_cons (pv 1) pa_nil)))) pss_nil) (pss_cons (ps_set (i := 2) sc_unrolled.nd rfl (Or.inl rfl) (pe_call G_loop_of (hr.mono (by omega)) rfl T.d_loop_of.g T.d_loop_of.F.kp T.d_loop_of.b .nil pass0 (pa_cons (pv 0) (pa_cons (pv 1) pa_nil)))) (pss_cons (ps_if (pt_cmpR (r := rEqNil K) (op_eqNil (Nat.lt_of_le_of_lt (Nat.le_add_right _ 65) hu65)) (pv 2) (pe_lst pa_nil) (nomark _)) (pss_one (ps_raise rfl (takes_of rfl rfl rfl rfl) (pmk_z Y.x_Unfit))) pss_nil) (pss_cons (ps_set (i := 3) sc_unrolled.nd rfl (Or.inr rfl) (pe_dc rfl (own := [("at", 4), ("one", 5)]) (g := gTup K 2 (gCons (gName 4) (gCons (gName 5) gNil))) sc_unrolled.nd (pi_enumG (by rfl) T.b_enumerate (pa_cons (pv 2) pa_nil)) (blkOk_by (own := [("at", 4), ("one", 5)]) (N := N_unrolled) (sc := defScope s_unrolled) (by decide +kernel)) (fun _ _ _ _ _ => (pg_tup rfl (pgs_cons (pg_name (i := 4) sc_unrolled.nd rfl (Or.inl rfl)) (pgs_cons (pg_name (i := 5) sc_unrolled.nd rfl (Or.inl rfl)) pgs_nil)))) (fun _ _ _ _ _ => pts_nil) (fun _ _ _ _ _ => (pv 5)) (fun _ _ _ _ _ => (pe_op (r := rAddG K) op_addG (pe_callB (r := rLenOwn T.C_Code (sp_Codelen K T.C_Code T.C_World) _) (call_lenOwn T.d_Code___len__.M.at_ T.d_Code___len__.M.fn (fnR_of G_Code___len__ T.d_Code___len__.b) (hr.mono (by omega)) pass0) (by rfl) T.b_len bt_len (pa_cons (pv 0) pa_nil)) (pv 4))))) (pss_cons (ps_set (i := 6) sc_unrolled.nd rfl (Or.inr rfl) (pe_dc rfl (own := [("one", 5)]) (g := gName 5) sc_unrolled.nd (pi_seq (pv 2)) (blkOk_by (own := [("one", 5)]) (N := N_unrolled) (sc := defScope s_unrolled) (by decide +kernel)) (fun _ _ _ _ _ => pg_name (i := 5) sc_unrolled.nd rfl (Or.inl rfl)) (fun _ _ _ _ _ => (pts_one (pt_cmpR (r := rNeG K) (op_neG hu64) (pv 5) (pv 1) (nomark _)))) (fun _ _ _ _ _ => (pv 5)) (fun _ _ _ _ _ => (pe_dget hu1 (pv 3) (pv 5) (fun _ _ => rfl))))) (pss_cons (ps_set (i := 7) sc_unrolled.nd rfl (Or.inl rfl) (pe_lst pa_nil)) (pss_cons (ps_for (passes_of rfl) rfl (pi_enumG (by rfl) T.b_enumerate (pa_cons (pe_methSl0 (pv 0) T.c_Code T.d_Code_statements.M (fnR_of G_Code_statements T.d_Code_statements.b) (hr.mono (by omega)) pass0) pa_nil)) (pg_tup rfl (pgs_cons (pg_name (i := 4) sc_unrolled.nd rfl (Or.inl rfl)) (pgs_cons (pg_name (i := 8) sc_unrolled.nd rfl (Or.inl rfl)) pgs_nil))) (pss_one (ps_expr (pe_bm PySem.F.plainAttrs_list PySem.F.slot_list_append PySem.F.type_list_append mt_append (pv 7) (pa_cons (pe_ifExp (pt_cmpR (r := rInG K) (op_inG hu65) (pv 4) (pv 2) rfl) (pe_call G_led (hr.mono (by omega)) rfl T.d_led.g T.d_led.F.kp T.d_led.b .nil pass0 (pa_cons (pv 8) (pa_cons (pe_disp (pps_cons (pv 1) (pe_dget hu1 (pv 3) (pv 1) (fun _ _ => rfl)) pps_nil) (by rfl) (by rfl) (fun z => by cases z) (by decide)) pa_nil))) (pv 8)) pa_nil))))) (pss_cons (ps_expr (pe_bm PySem.F.plainAttrs_list PySem.F.slot_list_extend PySem.F.type_list_extend (r := rExtG K) mt_extendG (pv 7) (pa_cons (pe_lc (own := [("one", 5)]) (g := gName 5) (by rfl) sc_unrolled.nd (pi_seq (pv 2)) (blkOk_by (own := [("one", 5)]) (N := N_unrolled) (sc := defScope s_unrolled) (by decide +kernel)) (fun _ _ _ _ _ => pg_name (i := 5) sc_unrolled.nd rfl (Or.inl rfl)) (fun _ _ _ _ _ => pts_nil) (fun _ _ _ _ _ => (pe_call G_led (hr.mono (by omega)) rfl T.d_led.g T.d_led.F.kp T.d_led.b .nil pass0 (pa_cons (pe_methSl (pv 0) T.c_Code T.d_Code_statement.M (fnR_of G_Code_statement T.d_Code_statement.b) (hr.mono (by omega)) pass0 (pa_cons (pv 5) pa_nil)) (pa_cons (pv 6) pa_nil))))) pa_nil))) (pss_cons (ps_set (i := 9) sc_unrolled.nd rfl (Or.inr rfl) (pe_call G_copied (hr.mono (by omega)) rfl T.d_copied.g T.d_copied.F.kp T.d_copied.b .nil pass0 (pa_cons (pv 0) pa_nil))) (pss_cons (ps_set (i := 10) sc_unrolled.nd rfl (Or.inl rfl) (pe_callB (r := rSortP K) cr_sortP (by rfl) T.b_sorted bt_sorted (pa_cons (pe_op (r := rAddG K) op_addG (pe_lc (own := [("one", 5)]) (g := gName 5) (by rfl) sc_unrolled.nd (pi_range1 (by rfl) T.b_range (pa_cons (pe_callB (r := rLenOwn T.C_Code (sp_Codelen K T.C_Code T.C_World) _) (call_lenOwn T.d_Code___len__.M.at_ T.d_Code___len__.M.fn (fnR_of G_Code___len__ T.d_Code___len__.b) (hr.mono (by omega)) pass0) (by rfl) T.b_len bt_len (pa_cons (pv 0) pa_nil)) pa_nil)) (blkOk_by (own := [("one", 5)]) (N := N_unrolled) (sc := defScope s_unrolled) (by decide +kernel)) (fun _ _ _ _ _ => pg_name (i := 5) sc_unrolled.nd rfl (Or.inl rfl)) (fun _ _ _ _ _ => pts_nil) (fun _ _ _ _ _ => (pe_tup (pa_cons (pv 5) (pa_cons (pv 5) pa_nil))))) (pe_lc (own := [("one", 5)]) (g := gName 5) (by rfl) sc_unrolled.nd (pi_seq (pv 2)) (blkOk_by (own := [("one", 5)]) (N := N_unrolled) (sc := defScope s_unrolled) (by decide +kernel)) (fun _ _ _ _ _ => pg_name (i := 5) sc_unrolled.nd rfl (Or.inl rfl)) (fun _ _ _ _ _ => pts_nil) (fun _ _ _ _ _ => (pe_tup (pa_cons (pv 5) (pa_cons (pe_dget hu1 (pv 3) (pv 5) (fun _ _ => rfl)) pa_nil)))))) pa_nil))) (pss_cons (ps_set (i := 11) sc_unrolled.nd rfl (Or.inl rfl) (pe_callB (r := rSortP K) cr_sortP (by rfl) T.b_sorted bt_sorted (pa_cons (pe_lc (own := [("one", 5), ("to", 12)]) (g := gTup K 2 (gCons (gName 5) (gCons (gName 12) gNil))) (by rfl) sc_unrolled.nd (pi_seq (pv 10)) (blkOk_by (own := [("one", 5), ("to", 12)]) (N := N_unrolled) (sc := defScope s_unrolled) (by decide +kernel)) (fun _ _ _ _ _ => (pg_tup rfl (pgs_cons (pg_name (i := 5) sc_unrolled.nd rfl (Or.inl rfl)) (pgs_cons (pg_name (i := 12) sc_unrolled.nd rfl (Or.inl rfl)) pgs_nil)))) (fun _ _ _ _ _ => pts_nil) (fun _ _ _ _ _ => (pe_tup (pa_cons (pv 12) (pa_cons (pv 5) pa_nil))))) pa_nil))) (pss_one (ps_ret (pe_tup (pa_cons (pe_call G_with_statements (hr.mono (by omega)) rfl T.d_with_statements.g T.d_with_statements.F.kp T.d_with_statements.b .nil pass0 (pa_cons (pv 0) (pa_cons (pv 7) pa_nil))) (pa_cons (pe_lc (own := [("pair", 13)]) (g := gName 13) (by rfl) sc_unrolled.nd (pi_seq (pv 10)) (blkOk_by (own := [("pair", 13)]) (N := N_unrolled) (sc := defScope s_unrolled) (by decide +kernel)) (fun _ _ _ _ _ => pg_name (i := 13) sc_unrolled.nd rfl (Or.inl rfl)) (fun _ _ _ _ _ => pts_nil) (fun _ _ _ _ _ => (pe_op (r := rAddG K) op_addG (pv 13) (pe_tup (pa_cons (pv 9) pa_nil))))) (pa_cons (pe_lc (own := [("pair", 13)]) (g := gName 13) (by rfl) sc_unrolled.nd (pi_seq (pv 11)) (blkOk_by (own := [("pair", 13)]) (N := N_unrolled) (sc := defScope s_unrolled) (by decide +kernel)) (fun _ _ _ _ _ => pg_name (i := 13) sc_unrolled.nd rfl (Or.inl rfl)) (fun _ _ _ _ _ => pts_nil) (fun _ _ _ _ _ => (pe_op (r := rAddG K) op_addG (pv 13) (pe_tup (pa_cons (pv 9) pa_nil))))) pa_nil))))))))))))))))), ?_⟩
    refine ⟨.int p, rfl, 0, p, rfl, rfl, _, rfl, ite2 (fun e => ?_) (fun e => ?_)⟩
    rotate_left
    · have hn : ¬ (0 ≤ p ∧ p < sts.length) := by
        have : ¬ 0 ≤ p := by simpa using e
        omega
      exact ⟨_, rfl, .int p, rfl, .int p, rfl, fun d nd => eN hn d H .refl nd⟩
    have p0 : 0 ≤ p := by simpa using e
    refine ⟨.ref x, rfl, x, dx, _, rfl, hs, x, wx, rs, many, given, sts, rfl, hC, sts.length, rfl, by omega, p, (sts.length : Nat), rfl, rfl, _, rfl, ?_⟩
    by_cases p1 : p < sts.length
    rotate_left
    · rw [decide_eq_false p1]
      exact ⟨.int p, rfl, .int p, rfl, fun d nd => eN (fun z => p1 z.2) d H .refl nd⟩
    rw [decide_eq_true p1]
    refine ⟨.ref x, rfl, .int p, rfl, x, wx, rs, many, given, sts, p, rfl, hC, hR, p0, p1, fun pl L H1 nl m1 e1 hL => ?_⟩
    refine ⟨.ref pl, rfl, Nat.zero_le _, fun p2 n2 => ⟨pl, p2, L.map V.int, rfl, rfl, .inl (.inl (same_new n2 _ _ e1)), .inl (.inl upd_same), _, rfl, ?_⟩⟩
    have k2 := Mv.new (S := []) (o := (.lst ([] : List V))) n2
    have e2 : upd H1 p2 (.lst ([] : List V)) p2 = some (.lst ([] : List V)) := upd_same
    generalize upd H1 p2 (.lst ([] : List V)) = H2 at k2 e2 ⊢
    have m2 := m1.trans k2
    have e1 := k2.same _ _ e1
    by_cases hL0 : L = []
    · subst hL0
      exact eU p0 p1 hL H2 m2
    have hLe : (L.map V.int).isEmpty = false := by
      cases L with
      | nil => exact absurd rfl hL0
      | cons => rfl
    rw [hLe]
    have hpL := loop_self hL hL0
    have hLin : ∀ i ∈ L, 0 ≤ i ∧ i < sts.length := fun i hi => ((hL.2 i).mp hi).1.in_ hR.go
    have hLn : L.Nodup := List.nodup_iff_pairwise_ne.mpr (hL.1.imp fun h => by omega)
    have hLl : L.length ≤ 30 := Nat.le_trans (nodup_few hLn hLin) h30
    have q := q p0 p1 L hL hL0
    refine ⟨.ref pl, rfl, pl, _, rfl, .inl ⟨.inl (.inl e1), fun ds nds => ?_⟩⟩
    refine dc_enumL (K := K) (a := pl) (xs := L.map V.int) (fun i H3 => ∃ kvs : List (L2.Key × V), H3 ds = some (.dK kvs) ∧ kvs.length ≤ i ∧ (∀ j : Int, valV kvs (.inl j) = if j ∈ L.take i then some (.int (secI sts.length L j)) else none) ∧ Mv [] H2 H3)
      ⟨[], upd_same, Nat.le_refl _, fun j => by simp [valV], .new nds⟩ (fun i H3 h3 => let ⟨_, _, _, _, m⟩ := h3; .inl (.inl (m.same _ _ e1))) (fun i v pt H3 hv h3 nt => ?_) (fun H3 h3 => ?_)
    · obtain ⟨kvs, f1, f2, f3, f4⟩ := h3
      rw [List.getElem?_map] at hv
      obtain ⟨j, hj, rfl⟩ := Option.map_eq_some_iff.mp hv
      have hil := (List.getElem?_eq_some_iff.mp hj).1
      have kt := Mv.new (S := []) (o := .tup [.int (i : Nat), .int j]) nt
      have et : SqT K (upd H3 pt (.tup [.int (i : Nat), .int j])) pt [.int (i : Nat), .int j] := .inl (.inl upd_same)
      generalize upd H3 pt (.tup [.int (i : Nat), .int j]) = H4 at kt et ⊢
      have m24 := f4.trans kt
      refine ⟨pt, _, rfl, et, rfl, _, _, rfl, _, _, rfl, rfl, rfl, ?_⟩
      refine ⟨.int j, rfl, .ref x, rfl, x, dx, _, rfl, Slt.mv hs (m2.trans m24), x, wx, rs, many, given, sts, rfl, hC.mv (m2.trans m24), sts.length, rfl, by omega, .int (i : Nat), rfl, Or.inl ⟨_, _, rfl, rfl, kvs, .inl j, rfl, kt.same _ _ f1, line5lt (by omega), ?_⟩⟩
      have hidx : L.idxOf j = i := by
        have := hLn.idxOf_getElem i hil
        rw [List.getElem?_eq_getElem hil] at hj
        rw [← Option.some.inj hj]
        exact this
      refine ⟨_, upd_same, ?_, fun j' => ?_, m24.wr nds⟩
      · have := putK_len82 kvs (.inl j) (.int ((sts.length : Int) + (i : Nat)))
        exact Nat.le_trans this (by omega)
      · rw [valV_put, f3 j', List.take_add_one, hj]
        by_cases hjj : j' = j
        · subst hjj
          rw [if_pos rfl, if_pos (by simp), secI, hidx]
        · rw [if_neg (fun z => hjj (Sum.inl.inj z))]
          by_cases hm : j' ∈ L.take i
          · rw [if_pos hm, if_pos (by simp [hm])]
          · rw [if_neg hm, if_neg (by simp [hm, hjj])]
    · obtain ⟨kvs, f1, f2, f3, f4⟩ := h3
      rw [List.length_map, List.take_length] at f3
      have e13 := f4.same _ _ e1
      refine ⟨.ref pl, rfl, pl, rfl, .inl ⟨⟨_, .inl (.inl e13)⟩, fun di ndi => ?_⟩⟩
      have hdd : di ≠ ds := fun e => by rw [e, f1] at ndi; cases ndi
      refine dc_list82 (K := K) (a := pl) (xs := L.map V.int) (fun i H4 => ∃ kvi : List (L2.Key × V), H4 di = some (.dK kvi) ∧ kvi.length ≤ i ∧ (∀ j : Int, valV kvi (.inl j) = if j ∈ L.take i ∧ j ≠ p then some (.int (secI sts.length L j)) else none) ∧ Mv [] H3 H4)
        ⟨[], upd_same, Nat.le_refl _, fun j => by simp [valV], .new ndi⟩ (fun i H4 h4 => let ⟨_, _, _, _, m⟩ := h4; .inl (.inl (m.same _ _ e13))) (fun i v H4 hv h4 => ?_) (fun H4 h4 => ?_)
      · obtain ⟨kvi, g1, g2, g3, g4⟩ := h4
        rw [List.getElem?_map] at hv
        obtain ⟨j, hj, rfl⟩ := Option.map_eq_some_iff.mp hv
        have hil := (List.getElem?_eq_some_iff.mp hj).1
        have hjL : j ∈ L := List.mem_of_getElem? hj
        refine ⟨rfl, .int j, rfl, .int p, rfl, Or.inl ⟨rfl, _, rfl, ?_⟩⟩
        by_cases hjp : j = p
        · rw [show (!decide (V.int j = V.int p)) = false by rw [hjp]; simp]
          refine ⟨kvi, g1, by omega, fun j' => ?_, g4⟩
          rw [g3 j', List.take_add_one, hj]
          by_cases hm : j' ∈ L.take i ∧ j' ≠ p
          · rw [if_pos hm, if_pos ⟨by simp [hm.1], hm.2⟩]
          · rw [if_neg hm, if_neg (fun z => hm ⟨?_, z.2⟩)]
            rcases List.mem_append.mp z.1 with z1 | z1
            · exact z1
            · exact absurd ((by simpa using z1 : j' = j).trans hjp) z.2
        · rw [show (!decide (V.int j = V.int p)) = true by simp [hjp]]
          refine ⟨.int j, rfl, .ref ds, rfl, .int j, rfl, ds, .int (secI sts.length L j), rfl, ?_, kvi, .inl j, rfl, g1, line5lt (by omega), ?_⟩
          · have := DGet.k (k := Sum.inl j) (g4.same _ _ f1)
            rwa [f3 j, if_pos hjL] at this
          · refine ⟨_, upd_same, Nat.le_trans (putK_len82 _ _ _) (by omega), fun j' => ?_, g4.wr ndi⟩
            rw [valV_put, g3 j', List.take_add_one, hj]
            by_cases hjj : j' = j
            · subst hjj
              rw [if_pos rfl, if_pos ⟨by simp, hjp⟩]
            · rw [if_neg (fun z => hjj (Sum.inl.inj z))]
              by_cases hm : j' ∈ L.take i ∧ j' ≠ p
              · rw [if_pos hm, if_pos ⟨by simp [hm.1], hm.2⟩]
              · rw [if_neg hm, if_neg (fun z => hm ⟨?_, z.2⟩)]
                rcases List.mem_append.mp z.1 with z1 | z1
                · exact z1
                · exact absurd (by simpa using z1 : j' = j) hjj
      · obtain ⟨kvi, g1, g2, g3, g4⟩ := h4
        rw [List.length_map, List.take_length] at g3
        refine ⟨Nat.zero_le _, fun pf npf => ?_⟩
        have m04 : Mv [] H H4 := m2.trans (f4.trans g4)
        have m4f := Mv.new (S := []) (o := .lst []) npf
        have epf : upd H4 pf (.lst []) pf = some (.lst []) := upd_same
        generalize upd H4 pf (.lst []) = H5 at m4f epf ⊢
        have m05 := m04.trans m4f
        refine ⟨.ref x, rfl, x, dx, _, rfl, Slt.mv hs m05, x, wx, rs, many, given, sts, rfl, hC.mv m05, fun ps xsS nps iS => ⟨ps, xsS, rfl, ?_⟩⟩
        have k6 := Mv.new (S := []) (o := .lst xsS) nps
        have eps : upd H5 ps (.lst xsS) ps = some (.lst xsS) := upd_same
        have epf6 := k6.same _ _ epf
        have iS := iS.mv k6
        have hpfs : pf ≠ ps := ne_of_none epf nps
        generalize upd H5 ps (.lst xsS) = H6 at k6 eps epf6 iS ⊢
        have hxS : xsS.length = sts.length := by rw [iS.length, List.length_map]
        refine for_enum82 (K := K) (a := ps) (xs := xsS) (fun i σ H7 => ∃ (y4 y8 : Option V) (zs : List V), σ = [some (.ref x), some (.int p), some (.ref pl), some (.ref ds), y4, none, some (.ref di), some (.ref pf), y8, none, none, none, none, none] ∧ H7 pf = some (.lst zs) ∧ Ims K H7 zs ((sts.zipIdx.take i).map fun e => (unrA sts p L e).d) ∧ H7 ps = some (.lst xsS) ∧ Ims K H7 xsS (sts.map Sta.d) ∧ Mv [] H4 H7)
          ⟨_, _, [], rfl, epf6, Ims.nil, eps, iS, m4f.trans k6⟩ (fun i σ H7 h7 => let ⟨_, _, _, _, _, _, e, _⟩ := h7; .inl (.inl e)) (fun i v pt σ H7 hv h7 nt => ?_) (fun σ H7 h7 => ?_)
        · obtain ⟨y4, y8, zs, rfl, w1, w2, w3, w4, w5⟩ := h7
          have hil := (List.getElem?_eq_some_iff.mp hv).1
          obtain ⟨d, hd, him⟩ := w4.get hv
          rw [List.getElem?_map] at hd
          obtain ⟨st, hst, rfl⟩ := Option.map_eq_some_iff.mp hd
          have hmem := List.mem_of_getElem? hst
          have hzl : zs.length ≤ 100 := by
            rw [w2.length, List.length_map, List.length_take, List.length_zipIdx]
            omega
          have htk : sts.zipIdx.take (i + 1) = sts.zipIdx.take i ++ [(st, i)] := by
            rw [List.take_add_one, List.getElem?_zipIdx, hst]
            simp
          have kt := Mv.new (S := []) (o := .tup [.int (i : Nat), v]) nt
          have et : SqT K (upd H7 pt (.tup [.int (i : Nat), v])) pt [.int (i : Nat), v] := .inl (.inl upd_same)
          generalize upd H7 pt (.tup [.int (i : Nat), v]) = H8 at kt et ⊢
          have m48 := w5.trans kt
          refine ⟨pt, _, rfl, et, rfl, _, _, rfl, _, _, rfl, rfl, ?_⟩
          have epl8 := (f4.trans (g4.trans m48)).same _ _ e1
          refine ⟨.ref pf, rfl, .inl ⟨rfl, _, .inl (.inl (kt.same _ _ w1))⟩, .int (i : Nat), rfl, .ref pl, rfl, rd_in82 epl8 ⟨_, rfl, ?_⟩⟩
          have fin : ∀ (v' : V) (H9 : Hp), Mv [] H8 H9 → Im K H9 v' (unrA sts p L (st, i)).d → H9 pf = some (.lst zs) → rAppend (.ref pf) [v'] H9 fun _ H10 => ∃ (y4 y8 : Option V) (zs : List V), [some (.ref x), some (.int p), some (.ref pl), some (.ref ds), some (.int (i : Nat)), none, some (.ref di), some (.ref pf), some v, none, none, none, none, none] = [some (.ref x), some (.int p), some (.ref pl), some (.ref ds), y4, none, some (.ref di), some (.ref pf), y8, none, none, none, none, none] ∧ H10 pf = some (.lst zs) ∧ Ims K H10 zs ((sts.zipIdx.take (i + 1)).map fun e => (unrA sts p L e).d) ∧ H10 ps = some (.lst xsS) ∧ Ims K H10 xsS (sts.map Sta.d) ∧ Mv [] H4 H10 := by
            intro v' H9 m9 i9 e9
            have mset := Mv.set (S := [pf]) (o := .lst (zs ++ [v'])) e9 (by simp)
            refine ⟨pf, zs, v', rfl, rfl, e9, line5lt (by omega), _, _, zs ++ [v'], rfl, upd_same, ?_, ?_, ?_, (m48.trans m9).wr npf⟩
            · rw [htk, List.map_append]
              exact ((w2.mv (kt.trans m9)).append (.cons i9 .nil)).mv mset
            · rw [upd_ne hpfs.symm]
              exact (kt.trans m9).same _ _ w3
            · exact (w4.mv (kt.trans m9)).mv mset
          by_cases hi : ((i : Nat) : Int) ∈ L
          · rw [decide_eq_true hi]
            refine ⟨v, rfl, fun q nq => ?_⟩
            have kq := Mv.new (S := []) (o := .dK []) nq
            have eq : upd H8 q (.dK []) q = some (.dK []) := upd_same
            generalize upd H8 q (.dK []) = H9 at kq eq ⊢
            refine ⟨.int p, rfl, .ref ds, rfl, .int p, rfl, ds, .int (secI sts.length L p), rfl, ?_, eq, [((Sum.inl p : L2.Key), V.int (secI sts.length L p))], rfl, (by decide : 1 ≤ 15), ?_⟩
            · have := DGet.k (k := Sum.inl p) ((g4.trans (m48.trans kq)).same _ _ f1)
              rwa [f3 p, if_pos hpL] at this
            · have nq8 : H8 q = none := nq
              have m9 : Mv [] H8 (upd H9 q (.dK (mergeK [] [(.inl p, .int (secI sts.length L p))]))) := kq.wr nq8
              have e9 : upd H9 q (.dK (mergeK [] [(.inl p, .int (secI sts.length L p))])) q = some (.dK (mergeK [] [(.inl p, .int (secI sts.length L p))])) := upd_same
              generalize upd H9 q (.dK (mergeK [] [(.inl p, .int (secI sts.length L p))])) = H10 at m9 e9 ⊢
              refine ⟨v, st, q, secP sts.length L p, rfl, him.mv (kt.trans m9), ⟨_, e9, fun j => ?_⟩, hR.ways st hmem, fun v' H11 m11 i11 => ?_⟩
              · show (valV (putK ([] : List (L2.Key × V)) (Sum.inl p) (V.int (secI sts.length L p))) (Sum.inl j)).getD (.int j) = _
                rw [valV_put]
                unfold secP
                by_cases hj : j = p
                · rw [if_pos (by rw [hj]), if_pos hj, hj]
                  rfl
                · rw [if_neg (fun z => hj (Sum.inl.inj z)), if_neg hj]
                  rfl
              · refine fin v' H11 (m9.trans m11) ?_ ((kt.trans (m9.trans m11)).same _ _ w1)
                unfold unrA
                rw [if_pos hi]
                exact i11
          · rw [decide_eq_false hi]
            refine ⟨v, rfl, ?_⟩
            refine fin v H8 .refl ?_ (kt.same _ _ w1)
            unfold unrA
            rw [if_neg hi]
            exact him.mv kt
        · obtain ⟨y4, y8, zs, rfl, w1, w2, w3, w4, w5⟩ := h7
          rw [hxS, List.take_of_length_le (by rw [List.length_zipIdx]; omega)] at w2
          have m07 := m04.trans w5
          have epl7 := (f4.trans (g4.trans w5)).same _ _ e1
          have edi7 := w5.same _ _ g1
          refine ⟨.ref pf, rfl, .inl ⟨rfl, _, .inl (.inl w1)⟩, .ref pl, rfl, pl, rfl, ?_⟩
          refine lc_fm (K := K) (as := L) (enc := PyData.int) (fun i => some ((ledS (secQ sts.length L p) (sts.getD i.toNat (.fin "" []))).d)) (.inl (.inl (.inl epl7))) (ims_int82 L) (by omega) (fun z o H8 Q' R' hm him m8 k1' _ => ?_) (fun D ys' H8 nD eD iD m8 => ?_)
          · cases him.intI
            obtain ⟨o0, o1⟩ := hLin o hm
            have hlt : o.toNat < sts.length := by omega
            have hst : sts[o.toNat]? = some sts[o.toNat] := List.getElem?_eq_getElem hlt
            have m08 := m07.trans m8
            refine ⟨rfl, .ref x, rfl, x, dx, _, rfl, Slt.mv hs m08, .int o, rfl, x, wx, rs, many, given, sts, o, _, rfl, hC.mv m08, o0, hst, fun v' H9 m9 i9 => ?_⟩
            refine ⟨.ref di, rfl, v', _, di, secQ sts.length L p, rfl, i9, ⟨kvi, (m8.trans m9).same _ _ edi7, fun j => ?_⟩, hR.ways _ (List.getElem_mem hlt), fun v'' H10 m10 i10 => ?_⟩
            · rw [g3 j]
              unfold secQ
              by_cases hj : j ∈ L ∧ j ≠ p
              · rw [if_pos hj, if_pos hj]
                rfl
              · rw [if_neg hj, if_neg hj]
                rfl
            · refine k1' _ rfl v'' H10 (m9.trans m10) ?_
              rw [List.getD_eq_getElem?_getD, hst]
              exact i10
          · have eD' : (L.filterMap fun i => some ((ledS (secQ sts.length L p) (sts.getD i.toNat (.fin "" []))).d)) = L.map fun i => (ledS (secQ sts.length L p) (sts.getD i.toNat (.fin "" []))).d := by
              rw [List.filterMap_eq_map']
            rw [eD'] at iD
            have w18 := m8.same _ _ w1
            have hzl : zs.length ≤ 100 := by
              rw [w2.length, List.length_map, List.length_zipIdx]
              omega
            have hyl : ys'.length ≤ 100 := by
              rw [iD.length, List.length_map]
              omega
            refine Or.inl ⟨pf, D, zs, ys', rfl, rfl, w18, eD, Nat.le_trans (show _ ≤ 200 by omega) (by decide), ?_⟩
            have mset := Mv.set (S := [pf]) (o := .lst (zs ++ ys')) w18 (by simp)
            have hnew : Ims K (upd H8 pf (.lst (zs ++ ys'))) (zs ++ ys') ((unrS sts p L).map Sta.d) := by
              have := ((w2.mv m8).append iD).mv mset
              unfold unrS
              rw [List.map_append, List.map_map, List.map_map]
              exact this
            have m4w : Mv [] H4 (upd H8 pf (.lst (zs ++ ys'))) := (w5.trans m8).wr npf
            have ew : upd H8 pf (.lst (zs ++ ys')) pf = some (.lst (zs ++ ys')) := upd_same
            generalize upd H8 pf (.lst (zs ++ ys')) = H9 at hnew m4w ew ⊢
            have m09 := m04.trans m4w
            refine ⟨.ref x, rfl, x, wx, rs, many, given, sts, rfl, hC.mv m09, hK.m0, by have := hK.m1; omega, fun rc H10 m10 hRc => ?_⟩
            have m010 := m09.trans m10
            have epl10 := (f4.trans (g4.trans (m4w.trans m10))).same _ _ e1
            have ef10 := m10.same _ _ ew
            have hn10 := hnew.mv m10
            have eds10 := (g4.trans (m4w.trans m10)).same _ _ f1
            refine ⟨.ref x, rfl, x, dx, _, rfl, Slt.mv hs m010, x, wx, rs, many, given, sts, rfl, hC.mv m010, sts.length, rfl, by omega, sts.length, rfl, by omega, by omega, fun t1 nt1 => ?_⟩
            refine lc_range (lo := 0) (n := ((sts.length : Nat) : Int).toNat) (fun i H11 => ∃ ys : List V, H11 t1 = some (.lst ys) ∧ PlAt H11 ys ((List.range i).map fun i : Nat => ((i : Int), (i : Int))) ∧ Mv [] H10 H11)
              ⟨[], upd_same, PlAt.nil, .new nt1⟩ (fun i H11 hi h11 => ?_) (fun H11 h11 => ?_)
            · obtain ⟨ys, u1, u2, u3⟩ := h11
              refine ⟨rfl, .int (0 + (i : Int)), rfl, .int (0 + (i : Int)), rfl, (by decide : 2 ≤ sizeLine), fun pt npt => ?_⟩
              have kt := Mv.new (S := []) (o := .tup [.int (0 + (i : Int)), .int (0 + (i : Int))]) npt
              have hyl : ys.length ≤ 100 := by
                rw [u2.1, List.length_map, List.length_range]
                omega
              have hta : TupAt (upd H11 pt (.tup [.int (0 + (i : Int)), .int (0 + (i : Int))])) (.ref pt) ((i : Int), (i : Int)) := ⟨pt, rfl, by rw [upd_same, Int.zero_add]⟩
              have u1' := kt.same _ _ u1
              generalize upd H11 pt (.tup [.int (0 + (i : Int)), .int (0 + (i : Int))]) = H12 at kt hta u1' ⊢
              refine ⟨ys, u1', line5lt (by omega), ys ++ [.ref pt], upd_same, ?_, (u3.trans kt).wr nt1⟩
              rw [List.range_succ, List.map_append]
              exact ((u2.mv kt).snoc hta).put u1'
            · obtain ⟨ys, u1, u2, u3⟩ := h11
              rw [Int.toNat_natCast] at u2
              refine ⟨.ref pl, rfl, pl, rfl, ?_⟩
              have epl11 := u3.same _ _ epl10
              refine lc_seq (xs := L.map V.int) (.inl (.inl (.inl epl11))) (fun i D H12 => ∃ zs : List V, H12 D = some (.lst zs) ∧ PlAt H12 zs ((L.take i).map fun j => (j, secI sts.length L j)) ∧ Mv [] H11 H12)
                (fun D nD => ⟨[], upd_same, PlAt.nil, .new nD⟩) (fun i D H12 nD h12 => let ⟨_, _, _, m⟩ := h12; m) (fun D nD i v H12 hv h12 => ?_) (fun D H12 nD h12 => ?_)
              · obtain ⟨zs2, v1, v2, v3⟩ := h12
                rw [List.getElem?_map] at hv
                obtain ⟨j, hj, rfl⟩ := Option.map_eq_some_iff.mp hv
                have hil := (List.getElem?_eq_some_iff.mp hj).1
                have hjL : j ∈ L := List.mem_of_getElem? hj
                refine ⟨rfl, .int j, rfl, .ref ds, rfl, .int j, rfl, ds, .int (secI sts.length L j), rfl, ?_, (by decide : 2 ≤ sizeLine), fun pt npt => ?_⟩
                · have := DGet.k (k := Sum.inl j) ((u3.trans v3).same _ _ eds10)
                  rwa [f3 j, if_pos hjL] at this
                · have kt := Mv.new (S := []) (o := .tup [.int j, .int (secI sts.length L j)]) npt
                  have hzl2 : zs2.length ≤ 100 := by
                    rw [v2.1, List.length_map, List.length_take]
                    omega
                  have hta : TupAt (upd H12 pt (.tup [.int j, .int (secI sts.length L j)])) (.ref pt) (j, secI sts.length L j) := ⟨pt, rfl, upd_same⟩
                  have v1' := kt.same _ _ v1
                  generalize upd H12 pt (.tup [.int j, .int (secI sts.length L j)]) = H13 at kt hta v1' ⊢
                  refine ⟨zs2, v1', line5lt (by omega), zs2 ++ [.ref pt], upd_same, ?_, (v3.trans kt).wr nD⟩
                  rw [List.take_add_one, hj, List.map_append]
                  exact ((v2.mv kt).snoc hta).put v1'
              · obtain ⟨zs2, v1, v2, v3⟩ := h12
                rw [List.length_map, List.take_length] at v2
                have u1' := v3.same _ _ u1
                refine rd_catL u1' v1 (Nat.le_trans (show ys.length + zs2.length ≤ 200 by rw [u2.1, v2.1, List.length_map, List.length_map, List.length_range]; omega) (by decide)) fun pc H13 npc m13 ec => ?_
                have hall : PlAt H13 (ys ++ zs2) (prsU sts.length L) := ((u2.mv v3).app v2).mv m13
                walk_at "nc"
                refine rd_sortP (K := K) ec hall fun y1 q1 pa npa hq1 hperm hpw => ?_
                have hP1 : PrsOf sts.length L q1 := ⟨hperm, hpw⟩
                have ka := Mv.new (S := []) (o := .lst y1) npa
                have ea : upd H13 pa (.lst y1) pa = some (.lst y1) := upd_same
                generalize upd H13 pa (.lst y1) = H14 at ka ea ⊢
                have hq1 := hq1.mv ka
                have hq1l : q1.length ≤ 200 := by
                  rw [hperm.length_eq]
                  unfold prsU
                  rw [List.length_append, List.length_map, List.length_map, List.length_range]
                  omega
                have m10a : Mv [] H10 H14 := u3.trans (v3.trans (m13.trans ka))
                refine ⟨.ref pa, rfl, pa, rfl, ?_⟩
                refine lc_seq (xs := y1) (.inl (.inl (.inl ea))) (fun i D H15 => ∃ zs : List V, H15 D = some (.lst zs) ∧ PlAt H15 zs ((q1.take i).map fun e => (e.2, e.1)) ∧ Mv [] H14 H15)
                  (fun D nD => ⟨[], upd_same, PlAt.nil, .new nD⟩) (fun i D H15 nD h15 => let ⟨_, _, _, m⟩ := h15; m) (fun D nD i v H15 hv h15 => ?_) (fun D H15 nD h15 => ?_)
                · obtain ⟨zs3, v1, v2, v3'⟩ := h15
                  have hil := (List.getElem?_eq_some_iff.mp hv).1
                  have hil' : i < q1.length := by rw [← hq1.1]; exact hil
                  have hqi : q1[i]? = some q1[i] := List.getElem?_eq_getElem hil'
                  obtain ⟨t, rfl, ht⟩ := (hq1.2 i v _ hv hqi).mv v3'
                  generalize q1[i] = e at hqi ht
                  refine ⟨t, _, rfl, .inl (.inl ht), rfl, _, _, rfl, _, _, rfl, rfl, rfl, ?_⟩
                  refine ⟨.int e.2, rfl, .int e.1, rfl, (by decide : 2 ≤ sizeLine), fun pt npt => ?_⟩
                  have kt := Mv.new (S := []) (o := .tup [.int e.2, .int e.1]) npt
                  have hzl3 : zs3.length ≤ 200 := by
                    rw [v2.1, List.length_map, List.length_take]
                    omega
                  have hta : TupAt (upd H15 pt (.tup [.int e.2, .int e.1])) (.ref pt) (e.2, e.1) := ⟨pt, rfl, upd_same⟩
                  have v1' := kt.same _ _ v1
                  generalize upd H15 pt (.tup [.int e.2, .int e.1]) = H16 at kt hta v1' ⊢
                  refine ⟨zs3, v1', line5lt (by omega), zs3 ++ [.ref pt], upd_same, ?_, (v3'.trans kt).wr nD⟩
                  rw [List.take_add_one, hqi, List.map_append]
                  exact ((v2.mv kt).snoc hta).put v1'
                · obtain ⟨zs3, v1, v2, v3'⟩ := h15
                  rw [hq1.1, List.take_length] at v2
                  walk_at "nc"
                  refine rd_sortP (K := K) v1 v2 fun y2 q2 pb npb hq2 hperm2 hpw2 => ?_
                  have hP2 : BckOf sts.length L q2 := ⟨hperm2.trans (hperm.map _), hpw2⟩
                  have kb := Mv.new (S := []) (o := .lst y2) npb
                  have eb : upd H15 pb (.lst y2) pb = some (.lst y2) := upd_same
                  generalize upd H15 pb (.lst y2) = H16 at kb eb ⊢
                  have hq2 := hq2.mv kb
                  have hq2l : q2.length ≤ 200 := by
                    rw [hperm2.length_eq, List.length_map]
                    exact hq1l
                  have m1016 : Mv [] H10 H16 := m10a.trans (v3'.trans kb)
                  have m016 := m010.trans m1016
                  refine ⟨.ref x, rfl, .ref pf, rfl, ?_⟩
                  refine ⟨x, wx, pf, rs, many, given, sts, unrS sts p L, zs ++ ys', rfl, hC.mv m016, hK, .inl (m1016.same _ _ ef10), hn10.mv m1016, unr_ok hok hLin hpL, by rw [unr_len]; omega, by rw [unr_len]; omega, fun z H17 m17 hCz => ?_⟩
                  rw [unr_ord hK.w hok hord hLin] at hCz
                  have ea17 := (v3'.trans (kb.trans m17)).same _ _ ea
                  have eb17 := m17.same _ _ eb
                  refine ⟨.ref pa, rfl, pa, rfl, ?_⟩
                  refine lc_seq (xs := y1) (.inl (.inl (.inl ea17))) (fun i D H18 => ∃ zs : List V, H18 D = some (.lst zs) ∧ MvsAt K H18 (q1.take i) rc zs ∧ Mv [] H17 H18)
                    (fun D nD => ⟨[], upd_same, ⟨rfl, fun i x e h => by simp at h⟩, .new nD⟩) (fun i D H18 nD h18 => let ⟨_, _, _, m⟩ := h18; m) (fun D nD i v H18 hv h18 => ?_) (fun Da H18a nDa h18a => ?_)
                  · obtain ⟨zs4, v1, v2, v3q⟩ := h18
                    have hil := (List.getElem?_eq_some_iff.mp hv).1
                    have hil' : i < q1.length := by rw [← hq1.1]; exact hil
                    have hqi : q1[i]? = some q1[i] := List.getElem?_eq_getElem hil'
                    obtain ⟨t, rfl, ht⟩ := (hq1.2 i v _ hv hqi).mv ((v3'.trans (kb.trans m17)).trans v3q)
                    generalize q1[i] = e at hqi ht
                    refine ⟨rfl, .ref t, rfl, .ref rc, rfl, (by decide : 1 ≤ sizeLine), fun pt npt => ?_⟩
                    have kt := Mv.new (S := []) (o := .tup [.ref rc]) npt
                    have et : SqT K (upd H18 pt (.tup [.ref rc])) pt [.ref rc] := .inl (.inl upd_same)
                    have v1' := kt.same _ _ v1
                    generalize upd H18 pt (.tup [.ref rc]) = H19 at kt et v1' ⊢
                    refine rd_cat (.inl (.inl (kt.same _ _ ht))) et (show 2 + 1 ≤ sizeLine by decide) fun pm H20 m20 em => ?_
                    have hzl4 : zs4.length ≤ 200 := by
                      rw [v2.1, List.length_take]
                      omega
                    have v1'' := m20.same _ _ v1'
                    refine ⟨zs4, v1'', line5lt (by omega), zs4 ++ [.ref pm], upd_same, ?_, (v3q.trans (kt.trans m20)).wr nD⟩
                    rw [List.take_add_one, hqi]
                    exact ((v2.mv (kt.trans m20)).snoc ⟨pm, rfl, em⟩).mv (Mv.set (S := [D]) v1'' (by simp))
                  · obtain ⟨zs5, b1, b2, b3⟩ := h18a
                    rw [hq1.1, List.take_length] at b2
                    have eb18 := b3.same _ _ eb17
                    refine ⟨.ref pb, rfl, pb, rfl, ?_⟩
                    refine lc_seq (xs := y2) (.inl (.inl (.inl eb18))) (fun i D H18 => ∃ zs : List V, H18 D = some (.lst zs) ∧ MvsAt K H18 (q2.take i) rc zs ∧ Mv [] H18a H18)
                      (fun D nD => ⟨[], upd_same, ⟨rfl, fun i x e h => by simp at h⟩, .new nD⟩) (fun i D H18 nD h18 => let ⟨_, _, _, m⟩ := h18; m) (fun D nD i v H18 hv h18 => ?_) (fun Db H18b nDb h18b => ?_)
                    · obtain ⟨zs4, v1, v2, v3q⟩ := h18
                      have hil := (List.getElem?_eq_some_iff.mp hv).1
                      have hil' : i < q2.length := by rw [← hq2.1]; exact hil
                      have hqi : q2[i]? = some q2[i] := List.getElem?_eq_getElem hil'
                      obtain ⟨t, rfl, ht⟩ := (hq2.2 i v _ hv hqi).mv ((m17.trans b3).trans v3q)
                      generalize q2[i] = e at hqi ht
                      refine ⟨rfl, .ref t, rfl, .ref rc, rfl, (by decide : 1 ≤ sizeLine), fun pt npt => ?_⟩
                      have kt := Mv.new (S := []) (o := .tup [.ref rc]) npt
                      have et : SqT K (upd H18 pt (.tup [.ref rc])) pt [.ref rc] := .inl (.inl upd_same)
                      have v1' := kt.same _ _ v1
                      generalize upd H18 pt (.tup [.ref rc]) = H19 at kt et v1' ⊢
                      refine rd_cat (.inl (.inl (kt.same _ _ ht))) et (show 2 + 1 ≤ sizeLine by decide) fun pm H20 m20 em => ?_
                      have hzl4 : zs4.length ≤ 200 := by
                        rw [v2.1, List.length_take]
                        omega
                      have v1'' := m20.same _ _ v1'
                      refine ⟨zs4, v1'', line5lt (by omega), zs4 ++ [.ref pm], upd_same, ?_, (v3q.trans (kt.trans m20)).wr nD⟩
                      rw [List.take_add_one, hqi]
                      exact ((v2.mv (kt.trans m20)).snoc ⟨pm, rfl, em⟩).mv (Mv.set (S := [D]) v1'' (by simp))
                    · obtain ⟨zs6, c1, c2, c3⟩ := h18b
                      rw [hq2.1, List.take_length] at c2
                      refine ⟨(by decide : 3 ≤ sizeLine), fun pr npr => ?_⟩
                      have kr := Mv.new (S := []) (o := .tup [.ref z, .ref Da, .ref Db]) npr
                      have er : SqT K (upd H18b pr (.tup [.ref z, .ref Da, .ref Db])) pr [.ref z, .ref Da, .ref Db] := .inl (.inl upd_same)
                      generalize upd H18b pr (.tup [.ref z, .ref Da, .ref Db]) = H21 at kr er ⊢
                      have b1' := c3.same _ _ b1
                      have mz := b3.trans (c3.trans kr)
                      refine q pr z rc Da Db zs5 zs6 q1 q2 H21 (m016.trans (m17.trans mz)) ((m016.trans m17).free nDa) (((m016.trans m17).trans b3).free nDb) (ne_of_none b1 nDb) er (hCz.mv mz) (hRc.mv (m1016.trans (m17.trans mz))) (kr.same _ _ b1') (kr.same _ _ c1) (b2.mv (c3.trans kr)) (c2.mv kr) hP1 hP2
end
end Fm
namespace Fm
open PySem PySem.Spec PyProof.Rows L2 SlX
local macro_rules | `(tactic| walk_at "nn") => `(tactic| dsimp only [tC, tNil, tCons, tCB, tCall, gName, tSeq, tAsg, tPar, tDrop, tRet])
local macro_rules | `(tactic| walk_at "nc") => `(tactic| dsimp only [tC, tNil, tCons, tCB, tCall])
section
variable {P : Program} {w : World} {K : PySem.W.Frag} {mg : Str → Option Value} {base : Heap}
theorem ok__law_ways82 (T : TX K mg) {k : Nat} : FnOk P w K mg base CX0 (k + 1) T.d__law_ways.f T.d__law_ways.fd P__law_ways (sp_waysS K) := by
  refine T.d__law_ways.F.ok sc__law_ways (fun vs H Q E h => ?_) (fun cdv A outer s H vs Q E hr h => ?_)
  · obtain ⟨_, _, rfl, _⟩ := h
    rfl
  · obtain ⟨v, st, rfl, hv, hl, q⟩ := h
    have hu64 := hr.units
    refine ⟨_, (pss_cons (ps_if (pt_cmpR (r := rEqG K) (op_eqG hu64) (pe_ix (r := rIx K) ix_seq (pv 0) pe_int (fun _ _ => rfl)) pe_str (nomark _)) (pss_one (ps_ret (pe_lst (pa_cons (pe_ix (r := rIx K) ix_seq (pv 0) pe_int (fun _ _ => rfl)) pa_nil)))) pss_nil) (pss_one (ps_ret (pe_ifExp (pt_cmpR (r := rEqG K) (op_eqG hu64) (pe_ix (r := rIx K) ix_seq (pv 0) pe_int (fun _ _ => rfl)) pe_str (nomark _)) (pe_lc (own := [("_law_way", 1)]) (g := gName 1) (by rfl) sc__law_ways.nd (pi_seq (pe_ix (r := rIx K) ix_seq (pv 0) pe_int (fun _ _ => rfl))) (blkOk_by (own := [("_law_way", 1)]) (N := N__law_ways) (sc := defScope s__law_ways) (by decide +kernel)) (fun _ _ _ _ _ => pg_name (i := 1) sc__law_ways.nd rfl (Or.inl rfl)) (fun _ _ _ _ _ => pts_nil) (fun _ _ _ _ _ => (pe_ix (r := rIx K) ix_seq (pv 1) pe_int (fun _ _ => rfl)))) (pe_lst pa_nil))))), ?_⟩
    cases st with
    | set chs g =>
      obtain ⟨a, x0, x1, x2, rfl, ha, j0, j1, j2⟩ := hv.tup3
      cases j0.strI
      cases j2.intI
      refine ⟨.ref a, rfl, rd_ixT ha (by decide) (v := .str "set") rfl (Or.inl ⟨rfl, _, rfl, ?_⟩)⟩
      rw [eq_str82]
      refine ⟨.ref a, rfl, rd_ixT ha (by decide) (v := .int g) rfl ⟨(by decide : 1 ≤ sizeLine), fun p np => ?_⟩⟩
      exact q p _ np (.new np) upd_same
    | fin word ts =>
      obtain ⟨a, x0, x1, x2, rfl, ha, j0, j1, j2⟩ := hv.tup3
      cases j0.strI
      refine ⟨.ref a, rfl, rd_ixT ha (by decide) (v := .str "end") rfl (Or.inl ⟨rfl, _, rfl, ?_⟩)⟩
      rw [ne_str (by decide +kernel)]
      refine ⟨.ref a, rfl, rd_ixT ha (by decide) (v := .str "end") rfl (Or.inl ⟨rfl, _, rfl, ?_⟩)⟩
      rw [ne_str (by decide +kernel)]
      exact ⟨Nat.zero_le _, fun p np => q p _ np (.new np) upd_same⟩
    | ask act ts ws =>
      obtain ⟨a, x0, x1, x2, x3, rfl, ha, j0, j1, j2, j3⟩ := hv.tup4
      cases j0.strI
      refine ⟨.ref a, rfl, rd_ixT ha (by decide) (v := .str "ask") rfl (Or.inl ⟨rfl, _, rfl, ?_⟩)⟩
      rw [ne_str (by decide +kernel)]
      refine ⟨.ref a, rfl, rd_ixT ha (by decide) (v := .str "ask") rfl (Or.inl ⟨rfl, _, rfl, ?_⟩)⟩
      rw [eq_str82]
      obtain ⟨aw, wv, rfl, haw, hwv⟩ := j3.tupI
      refine ⟨.ref a, rfl, rd_ixT ha (by decide) (v := .ref aw) rfl ⟨aw, rfl, ?_⟩⟩
      have hl : ws.length ≤ 1000 := by simpa [gosS] using hl
      refine lc_fm (K := K) (as := ws) (enc := wayD) (fun w => some (.int w.2.2)) (.inr haw) hwv (by omega) (fun z w' H5 Q' R' hm him m5 k1 _ => ?_) (fun D zs5 H5 nD e5 i5 m5 => ?_)
      · obtain ⟨az, y0, y1, y2, rfl, haz, k0, k2, k3⟩ := him.tup3
        cases k3.intI
        refine ⟨rfl, .ref az, rfl, rd_ixT haz (by decide) (v := .int w'.2.2) rfl ?_⟩
        exact k1 _ rfl _ _ .refl (.int _)
      · have e : ws.filterMap (fun w => some (PyData.int w.2.2)) = (ws.map (·.2.2)).map PyData.int := by
          rw [List.filterMap_eq_map']
          simp
        rw [e] at i5
        rw [ims_ints82 i5] at e5
        exact q D _ nD m5 e5
theorem ok__law_led_on82 (T : TX K mg) {k : Nat} : FnOk P w K mg base CX0 (k + 1) T.d__law_led_on.f T.d__law_led_on.fd P__law_led_on (sp_led K) := by
  refine T.d__law_led_on.F.ok sc__law_led_on (fun vs H Q E h => ?_) (fun cdv A outer s H vs Q E hr h => ?_)
  · obtain ⟨_, _, _, _, rfl, _⟩ := h
    rfl
  · obtain ⟨v, st, g, f, rfl, hv, hG, hl, q⟩ := h
    have hu1 := hu1_of hr
    have hu64 := hr.units
    have hu65 := hu65_of hr
    obtain ⟨kvs, hg, hf⟩ := id hG
    refine ⟨_, (pss_cons (ps_if (pt_cmpR (r := rEqG K) (op_eqG hu64) (pe_ix (r := rIx K) ix_seq (pv 0) pe_int (fun _ _ => rfl)) pe_str (nomark _)) (pss_one (ps_ret (pe_tup (pa_cons pe_str (pa_cons (pe_ix (r := rIx K) ix_seq (pv 0) pe_int (fun _ _ => rfl)) (pa_cons (pe_dget2 hu1 (pv 1) (pe_ix (r := rIx K) ix_seq (pv 0) pe_int (fun _ _ => rfl)) (pe_ix (r := rIx K) ix_seq (pv 0) pe_int (fun _ _ => rfl)) ⟨rfl, rfl, rfl, rfl⟩) pa_nil)))))) pss_nil) (pss_cons (ps_set (i := 2) sc__law_led_on.nd rfl (Or.inl rfl) (pe_lst pa_nil)) (pss_cons (ps_for PassesOwn.never rfl (pi_seq (pe_ifExp (pt_cmpR (r := rEqG K) (op_eqG hu64) (pe_ix (r := rIx K) ix_seq (pv 0) pe_int (fun _ _ => rfl)) pe_str (nomark _)) (pe_ix (r := rIx K) ix_seq (pv 0) pe_int (fun _ _ => rfl)) (pe_tup pa_nil))) (pg_tup rfl (pgs_cons (pg_name (i := 3) sc__law_led_on.nd rfl (Or.inl rfl)) (pgs_cons (pg_name (i := 4) sc__law_led_on.nd rfl (Or.inl rfl)) (pgs_cons (pg_name (i := 5) sc__law_led_on.nd rfl (Or.inl rfl)) pgs_nil)))) (pss_one (ps_expr (pe_bm PySem.F.plainAttrs_list PySem.F.slot_list_append PySem.F.type_list_append mt_append (pv 2) (pa_cons (pe_tup (pa_cons (pv 3) (pa_cons (pv 4) (pa_cons (pe_dget2 hu1 (pv 1) (pv 5) (pv 5) ⟨rfl, rfl, rfl, rfl⟩) pa_nil)))) pa_nil))))) (pss_one (ps_ret (pe_ifExp (pt_cmpR (r := rEqG K) (op_eqG hu64) (pe_ix (r := rIx K) ix_seq (pv 0) pe_int (fun _ _ => rfl)) pe_str (nomark _)) (pe_op (r := rAddG K) op_addG (pe_slice (r := rSlG K) sl_G (pv 0) po_none (po_some pe_int)) (pe_tup (pa_cons (pe_callTy (r := rTupOf K) call_tupG (by rfl) T.b_tuple bt_tuple (pa_cons (pv 2) pa_nil)) pa_nil))) (pv 0))))))), ?_⟩
    cases st with
    | set chs gl =>
      obtain ⟨a, x0, x1, x2, rfl, ha, j0, j1, j2⟩ := hv.tup3
      cases j0.strI
      cases j2.intI
      refine ⟨.ref a, rfl, rd_ixT ha (by decide) (v := .str "set") rfl (Or.inl ⟨rfl, _, rfl, ?_⟩)⟩
      rw [eq_str82]
      refine ⟨.ref a, rfl, rd_ixT ha (by decide) (v := x1) rfl ⟨.ref g, rfl, g, rfl, .inl ⟨kvs, .inl hg⟩, .ref a, rfl, rd_ixT ha (by decide) (v := .int gl) rfl ⟨.ref a, rfl, rd_ixT ha (by decide) (v := .int gl) rfl ⟨_, DGet.k (k := Sum.inl gl) hg, ?_⟩⟩⟩⟩
      rw [hf gl]
      refine ⟨(by decide : 3 ≤ sizeLine), fun p1 n1 => ?_⟩
      have k1 := Mv.new (S := []) (o := (.tup [.str "set", x1, .int (f gl)])) n1
      have e1 : SqT K (upd H p1 (.tup [.str "set", x1, .int (f gl)])) p1 [.str "set", x1, .int (f gl)] := .inl (.inl upd_same)
      generalize upd H p1 (.tup [.str "set", x1, .int (f gl)]) = H1 at k1 e1 ⊢
      have m1 := k1
      exact q _ _ k1 (.tup e1 (.cons (.str _) (.cons (j1.mv k1) (.cons (.int _) .nil))))
    | fin word ts =>
      obtain ⟨a, x0, x1, x2, rfl, ha, j0, j1, j2⟩ := hv.tup3
      cases j0.strI
      refine ⟨.ref a, rfl, rd_ixT ha (by decide) (v := .str "end") rfl (Or.inl ⟨rfl, _, rfl, ?_⟩)⟩
      rw [ne_str (by decide +kernel)]
      refine ⟨Nat.zero_le _, fun p0 n0 => ?_⟩
      have k0 := Mv.new (S := []) (o := (.lst ([] : List V))) n0
      have e0 : upd H p0 (.lst ([] : List V)) p0 = some (.lst ([] : List V)) := upd_same
      generalize upd H p0 (.lst ([] : List V)) = H0 at k0 e0 ⊢
      have m0 := k0
      have ha0 := k0.sqT ha
      refine ⟨.ref a, rfl, rd_ixT ha0 (by decide) (v := .str "end") rfl (Or.inl ⟨rfl, _, rfl, ?_⟩)⟩
      rw [ne_str (by decide +kernel)]
      refine ⟨Nat.zero_le _, fun p1 n1 => ⟨p1, rfl, ?_⟩⟩
      have k1 := Mv.new (S := []) (o := (.tup ([] : List V))) n1
      have e1 : SqT K (upd H0 p1 (.tup ([] : List V))) p1 ([] : List V) := .inl (.inl upd_same)
      generalize upd H0 p1 (.tup ([] : List V)) = H1 at k1 e1 ⊢
      have m1 := k0.trans k1
      refine .inr ⟨⟨_, e1⟩, for_tup (K := K) (a := p1) (xs := []) (fun i σ H2 => σ = [some (.ref a), some (.ref g), some (.ref p0), none, none, none] ∧ H2 = H1) ⟨rfl, rfl⟩ (fun i σ H2 _ h2 => by rw [h2.2]; exact e1) (fun i x σ H2 hx _ => by simp at hx) (fun σ H2 h2 => ?_)⟩
      obtain ⟨rfl, rfl⟩ := h2
      have ha1 := m1.sqT ha
      refine ⟨.ref a, rfl, rd_ixT ha1 (by decide) (v := .str "end") rfl (Or.inl ⟨rfl, _, rfl, ?_⟩)⟩
      rw [ne_str (by decide +kernel)]
      exact ⟨.ref a, rfl, q _ _ m1 (hv.mv m1)⟩
    | ask act ts ws =>
      obtain ⟨a, x0, x1, x2, x3, rfl, ha, j0, j1, j2, j3⟩ := hv.tup4
      cases j0.strI
      obtain ⟨aw, wv, rfl, haw, hwv⟩ := j3.tupI
      have hl : ws.length ≤ 1000 := by simpa [gosS] using hl
      have hwl : wv.length = ws.length := by rw [hwv.length, List.length_map]
      refine ⟨.ref a, rfl, rd_ixT ha (by decide) (v := .str "ask") rfl (Or.inl ⟨rfl, _, rfl, ?_⟩)⟩
      rw [ne_str (by decide +kernel)]
      refine ⟨Nat.zero_le _, fun p0 n0 => ?_⟩
      have k0 := Mv.new (S := []) (o := (.lst ([] : List V))) n0
      have e0 : upd H p0 (.lst ([] : List V)) p0 = some (.lst ([] : List V)) := upd_same
      generalize upd H p0 (.lst ([] : List V)) = H0 at k0 e0 ⊢
      have m0 := k0
      have ha0 := k0.sqT ha
      refine ⟨.ref a, rfl, rd_ixT ha0 (by decide) (v := .str "ask") rfl (Or.inl ⟨rfl, _, rfl, ?_⟩)⟩
      rw [eq_str82]
      refine ⟨.ref a, rfl, rd_ixT ha0 (by decide) (v := .ref aw) rfl ⟨aw, rfl, ?_⟩⟩
      refine .inr ⟨⟨_, k0.sqT haw⟩, for_tup (K := K) (a := aw) (xs := wv) (fun i σ H2 => ∃ (y3 y4 y5 : Option V) (zs : List V), σ = [some (.ref a), some (.ref g), some (.ref p0), y3, y4, y5] ∧ H2 p0 = some (.lst zs) ∧ Ims K H2 zs ((ws.take i).map fun w => wayD (w.1, w.2.1, f w.2.2)) ∧ Mv [] H H2) ⟨_, _, _, [], rfl, e0, Ims.nil, k0⟩ (fun i σ H2 _ h2 => let ⟨_, _, _, _, _, _, _, m⟩ := h2; m.sqT haw) (fun i v σ H2 hx h2 => ?_) (fun σ H2 h2 => ?_)⟩
      · obtain ⟨y3, y4, y5, zs, rfl, u1, u2, u3⟩ := h2
        obtain ⟨d, hd, him⟩ := hwv.get hx
        rw [List.getElem?_map] at hd
        obtain ⟨w', hw', rfl⟩ := Option.map_eq_some_iff.mp hd
        have hil := (List.getElem?_eq_some_iff.mp hw').1
        obtain ⟨az, b0, b1, b2, rfl, haz, c0, c1, c2⟩ := (him.mv u3).tup3
        cases c2.intI
        refine ⟨az, _, rfl, haz, rfl, _, _, rfl, _, _, rfl, _, _, rfl, rfl, ?_⟩
        have hg2 := u3.same _ _ hg
        refine ⟨.ref p0, rfl, .inl ⟨rfl, _, .inl (.inl u1)⟩, b0, rfl, b1, rfl, .ref g, rfl, g, rfl, .inl ⟨kvs, .inl hg2⟩, .int w'.2.2, rfl, .int w'.2.2, rfl, _, DGet.k (k := Sum.inl w'.2.2) hg2, ?_⟩
        rw [hf w'.2.2]
        refine ⟨(by decide : 3 ≤ sizeLine), fun pt npt => ?_⟩
        have kt := Mv.new (S := []) (o := .tup [b0, b1, .int (f w'.2.2)]) npt
        have et : SqT K (upd H2 pt (.tup [b0, b1, .int (f w'.2.2)])) pt [b0, b1, .int (f w'.2.2)] := .inl (.inl upd_same)
        have u1' := kt.same _ _ u1
        generalize upd H2 pt (.tup [b0, b1, .int (f w'.2.2)]) = H3 at kt et u1' ⊢
        have hzl : zs.length ≤ 1000 := by
          rw [u2.length, List.length_map, List.length_take]
          omega
        refine ⟨p0, zs, .ref pt, rfl, rfl, u1', line5lt (by omega), _, _, _, zs ++ [.ref pt], rfl, upd_same, ?_, (u3.trans kt).wr n0⟩
        rw [List.take_add_one, hw', List.map_append]
        exact ((u2.mv kt).append (.cons (.tup et (.cons (c0.mv kt) (.cons (c1.mv kt) (.cons (.int _) .nil)))) .nil)).mv (Mv.set (S := [p0]) u1' (by simp))
      · obtain ⟨y3, y4, y5, zs, rfl, u1, u2, u3⟩ := h2
        rw [hwl, List.take_length] at u2
        have ha2 := u3.sqT ha
        refine ⟨.ref a, rfl, rd_ixT ha2 (by decide) (v := .str "ask") rfl (Or.inl ⟨rfl, _, rfl, ?_⟩)⟩
        rw [eq_str82]
        refine ⟨.ref a, rfl, 3, rfl, rd_slT ha2 fun p6 H6 m6 e6 => ?_⟩
        refine ⟨.ref p0, rfl, ?_⟩
        walk_at "nc"
        refine rd_tupOf (K := K) (.inl (.inl (m6.same _ _ u1))) fun p7 H7 m7 e7 => ⟨(by decide : 1 ≤ sizeLine), fun p8 n8 => ?_⟩
        have k8 := Mv.new (S := []) (o := (.tup [.ref p7])) n8
        have e8 : SqT K (upd H7 p8 (.tup [.ref p7])) p8 [.ref p7] := .inl (.inl upd_same)
        generalize upd H7 p8 (.tup [.ref p7]) = H8 at k8 e8 ⊢
        have m8 := m7.trans k8
        refine rd_cat (m8.sqT e6) e8 (show 3 + 1 ≤ sizeLine by decide) fun p9 H9 m9 e9 => ?_
        have mm := u3.trans (m6.trans (m8.trans m9))
        have e : (ws.map fun w => wayD (w.1, w.2.1, f w.2.2)) = (ws.map fun w => (w.1, w.2.1, f w.2.2)).map wayD := by
          rw [List.map_map]
          rfl
        rw [e] at u2
        refine q _ H9 mm (.tup e9 (.cons (.str _) (.cons (j1.mv mm) (.cons (j2.mv mm) (.cons (.tup ((k8.trans m9).sqT e7) (u2.mv (m6.trans (m8.trans m9)))) .nil)))))
end
end Fm
namespace Fm
open PySem PySem.Spec PyProof.Rows L2 SlX
local macro_rules | `(tactic| walk_at "nn") => `(tactic| dsimp only [tC, tNil, tCons, tCB, tCall, gName, tSeq, tAsg, tPar, tDrop, tRet])
local macro_rules | `(tactic| walk_at "nc") => `(tactic| dsimp only [tC, tNil, tCons, tCB, tCall])
structure DrawnActs (many : Int) (rs : List ActR) : Prop where
  ok : ∀ r ∈ rs, r.ok
  le : ∀ r ∈ rs, ∀ e ∈ r.outs, e.2 ≤ many
  few : rs.length ≤ 4
def ActR.thin (r : ActR) : Prop := r.outs.length ≤ 3 ∧ ∀ e ∈ r.outs, Nm e.1
def sp_acts (K : PySem.W.Frag) : Sp := fun vs H Q _ => ∃ (b : Addr) (many : Int), vs = [.ref b, .int many] ∧ Bag H b ∧ 0 ≤ many ∧ many ≤ 1000000 ∧
  ∀ (d : Addr) (zs : List ActA) H', H d = none → ActsAt K H' d zs → DrawnActs many (zs.map (·.r)) → 1 ≤ zs.length → (∀ z ∈ zs, z.r.thin) → zs.length ≤ 3 → Dr b H H' → Q (.ref d) H'
def sp_acts2 (K : PySem.W.Frag) : Sp := fun vs H Q _ => ∃ (b : Addr) (many : Int), vs = [.ref b, .int many] ∧ Bag H b ∧ 0 ≤ many ∧ many ≤ 1000000 ∧
  ∀ (d : Addr) (zs : List ActA) H', H d = none → ActsAt K H' d zs → DrawnActs many (zs.map (·.r)) → 1 ≤ zs.length → (∀ z ∈ zs, z.r.thin) → zs.length ≤ 3 → (∀ z ∈ zs, H z.o = none ∧ z.o ≠ d) → (∀ e ∈ zs, ∀ f ∈ zs, e.o = f.o → e.r.nm = f.r.nm) → Dr b H H' → Q (.ref d) H'
theorem rd_slL {K : PySem.W.Frag} {H : Hp} {Q : VK} {a : Addr} {xs : List V} {k : Int} (ha : H a = some (.lst xs)) (h0 : 0 ≤ k) (h : ∀ p, H p = none → Q (.ref p) (upd H p (.lst (xs.take k.toNat)))) : rSlG K (.ref a) none (some k) H Q := by
  refine Or.inl ⟨a, xs, rfl, .inl (.inl ha), fun p np => ?_⟩
  rw [cutV_to h0]
  exact h p np
def txt : V → Str
  | .str x => x
  | _ => ""
section
variable {P : Program} {w : World} {K : PySem.W.Frag} {mg : Str → Option Value} {base : Heap}
end
end Fm
namespace Fm
open PySem PySem.Spec PyProof.Rows L2 SlX
local macro_rules | `(tactic| walk_at "nn") => `(tactic| dsimp only [tC, tNil, tCons, tCB, tCall, gName, tSeq, tAsg, tPar, tDrop, tRet])
local macro_rules | `(tactic| walk_at "nc") => `(tactic| dsimp only [tC, tNil, tCons, tCB, tCall])
theorem perm_lift {α β : Type} {f : α → β} : ∀ {xs : List α} {l : List β}, l.Perm (xs.map f) → ∃ ys : List α, ys.Perm xs ∧ l = ys.map f
  | [], l, h => ⟨[], .refl _, by simpa using h.eq_nil⟩
  | x :: xs, l, h => by
    have hm : f x ∈ l := h.mem_iff.mpr (by simp)
    obtain ⟨l1, l2, rfl⟩ := List.append_of_mem hm
    have h2 : (l1 ++ l2).Perm (xs.map f) := by
      have := List.perm_middle.symm.trans h
      exact (List.perm_cons _).mp this
    obtain ⟨ys, hy, e⟩ := perm_lift h2
    obtain ⟨y1, y2, rfl, rfl, rfl⟩ := List.append_eq_map_iff.mp e
    exact ⟨y1 ++ x :: y2, List.perm_middle.trans ((List.perm_cons _).mpr hy), by simp⟩
theorem normW_perm {rs qs : List ActR} (n : (qs.map (·.nm)).Nodup) (h : (rs.map ActR.norm).Perm (qs.map ActR.norm)) : normW rs = normW qs := by
  unfold normW
  refine srt_of_perm totS ?_ h
  rw [List.map_map]
  exact n
theorem norm_outs {r q : ActR} (h1 : r.nm = q.nm) (h2 : r.ar = q.ar) (n : (q.outs.map (·.1)).Nodup) (h : r.outs.Perm q.outs) : r.norm = q.norm := by
  cases r
  cases q
  simp only at h1 h2 h
  subst h1
  subst h2
  unfold ActR.norm
  rw [srt_of_perm totS n h]
def sp_worldOf (K : PySem.W.Frag) (C : Addr) : Sp := fun vs H Q _ => ∃ (b d : Addr) (zs : List ActA), vs = [.ref b, .ref d] ∧ Bag H b ∧ ActsAt K H d zs ∧ (∀ z ∈ zs, z.r.ok) ∧ zs.length ≤ 50 ∧ ∀ x H', WldAt K H' C x (normW (zs.map (·.r))) → Dr b H H' → Q (.ref x) H'
structure RowsAt (K : PySem.W.Frag) (H : Hp) (tw : List (Addr × ActA)) : Prop where
  row : ∀ z ∈ tw, SqT K H z.1 [.str z.2.r.nm, .ref z.2.a]
  tup : ∀ z ∈ tw, SqT K H z.2.a [.int z.2.r.ar, .ref z.2.o]
  out : ∀ z ∈ tw, H z.2.o = some (.dK (z.2.r.outs.map rowK))
  ond : ∀ z ∈ tw, (z.2.r.outs.map (·.1)).Nodup
theorem RowsAt.mv {K : PySem.W.Frag} {H H' : Hp} {tw : List (Addr × ActA)} (h : RowsAt K H tw) (m : Mv [] H H') : RowsAt K H' tw := ⟨fun z hz => m.sqT (h.row z hz), fun z hz => m.sqT (h.tup z hz), fun z hz => m.same _ _ (h.out z hz), h.ond⟩
theorem RowsAt.dr {K : PySem.W.Frag} {H H' : Hp} {b : Addr} {tw : List (Addr × ActA)} (h : RowsAt K H tw) (m : Dr b H H') (hB : Bag H b) : RowsAt K H' tw := ⟨fun z hz => m.mv.sqT (h.row z hz), fun z hz => m.mv.sqT (h.tup z hz), fun z hz => m.getK hB (h.out z hz) (fun _ z => by cases z), h.ond⟩
theorem RowsAt.lst {K : PySem.W.Frag} {H H' : Hp} {l : Addr} {xs : List V} {o : HO} {tw : List (Addr × ActA)} (h : RowsAt K H tw) (hl : H l = some (.lst xs)) : RowsAt K (upd H l o) tw := by
  have m : Mv [l] H (upd H l o) := .set hl (by simp)
  exact ⟨fun z hz => m.sqT (h.row z hz), fun z hz => m.sqT (h.tup z hz), fun z hz => m.keep _ _ (by simp; rintro e; have := h.out z hz; rw [e, hl] at this; cases this) (h.out z hz), h.ond⟩
section
variable {P : Program} {w : World} {K : PySem.W.Frag} {mg : Str → Option Value} {base : Heap}
end
end Fm
namespace Fm
open PySem PySem.Spec PyProof.Rows L2 SlX
local macro_rules | `(tactic| walk_at "nn") => `(tactic| dsimp only [tC, tNil, tCons, tCB, tCall, gName, tSeq, tAsg, tPar, tDrop, tRet])
local macro_rules | `(tactic| walk_at "nc") => `(tactic| dsimp only [tC, tNil, tCons, tCB, tCall])
theorem RowsAt.put {K : PySem.W.Frag} {H : Hp} {d : Addr} {u o : HO} {tw : List (Addr × ActA)} (h : RowsAt K H tw) (hd : H d = some u) (h1 : ∀ xs, u ≠ .tup xs) (h2 : ∀ o xs, u ≠ .frz o (.tup xs)) (hn : ∀ z ∈ tw, z.2.o ≠ d) : RowsAt K (upd H d o) tw := by
  have m : Mv [d] H (upd H d o) := .put hd h1 h2
  exact ⟨fun z hz => m.sqT (h.row z hz), fun z hz => m.sqT (h.tup z hz), fun z hz => m.keep _ _ (by simpa using hn z hz) (h.out z hz), h.ond⟩
structure ActsO (K : PySem.W.Frag) (H : Hp) (d : Addr) (zs : List ActA) : Prop where
  at_ : ActsAt K H d zs
  od : (zs.map (·.o)).Nodup
def reO (zs : List ActA) (o : Addr) (rows : List (Str × Int)) : List ActA := zs.map fun z => if z.o = o then { z with r := { z.r with outs := rows } } else z
theorem ActsO.dr {K : PySem.W.Frag} {H H' : Hp} {b d : Addr} {zs : List ActA} (h : ActsO K H d zs) (m : Dr b H H') (hB : Bag H b) : ActsO K H' d zs := ⟨h.at_.dr m hB, h.od⟩
theorem ActsO.mv {K : PySem.W.Frag} {H H' : Hp} {d : Addr} {zs : List ActA} (h : ActsO K H d zs) (m : Mv [] H H') : ActsO K H' d zs := ⟨h.at_.mv m, h.od⟩
def dash (x : Str) : Str := x ++ "-"
def sp_more (K : PySem.W.Frag) : Sp := fun vs H Q _ => ∃ (b d : Addr) (zs : List ActA), vs = [.ref b, .ref d] ∧ Bag H b ∧ ActsAt K H d zs ∧ (∀ z ∈ zs, z.r.ok ∧ z.r.thin) ∧ zs.length ≤ 50 ∧
  ∀ d' zs' H', ActsO K H' d' zs' → H d' = none → (∀ z ∈ zs', H z.o = none) → (∀ z ∈ zs', z.r.ok) → zs'.length = zs.length → Dr b H H' → Q (.ref d') H'
section
variable {P : Program} {w : World} {K : PySem.W.Frag} {mg : Str → Option Value} {base : Heap}
end
end Fm
namespace Fm
open PySem PySem.Spec PyProof.Rows L2 SlX
abbrev prK (e : Str × Str) : L2.Key × V := (.inr e.1, .str e.2)
def prGet (pr : List (Str × Str)) (a : Str) : Option Str := (pr.find? fun e => decide (e.1 = a)).map (·.2)
structure PrAt (H : Hp) (d : Addr) (pr : List (Str × Str)) : Prop where
  at_ : H d = some (.dK (pr.map prK))
  nd : (pr.map (·.1)).Nodup
theorem PrAt.mv {H H' : Hp} {d : Addr} {pr : List (Str × Str)} (h : PrAt H d pr) (m : Mv [] H H') : PrAt H' d pr := ⟨m.same _ _ h.at_, h.nd⟩
theorem pr_val : ∀ (pr : List (Str × Str)) (a : Str), valV (pr.map prK) (.inr a) = (prGet pr a).map V.str
  | [], a => rfl
  | e :: pr, a => by
    have ih := pr_val pr a
    unfold valV prGet at ih ⊢
    rw [List.map_cons, List.find?_cons, List.find?_cons]
    by_cases h : e.1 = a
    · rw [show decide ((prK e).1 = Sum.inr a) = true from decide_eq_true (by rw [← h]), show decide (e.1 = a) = true from decide_eq_true h]
      rfl
    · rw [show decide ((prK e).1 = Sum.inr a) = false from decide_eq_false (fun z => h (Sum.inr.inj z)), show decide (e.1 = a) = false from decide_eq_false h]
      exact ih
theorem PrAt.get {H : Hp} {d : Addr} {pr : List (Str × Str)} (h : PrAt H d pr) (a : Str) : DGet H d (.str a) ((prGet pr a).map V.str) := Or.inl ⟨_, .inr a, .inl h.at_, rfl, (pr_val pr a).symm⟩
def goBy (o : Str) (ways : List (Str × List Int × Int)) : Option Int := (ways.find? fun w => decide (w.1 = o)).map (·.2.2)
def stdS (pr : List (Str × Str)) (m : Int) : Sta → Sta
  | .ask act ts ways => match prGet pr act with
    | some o => .set [] ((goBy o ways).getD 0)
    | none => .ask act ts (ways ++ ways.map fun w => (dash w.1, w.2.1, m + w.2.2))
  | .set chs g => .set chs g
  | .fin word ts => .fin word ts
def falS (pr : List (Str × Str)) (m : Int) : Sta → Sta
  | .set chs g => .set chs (m + g)
  | .ask act ts ways => .ask act ts (match prGet pr act with
    | some _ => ways.map fun w => (w.1, w.2.1, m + w.2.2)
    | none => (ways.map fun w => (w.1, w.2.1, m + w.2.2)) ++ (ways.map fun w => (w.1, w.2.1, m + w.2.2)).map fun w => (dash w.1, w.2.1, w.2.2))
  | .fin word ts => .fin word ts
def relS (pr : List (Str × Str)) : Sta → Sta
  | .ask act ts ways => match prGet pr act with
    | some o => .set [] ((goBy o ways).getD 0)
    | none => .ask act ts ways
  | .set chs g => .set chs g
  | .fin word ts => .fin word ts
def PrFits (pr : List (Str × Str)) (st : Sta) : Prop := ∀ act ts ways o, st = .ask act ts ways → prGet pr act = some o → ∃ g, goBy o ways = some g
def sp_twayBy (K : PySem.W.Frag) : Sp := fun vs H Q _ => ∃ (v : V) (o : Str) (act : Str) (ts : List Tm) (ways : List (Str × List Int × Int)) (g : Int), vs = [v, .str o] ∧ Im K H v (Sta.ask act ts ways).d ∧ ways.length ≤ 1000 ∧ goBy o ways = some g ∧ ∀ H', Mv [] H H' → Q (.int g) H'
def sp_standing (K : PySem.W.Frag) : Sp := fun vs H Q _ => ∃ (v : V) (d : Addr) (m : Int) (pr : List (Str × Str)) (st : Sta), vs = [v, .ref d, .int m] ∧ Im K H v st.d ∧ PrAt H d pr ∧ PrFits pr st ∧ (∀ act ts ways, st = .ask act ts ways → ways.length ≤ 100 ∧ ∀ w ∈ ways, w.1.length ≤ 100) ∧ ∀ v' H', Mv [] H H' → Im K H' v' (stdS pr m st).d → Q v' H'
def sp_fallen (K : PySem.W.Frag) : Sp := fun vs H Q _ => ∃ (v : V) (d : Addr) (m : Int) (pr : List (Str × Str)) (st : Sta), vs = [v, .ref d, .int m] ∧ Im K H v st.d ∧ PrAt H d pr ∧ (∀ act ts ways, st = .ask act ts ways → ways.length ≤ 100 ∧ ∀ w ∈ ways, w.1.length ≤ 100) ∧ ∀ v' H', Mv [] H H' → Im K H' v' (falS pr m st).d → Q v' H'
end Fm
namespace Fm
open PySem PySem.Spec PyProof.Rows L2 SlX
local macro_rules | `(tactic| walk_at "nn") => `(tactic| dsimp only [tC, tNil, tCons, tCB, tCall, gName, tSeq, tAsg, tPar, tDrop, tRet])
local macro_rules | `(tactic| walk_at "nc") => `(tactic| dsimp only [tC, tNil, tCons, tCB, tCall])
section
variable {P : Program} {w : World} {K : PySem.W.Frag} {mg : Str → Option Value} {base : Heap}
end
end Fm
namespace Fm
open PySem PySem.Spec PyProof.Rows L2 SlX
local macro_rules | `(tactic| walk_at "nn") => `(tactic| dsimp only [tC, tNil, tCons, tCB, tCall, gName, tSeq, tAsg, tPar, tDrop, tRet])
local macro_rules | `(tactic| walk_at "nc") => `(tactic| dsimp only [tC, tNil, tCons, tCB, tCall])
structure PrOk (rs : List ActR) (pr : List (Str × Str)) : Prop where
  mem : ∀ e ∈ pr, ∃ r ∈ rs, r.nm = e.1 ∧ (e.2, (0 : Int)) ∈ r.outs
  plain : ∀ r ∈ rs, ∀ e ∈ r.outs, dashed e.1 = false
  few : ∀ r ∈ rs, prGet pr r.nm = none → r.outs.length ≤ 3
def sp_needPr (K : PySem.W.Frag) (CW : Addr) : Sp := fun vs H Q _ => ∃ (x d : Addr) (rs : List ActR) (pr : List (Str × Str)), vs = [.ref x, .ref d] ∧ WldAt K H CW x rs ∧ WOk rs ∧ 0 < rs.length ∧ PrAt H d pr ∧ PrOk rs pr ∧ ∀ H', Mv [] H H' → Q .non H'
section
variable {P : Program} {w : World} {K : PySem.W.Frag} {mg : Str → Option Value} {base : Heap}
end
end Fm
namespace Fm
open PySem PySem.Spec PyProof.Rows L2 SlX
local macro_rules | `(tactic| walk_at "nn") => `(tactic| dsimp only [tC, tNil, tCons, tCB, tCall, gName, tSeq, tAsg, tPar, tDrop, tRet])
local macro_rules | `(tactic| walk_at "nc") => `(tactic| dsimp only [tC, tNil, tCons, tCB, tCall])
def dblO (outs : List (Str × Int)) : List (Str × Int) := outs ++ outs.map fun e => (dash e.1, e.2)
def dblR (pr : List (Str × Str)) (r : ActR) : ActR := ⟨r.nm, r.ar, match prGet pr r.nm with | some _ => r.outs | none => dblO r.outs⟩
def sp_dblWorld (K : PySem.W.Frag) (CW : Addr) : Sp := fun vs H Q _ => ∃ (x d : Addr) (rs : List ActR) (pr : List (Str × Str)), vs = [.ref x, .ref d] ∧ WldAt K H CW x rs ∧ WOk rs ∧ 0 < rs.length ∧ PrAt H d pr ∧ PrOk rs pr ∧ (∀ r ∈ rs, (dblR pr r).ok) ∧ ∀ y H', Mv [] H H' → WldAt K H' CW y (normW (rs.map (dblR pr))) → Q (.ref y) H'
section
variable {P : Program} {w : World} {K : PySem.W.Frag} {mg : Str → Option Value} {base : Heap}
end
end Fm
namespace Fm
open PySem PySem.Spec PyProof.Rows L2 SlX
local macro_rules | `(tactic| walk_at "nn") => `(tactic| dsimp only [tC, tNil, tCons, tCB, tCall, gName, tSeq, tAsg, tPar, tDrop, tRet])
local macro_rules | `(tactic| walk_at "nc") => `(tactic| dsimp only [tC, tNil, tCons, tCB, tCall])
def sp_goal : Sp := fun vs H Q _ => ∃ (b : Addr) (at_ places : Int), vs = [.ref b, .int at_, .int places] ∧ Bag H b ∧ 0 < places ∧ places ≤ 1000000 ∧ ∀ (g : Int) H', 0 ≤ g → g < places → Dr b H H' → Q (.int g) H'
section
variable {P : Program} {w : World} {K : PySem.W.Frag} {mg : Str → Option Value} {base : Heap}
end
end Fm
namespace Fm
open PySem PySem.Spec PyProof.Rows L2 SlX
local macro_rules | `(tactic| walk_at "nn") => `(tactic| dsimp only [tC, tNil, tCons, tCB, tCall, gName, tSeq, tAsg, tPar, tDrop, tRet])
local macro_rules | `(tactic| walk_at "nc") => `(tactic| dsimp only [tC, tNil, tCons, tCB, tCall])
theorem perm_ints {ms : List V} {xs : List Int} (h : ms.Perm (xs.map V.int)) : ∃ ws : List Int, ms = ws.map V.int ∧ ws.Perm xs := by
  obtain ⟨ws, h1, h2⟩ := perm_lift h
  exact ⟨ws, h2, h1⟩
theorem rgV_ints (n : Int) : rgV 0 n = ((List.range n.toNat).map fun i : Nat => (i : Int)).map V.int := by
  unfold rgV
  rw [List.map_map, Int.sub_zero]
  refine List.map_congr_left fun i _ => ?_
  simp
theorem rg_nd (n : Int) : ((List.range n.toNat).map fun i : Nat => (i : Int)).Nodup := by
  refine List.Pairwise.map _ (fun a b h => ?_) List.nodup_range
  exact fun e => h (Int.ofNat.inj e)
theorem rg_in {n : Int} : ∀ j ∈ (List.range n.toNat).map fun i : Nat => (i : Int), 0 ≤ j ∧ j < n := fun j hj => by
  obtain ⟨i, hi, rfl⟩ := List.mem_map.mp hj
  have := List.mem_range.mp hi
  omega
structure Hand (K : PySem.W.Frag) (H : Hp) (b d nm : Addr) (zs : List ActA) (xs : List Str) (many : Int) : Prop where
  bag : Bag H b
  acts : ActsAt K H d zs
  ok : DrawnActs many (zs.map (·.r))
  nms : Nms H b nm xs
  m0 : 0 ≤ many
  m1 : many ≤ 100
theorem Hand.dr {K : PySem.W.Frag} {H H' : Hp} {b d nm : Addr} {zs : List ActA} {xs : List Str} {many : Int} (h : Hand K H b d nm zs xs many) (m : Dr b H H') : Hand K H' b d nm zs xs many := ⟨m.bag h.bag, h.acts.dr m h.bag, h.ok, h.nms.dr m, h.m0, h.m1⟩
def sp_lask (K : PySem.W.Frag) : Sp := fun vs H Q _ => ∃ (b d nm : Addr) (zs : List ActA) (xs : List Str) (many at_ places : Int), vs = [.ref b, .ref d, .ref nm, .int many, .int at_, .int places] ∧ Hand K H b d nm zs xs many ∧ 1 ≤ zs.length ∧ 0 < places ∧ places ≤ 1000000 ∧
  ∀ v (r : ActR) ts ways H', r ∈ zs.map (·.r) → AskOk r many places ts ways → (∀ t ∈ ts, t.dep ≤ 1) → ways.map (·.1) = (srt leS (·.1) r.outs).map (·.1) → Im K H' v (Sta.ask r.nm ts ways).d → Dr b H H' → Q v H'
section
variable {P : Program} {w : World} {K : PySem.W.Frag} {mg : Str → Option Value} {base : Heap}
end
end Fm
namespace Fm
open PySem PySem.Spec PyProof.Rows L2
def PlT (H : Hp) (a : Addr) (xs : List V) : Prop := ∃ o : Obj, H a = some (.frz o (.tup xs)) ∧ o.dict = none
theorem PlT.sq {K : PySem.W.Frag} {H : Hp} {a : Addr} {xs : List V} (h : PlT H a xs) : SqT K H a xs := let ⟨o, e, _⟩ := h; .inl (.inr ⟨o, e⟩)
theorem PlT.mv {S : List Addr} {H H' : Hp} {a : Addr} {xs : List V} (h : PlT H a xs) (m : Mv S H H') (hS : ∀ q ∈ S, ∀ o ys, H q ≠ some (.frz o (.tup ys))) : PlT H' a xs :=
  let ⟨o, e, d⟩ := h
  ⟨o, m.keep a _ (fun z => hS a z o xs e) e, d⟩
section
variable {X : Cx}
def rTupF (K : PySem.W.Frag) : List V → Hp → VK → Prop := fun xs H Q => ∃ p ys, xs = [.ref p] ∧ SqL K H p ys ∧ ∀ l o, H l = none → o.dict = none → Q (.ref l) (upd H l (.frz o (.tup ys)))
def tTupF (t : TA) : TE := fun σ H Q => t σ H fun xs H1 => xs.length ≤ sizeLine ∧ ∀ p o, H1 p = none → o.dict = none → Q (.ref p) (upd H1 p (.frz o (.tup xs)))
def rDictT (K : PySem.W.Frag) : List V → Hp → VK → Prop := fun xs H Q => ∃ (a : Addr) (ps : List Addr) (kvs : List (L2.Key × V)), xs = [.ref a] ∧ PlT H a (ps.map V.ref) ∧ Paired (fun p kv => SqT K H p [kV kv.1, kv.2]) ps kvs ∧ ∀ p, H p = none → Q (.ref p) (upd H p (.dK (mergeK [] kvs)))
end
end Fm
namespace Fm
open PySem PySem.Spec PyProof.Rows L2 SlX
local macro_rules | `(tactic| walk_at "nn") => `(tactic| dsimp only [tC, tNil, tCons, tCB, tCall, gName, tSeq, tAsg, tPar, tDrop, tRet])
local macro_rules | `(tactic| walk_at "nc") => `(tactic| dsimp only [tC, tNil, tCons, tCB, tCall])
def Sta.rw (rs : List ActR) (many places : Int) (st : Sta) : Prop := st.ok rs many places ∧ st.ord = st
def Sta.dp (n : Nat) : Sta → Prop
  | .set chs _ => ∀ c ∈ chs, c.2.dep ≤ n
  | .ask _ ts _ => ∀ t ∈ ts, t.dep ≤ n
  | .fin _ ts => ∀ t ∈ ts, t.dep ≤ n
def Sta.raw (rs : List ActR) (many places : Int) (st : Sta) : Prop := st.rw rs many places ∧ st.dp 1
def Sta.pl (K : PySem.W.Frag) (H : Hp) (v : V) : Sta → Prop
  | .set chs g => ∃ a e zs, v = .ref a ∧ SqT K H a [.str "set", .ref e, .int g] ∧ PlT H e zs ∧ Ims K H zs (chs.map chD)
  | _ => True
theorem pl_mv {K : PySem.W.Frag} {S : List Addr} {H H' : Hp} {v : V} (m : Mv S H H') (hS : ∀ q ∈ S, ∀ o ys, H q ≠ some (.frz o (.tup ys))) : ∀ {st : Sta}, st.pl K H v → st.pl K H' v
  | .set _ _, ⟨a, e, zs, h1, h2, h3, h4⟩ => ⟨a, e, zs, h1, m.sqT h2, h3.mv m hS, h4.mv m⟩
  | .ask _ _ _, _ => trivial
  | .fin _ _, _ => trivial
def Rws (K : PySem.W.Frag) (H : Hp) (vs : List V) (sts : List Sta) : Prop := Ims K H vs (sts.map Sta.d) ∧ ∀ (i : Nat) (v : V) (st : Sta), vs[i]? = some v → sts[i]? = some st → st.pl K H v
theorem Rws.mv {K : PySem.W.Frag} {S : List Addr} {H H' : Hp} {vs : List V} {sts : List Sta} (h : Rws K H vs sts) (m : Mv S H H') (hS : ∀ q ∈ S, ∀ o ys, H q ≠ some (.frz o (.tup ys))) : Rws K H' vs sts := ⟨h.1.mv m, fun i v st h1 h2 => pl_mv m hS (h.2 i v st h1 h2)⟩
theorem Rws.mv0 {K : PySem.W.Frag} {H H' : Hp} {vs : List V} {sts : List Sta} (h : Rws K H vs sts) (m : Mv [] H H') : Rws K H' vs sts := h.mv m (fun q hq => nomatch hq)
theorem no_frz {H : Hp} {p : Addr} {u : HO} (h : H p = some u) (hu : ∀ o ys, u ≠ .frz o (.tup ys)) : ∀ q ∈ [p], ∀ o ys, H q ≠ some (.frz o (.tup ys)) := fun q hq o ys e => by
  rw [List.mem_singleton.mp hq, h] at e
  exact hu o ys (Option.some.inj e)
theorem Rws.dr {K : PySem.W.Frag} {H H' : Hp} {b : Addr} {vs : List V} {sts : List Sta} (h : Rws K H vs sts) (m : Dr b H H') (hB : Bag H b) : Rws K H' vs sts := by
  refine h.mv m.mv ?_
  obtain ⟨c, s, mm, k, ns, h1, _⟩ := hB
  exact no_frz h1 (fun _ _ z => by cases z)
theorem Rws.snoc {K : PySem.W.Frag} {H : Hp} {vs : List V} {sts : List Sta} {v : V} {st : Sta} (h : Rws K H vs sts) (hv : Im K H v st.d) (hp : st.pl K H v) : Rws K H (vs ++ [v]) (sts ++ [st]) := by
  have hl := h.1.length
  rw [List.length_map] at hl
  refine ⟨by rw [List.map_append]; exact h.1.append (.cons hv .nil), fun i v' st' h1 h2 => ?_⟩
  by_cases hi : i < vs.length
  · rw [List.getElem?_append_left hi] at h1
    rw [List.getElem?_append_left (by omega)] at h2
    exact h.2 i v' st' h1 h2
  · have : i = vs.length := by
      have := (List.getElem?_eq_some_iff.mp h1).1
      rw [List.length_append, List.length_singleton] at this
      omega
    subst this
    rw [List.getElem?_append_right (Nat.le_refl _), Nat.sub_self] at h1
    rw [List.getElem?_append_right (by omega), show vs.length - sts.length = 0 by omega] at h2
    cases h1
    cases h2
    exact hp
def sp_line (K : PySem.W.Frag) : Sp := fun vs H Q _ => ∃ (b d nm : Addr) (zs : List ActA) (xs : List Str) (many at_ places : Int), vs = [.ref b, .ref d, .ref nm, .int many, .int at_, .int places] ∧ Hand K H b d nm zs xs many ∧ 0 < places ∧ places ≤ 1000000 ∧
  ∀ v (st : Sta) H', st.raw (zs.map (·.r)) many places → Im K H' v st.d → st.pl K H' v → Dr b H H' → Q v H'
theorem ask_ord {act : Str} {ts : List Tm} {ways : List (Str × List Int × Int)} {outs : List (Str × Int)} (n : (outs.map (·.1)).Nodup) (h : ways.map (·.1) = (srt leS (·.1) outs).map (·.1)) : (Sta.ask act ts ways).ord = .ask act ts ways := by
  show Sta.ask act ts (srt leS (·.1) ways) = _
  congr 1
  refine (srt_one totS ?_ (.refl _) ?_).symm
  · rw [h]
    exact srt_nd n
  · have : (ways.map (·.1)).Pairwise fun a b => leS a b = true := by
      rw [h]
      exact List.pairwise_map.mpr (srt_pw totS outs)
    exact List.pairwise_map.mp this
section
variable {P : Program} {w : World} {K : PySem.W.Frag} {mg : Str → Option Value} {base : Heap}
end
end Fm
namespace Fm
open PySem PySem.Spec PyProof.Rows L2 SlX
local macro_rules | `(tactic| walk_at "nn") => `(tactic| dsimp only [tC, tNil, tCons, tCB, tCall, gName, tSeq, tAsg, tPar, tDrop, tRet])
local macro_rules | `(tactic| walk_at "nc") => `(tactic| dsimp only [tC, tNil, tCons, tCB, tCall])
def sp_piece (K : PySem.W.Frag) : Sp := fun vs H Q _ => ∃ (b : Addr) (many : Int), vs = [.ref b, .int many] ∧ Bag H b ∧ 0 < many ∧ many ≤ 1000 ∧ ∀ v (t : Tm) H', TmOver many t → t.dep ≤ 2 → Im K H' v t.d → Dr b H H' → Q v H'
def pieces (i j : Int) : List Tm := [.var i, .var i, .op "f" [.var i], .op "g" [.var i, .var j], .op "nil" [], .op "f" [.var j], .op "g" [.op "f" [.var j], .op "nil" []], .op "f" [.var i, .var j], .op "h" [.var j, .var i, .var j]]
theorem nm_f : Nm "f" := by decide +kernel
theorem nm_g : Nm "g" := by decide +kernel
theorem nm_h : Nm "h" := by decide +kernel
theorem nm_nil : Nm "nil" := by decide +kernel
theorem pieces_over {i j many : Int} (i0 : 0 ≤ i) (i1 : i < many) (j0 : 0 ≤ j) (j1 : j < many) : ∀ t ∈ pieces i j, TmOver many t ∧ t.dep ≤ 2 := by
  have hi : 0 ≤ i ∧ i < many := ⟨i0, i1⟩
  have hj : 0 ≤ j ∧ j < many := ⟨j0, j1⟩
  intro t ht
  simp only [pieces, List.mem_cons, List.not_mem_nil, or_false] at ht
  rcases ht with rfl | rfl | rfl | rfl | rfl | rfl | rfl | rfl | rfl <;> refine ⟨⟨?_, ?_, ?_⟩, ?_⟩ <;> first
    | (simp [Tm.dep, Tm.deps]; done)
    | (simp [Tm.th, Tm.ths, Th.cnt, Th.cnts]; done)
    | (simp [Tm.ok, Tm.oks, hi, hj, nm_f, nm_g, nm_h, nm_nil]; done)
    | skip
section
variable {P : Program} {w : World} {K : PySem.W.Frag} {mg : Str → Option Value} {base : Heap}
theorem ok__law_piece (T : TX K mg) {k : Nat} : FnOk P w K mg base CX0 (k + 2) T.d__law_piece.f T.d__law_piece.fd P__law_piece (sp_piece K) := by
  have G__law_take : FnOk P w K mg base CX0 1 T.d__law_take.f T.d__law_take.fd P__law_take sp_take := ok__law_take T
  refine T.d__law_piece.F.ok sc__law_piece (fun vs H Q E h => ?_) (fun cdv A outer s H vs Q E hr h => ?_)
  · obtain ⟨_, _, rfl, _⟩ := h
    rfl
  · obtain ⟨b, many, rfl, hB, m0, m1, q⟩ := h
    have hu64 := hr.units
    refine ⟨_, (pss_cons (ps_par (i := 2) (j := 3) rfl sc__law_piece.nd rfl rfl (by decide) rfl rfl (pa_cons (pe_call G__law_take (hr.mono (by omega)) rfl T.d__law_take.g T.d__law_take.F.kp T.d__law_take.b .nil pass0 (pa_cons (pv 0) (pa_cons (pv 1) pa_nil))) (pa_cons (pe_call G__law_take (hr.mono (by omega)) rfl T.d__law_take.g T.d__law_take.F.kp T.d__law_take.b .nil pass0 (pa_cons (pv 0) (pa_cons (pv 1) pa_nil))) pa_nil)) rfl) (pss_cons (ps_set (i := 4) sc__law_piece.nd rfl (Or.inl rfl) (pe_lst (pa_cons (pv 2) (pa_cons (pv 2) (pa_cons (pe_tup (pa_cons pe_str (pa_cons (pv 2) pa_nil))) (pa_cons (pe_tup (pa_cons pe_str (pa_cons (pv 2) (pa_cons (pv 3) pa_nil)))) (pa_cons (pe_tup (pa_cons pe_str pa_nil)) (pa_cons (pe_tup (pa_cons pe_str (pa_cons (pv 3) pa_nil))) (pa_cons (pe_tup (pa_cons pe_str (pa_cons (pe_tup (pa_cons pe_str (pa_cons (pv 3) pa_nil))) (pa_cons (pe_tup (pa_cons pe_str pa_nil)) pa_nil)))) pa_nil))))))))) (pss_one (ps_ret (pe_ix (r := rIx K) ix_seq (pe_op (r := rAddG K) op_addG (pv 4) (pe_lst (pa_cons (pe_tup (pa_cons pe_str (pa_cons (pv 2) (pa_cons (pv 3) pa_nil)))) (pa_cons (pe_tup (pa_cons pe_str (pa_cons (pv 3) (pa_cons (pv 2) (pa_cons (pv 3) pa_nil))))) pa_nil)))) (pe_call G__law_take (hr.mono (by omega)) rfl T.d__law_take.g T.d__law_take.F.kp T.d__law_take.b .nil pass0 (pa_cons (pv 0) (pa_cons pe_int pa_nil))) (fun _ _ => rfl)))))), ?_⟩
    refine ⟨.ref b, rfl, .int many, rfl, b, many, rfl, hB, m0, by omega, fun i H1 i0 i1 d1 => ?_⟩
    have hB1 := d1.bag hB
    refine ⟨.ref b, rfl, .int many, rfl, b, many, rfl, hB1, m0, by omega, fun j H2 j0 j1 d2 => ?_⟩
    have hB2 := d2.bag hB1
    have d02 := d1.trans d2
    refine ⟨_, _, rfl, .int i, rfl, .int i, rfl, .int i, rfl, (by decide : 2 ≤ sizeLine), fun p3 n3 => ?_⟩
    have m3 : Mv [] H2 (upd H2 p3 (.tup [.str "f", .int i])) := .new n3
    have e3 : SqT K (upd H2 p3 (.tup [.str "f", .int i])) p3 [.str "f", .int i] := .inl (.inl upd_same)
    generalize upd H2 p3 (.tup [.str "f", .int i]) = H3 at m3 e3 ⊢
    refine ⟨.int i, rfl, .int j, rfl, (by decide : 3 ≤ sizeLine), fun p4 n4 => ?_⟩
    have m4 : Mv [] H3 (upd H3 p4 (.tup [.str "g", .int i, .int j])) := .new n4
    have e4 : SqT K (upd H3 p4 (.tup [.str "g", .int i, .int j])) p4 [.str "g", .int i, .int j] := .inl (.inl upd_same)
    generalize upd H3 p4 (.tup [.str "g", .int i, .int j]) = H4 at m4 e4 ⊢
    refine ⟨(by decide : 1 ≤ sizeLine), fun p5 n5 => ?_⟩
    have m5 : Mv [] H4 (upd H4 p5 (.tup [.str "nil"])) := .new n5
    have e5 : SqT K (upd H4 p5 (.tup [.str "nil"])) p5 [.str "nil"] := .inl (.inl upd_same)
    generalize upd H4 p5 (.tup [.str "nil"]) = H5 at m5 e5 ⊢
    refine ⟨.int j, rfl, (by decide : 2 ≤ sizeLine), fun p6 n6 => ?_⟩
    have m6 : Mv [] H5 (upd H5 p6 (.tup [.str "f", .int j])) := .new n6
    have e6 : SqT K (upd H5 p6 (.tup [.str "f", .int j])) p6 [.str "f", .int j] := .inl (.inl upd_same)
    generalize upd H5 p6 (.tup [.str "f", .int j]) = H6 at m6 e6 ⊢
    refine ⟨.int j, rfl, (by decide : 2 ≤ sizeLine), fun p7 n7 => ?_⟩
    have m7 : Mv [] H6 (upd H6 p7 (.tup [.str "f", .int j])) := .new n7
    have e7 : SqT K (upd H6 p7 (.tup [.str "f", .int j])) p7 [.str "f", .int j] := .inl (.inl upd_same)
    generalize upd H6 p7 (.tup [.str "f", .int j]) = H7 at m7 e7 ⊢
    refine ⟨(by decide : 1 ≤ sizeLine), fun p8 n8 => ?_⟩
    have m8 : Mv [] H7 (upd H7 p8 (.tup [.str "nil"])) := .new n8
    have e8 : SqT K (upd H7 p8 (.tup [.str "nil"])) p8 [.str "nil"] := .inl (.inl upd_same)
    generalize upd H7 p8 (.tup [.str "nil"]) = H8 at m8 e8 ⊢
    refine ⟨(by decide : 3 ≤ sizeLine), fun p9 n9 => ?_⟩
    have m9 : Mv [] H8 (upd H8 p9 (.tup [.str "g", .ref p7, .ref p8])) := .new n9
    have e9 : SqT K (upd H8 p9 (.tup [.str "g", .ref p7, .ref p8])) p9 [.str "g", .ref p7, .ref p8] := .inl (.inl upd_same)
    generalize upd H8 p9 (.tup [.str "g", .ref p7, .ref p8]) = H9 at m9 e9 ⊢
    refine ⟨(by decide : 7 ≤ sizeLine), fun pA nA => ?_⟩
    have mA : Mv [] H9 (upd H9 pA (.lst [.int i, .int i, .ref p3, .ref p4, .ref p5, .ref p6, .ref p9])) := .new nA
    have eA : upd H9 pA (.lst [.int i, .int i, .ref p3, .ref p4, .ref p5, .ref p6, .ref p9]) pA = some (.lst [.int i, .int i, .ref p3, .ref p4, .ref p5, .ref p6, .ref p9]) := upd_same
    generalize upd H9 pA (.lst [.int i, .int i, .ref p3, .ref p4, .ref p5, .ref p6, .ref p9]) = HA at mA eA ⊢
    refine ⟨.ref pA, rfl, .int i, rfl, .int j, rfl, (by decide : 3 ≤ sizeLine), fun pB nB => ?_⟩
    have mB : Mv [] HA (upd HA pB (.tup [.str "f", .int i, .int j])) := .new nB
    have eB : SqT K (upd HA pB (.tup [.str "f", .int i, .int j])) pB [.str "f", .int i, .int j] := .inl (.inl upd_same)
    generalize upd HA pB (.tup [.str "f", .int i, .int j]) = HB at mB eB ⊢
    refine ⟨.int j, rfl, .int i, rfl, .int j, rfl, (by decide : 4 ≤ sizeLine), fun pC nC => ?_⟩
    have mC : Mv [] HB (upd HB pC (.tup [.str "h", .int j, .int i, .int j])) := .new nC
    have eC : SqT K (upd HB pC (.tup [.str "h", .int j, .int i, .int j])) pC [.str "h", .int j, .int i, .int j] := .inl (.inl upd_same)
    generalize upd HB pC (.tup [.str "h", .int j, .int i, .int j]) = HC at mC eC ⊢
    refine ⟨(by decide : 2 ≤ sizeLine), fun pD nD => ?_⟩
    have mD : Mv [] HC (upd HC pD (.lst [.ref pB, .ref pC])) := .new nD
    have eD : upd HC pD (.lst [.ref pB, .ref pC]) pD = some (.lst [.ref pB, .ref pC]) := upd_same
    generalize upd HC pD (.lst [.ref pB, .ref pC]) = HD at mD eD ⊢
    have mBD := mB.trans (mC.trans mD)
    have mAD := mA.trans mBD
    have m8D := m8.trans (m9.trans mAD)
    have m6D := m6.trans (m7.trans m8D)
    have m4D := m4.trans (m5.trans m6D)
    have m2D := m3.trans m4D
    have ims : Ims K HD [.int i, .int i, .ref p3, .ref p4, .ref p5, .ref p6, .ref p9, .ref pB, .ref pC] (Tm.ds (pieces i j)) :=
      .cons (.int i) (.cons (.int i) (.cons (.tup (m4D.sqT e3) (.cons (.str _) (.cons (.int i) .nil))) (.cons (.tup ((m5.trans m6D).sqT e4) (.cons (.str _) (.cons (.int i) (.cons (.int j) .nil)))) (.cons (.tup (m6D.sqT e5) (.cons (.str _) .nil))
        (.cons (.tup ((m7.trans m8D).sqT e6) (.cons (.str _) (.cons (.int j) .nil))) (.cons (.tup (mAD.sqT e9) (.cons (.str _) (.cons (.tup (m8D.sqT e7) (.cons (.str _) (.cons (.int j) .nil))) (.cons (.tup ((m9.trans mAD).sqT e8) (.cons (.str _) .nil)) .nil))))
        (.cons (.tup ((mC.trans mD).sqT eB) (.cons (.str _) (.cons (.int i) (.cons (.int j) .nil)))) (.cons (.tup (mD.sqT eC) (.cons (.str _) (.cons (.int j) (.cons (.int i) (.cons (.int j) .nil))))) .nil))))))))
    refine Or.inr (Or.inr (Or.inr ⟨pA, pD, _, _, rfl, rfl, mBD.same _ _ eA, eD, (by decide : 9 ≤ sizeLine), fun pE nE => ?_⟩))
    have mE : Mv [] HD (upd HD pE (.lst [.int i, .int i, .ref p3, .ref p4, .ref p5, .ref p6, .ref p9, .ref pB, .ref pC])) := .new nE
    have eE : upd HD pE (.lst [.int i, .int i, .ref p3, .ref p4, .ref p5, .ref p6, .ref p9, .ref pB, .ref pC]) pE = some (.lst [.int i, .int i, .ref p3, .ref p4, .ref p5, .ref p6, .ref p9, .ref pB, .ref pC]) := upd_same
    have iE := ims.mv mE
    show tCall sp_take [] E0 (tCons (tVar 0) (tCons (tC (.int 9)) tNil)) _ (upd HD pE (.lst [.int i, .int i, .ref p3, .ref p4, .ref p5, .ref p6, .ref p9, .ref pB, .ref pC])) _
    generalize upd HD pE (.lst [.int i, .int i, .ref p3, .ref p4, .ref p5, .ref p6, .ref p9, .ref pB, .ref pC]) = HE at mE eE iE ⊢
    have m2E := m2D.trans mE
    have hBE := hB2.mv m2E
    have hlen : [V.int i, .int i, .ref p3, .ref p4, .ref p5, .ref p6, .ref p9, .ref pB, .ref pC].length = 9 := rfl
    have hpb : pE ≠ b := (hB2.mv m2D).fneq nE
    generalize [V.int i, .int i, .ref p3, .ref p4, .ref p5, .ref p6, .ref p9, .ref pB, .ref pC] = xs at eE iE hlen
    refine ⟨.ref b, rfl, b, 9, rfl, hBE, by decide, by decide, fun n HF n0 n1 dF => ?_⟩
    obtain ⟨v, hv⟩ : ∃ v, xs[n.toNat]? = some v := ⟨_, List.getElem?_eq_getElem (by omega)⟩
    obtain ⟨dd, hdd, him⟩ := iE.get hv
    rw [Tm.ds_map, List.getElem?_map] at hdd
    obtain ⟨t, ht, rfl⟩ := Option.map_eq_some_iff.mp hdd
    obtain ⟨ho, hd⟩ := pieces_over i0 i1 j0 j1 t (List.mem_of_getElem? ht)
    refine rd_ixL (.inl (.inl (dF.get hpb eE))) n0 hv ?_
    exact q v t HF ho hd (him.mv dF.mv) (d02.trans ((Dr.of m2E).trans dF))
end
end Fm
namespace Fm
open PySem PySem.Spec PyProof.Rows L2 SlX
local macro_rules | `(tactic| walk_at "nn") => `(tactic| dsimp only [tC, tNil, tCons, tCB, tCall, gName, tSeq, tAsg, tPar, tDrop, tRet])
local macro_rules | `(tactic| walk_at "nc") => `(tactic| dsimp only [tC, tNil, tCons, tCB, tCall])
structure HandS (K : PySem.W.Frag) (H : Hp) (b d : Addr) (zs : List ActA) (many : Int) : Prop where
  bag : Bag H b
  acts : ActsAt K H d zs
  ok : ∀ z ∈ zs, z.r.ok
  le : ∀ z ∈ zs, ∀ e ∈ z.r.outs, e.2 ≤ many
  z2 : 2 ≤ zs.length
  z50 : zs.length ≤ 50
  m0 : 0 < many
  m1 : many ≤ 20
theorem HandS.dr {K : PySem.W.Frag} {H H' : Hp} {b d : Addr} {zs : List ActA} {many : Int} (h : HandS K H b d zs many) (m : Dr b H H') : HandS K H' b d zs many := ⟨m.bag h.bag, h.acts.dr m h.bag, h.ok, h.le, h.z2, h.z50, h.m0, h.m1⟩
def sp_smallRow (K : PySem.W.Frag) : Sp := fun vs H Q _ => ∃ (b d : Addr) (zs : List ActA) (many places at_ : Int), vs = [.ref b, .ref d, .int many, .int places, .int at_] ∧ HandS K H b d zs many ∧ 0 < places ∧ places ≤ 1000 ∧ 0 ≤ at_ ∧
  ∀ v (st : Sta) H', st.rw (zs.map (·.r)) many places → st.dp 2 → Im K H' v st.d → Dr b H H' → Q v H'
section
variable {P : Program} {w : World} {K : PySem.W.Frag} {mg : Str → Option Value} {base : Heap}
theorem ok__law_small_row (T : TX K mg) {k : Nat} : FnOk P w K mg base CX0 (k + 3) T.d__law_small_row.f T.d__law_small_row.fd P__law_small_row (sp_smallRow K) := by
  have G__law_take : FnOk P w K mg base CX0 1 T.d__law_take.f T.d__law_take.fd P__law_take sp_take := ok__law_take T
  have G__law_mixed : FnOk P w K mg base CX0 2 T.d__law_mixed.f T.d__law_mixed.fd P__law_mixed (sp_mixG K) := ok__law_mixed T
  have G__law_piece : FnOk P w K mg base CX0 2 T.d__law_piece.f T.d__law_piece.fd P__law_piece (sp_piece K) := ok__law_piece (k := 0) T
  refine T.d__law_small_row.F.ok sc__law_small_row (fun vs H Q E h => ?_) (fun cdv A outer s H vs Q E hr h => ?_)
  · obtain ⟨_, _, _, _, _, _, rfl, _⟩ := h
    rfl
  · obtain ⟨b, d, zs, many, places, at_, rfl, hH, h0, h1, ha0, q⟩ := h
    have hu1 := hu1_of hr
    have hu64 := hr.units
    have hm0 := hH.m0
    have hm1 := hH.m1
    have hz2 := hH.z2
    have hz50 := hH.z50
    refine ⟨_, (pss_cons (ps_par3 (i := 5) (j := 6) (l := 7) rfl sc__law_small_row.nd rfl rfl rfl (by decide) (by decide) (by decide) rfl rfl rfl (pa_cons (pe_call G__law_take (hr.mono (by omega)) rfl T.d__law_take.g T.d__law_take.F.kp T.d__law_take.b .nil pass0 (pa_cons (pv 0) (pa_cons pe_int pa_nil))) (pa_cons (pe_ix (r := rIx K) ix_seq (pe_callB (r := rSortA K) (cr_sortA rfl) (by rfl) T.b_sorted bt_sorted (pa_cons (pv 1) pa_nil)) (pe_op op_sub (pe_un un_neg pe_int) (pe_call G__law_take (hr.mono (by omega)) rfl T.d__law_take.g T.d__law_take.F.kp T.d__law_take.b .nil pass0 (pa_cons (pv 0) (pa_cons pe_int pa_nil)))) (fun _ _ => rfl)) (pa_cons (pe_lst (pa_cons (pe_op op_mod (pe_callTy call_int1 (by rfl) T.b_int bt_int (pa_cons (pe_op (r := rAddG K) op_addG (pv 4) pe_int) pa_nil)) (pv 3)) pa_nil)) pa_nil))) rfl) (pss_cons (ps_expr (pe_bm PySem.F.plainAttrs_list PySem.F.slot_list_append PySem.F.type_list_append mt_append (pv 7) (pa_cons (pe_call G__law_take (hr.mono (by omega)) rfl T.d__law_take.g T.d__law_take.F.kp T.d__law_take.b .nil pass0 (pa_cons (pv 0) (pa_cons (pv 3) pa_nil))) pa_nil))) (pss_cons (ps_if (pt_cmpR (r := rEqG K) (op_eqG hu64) (pv 5) pe_int (nomark _)) (pss_cons (ps_set (i := 8) sc__law_small_row.nd rfl (Or.inl rfl) (pe_callTy (r := rTupOf K) call_tupG (by rfl) T.b_tuple bt_tuple (pa_cons (pe_lc (own := [("_law_k", 13)]) (g := gName 13) (by rfl) sc__law_small_row.nd (pi_range1 (by rfl) T.b_range (pa_cons (pe_call G__law_take (hr.mono (by omega)) rfl T.d__law_take.g T.d__law_take.F.kp T.d__law_take.b .nil pass0 (pa_cons (pv 0) (pa_cons pe_int pa_nil))) pa_nil)) (blkOk_by (own := [("_law_k", 13)]) (N := N__law_small_row) (sc := defScope s__law_small_row) (by decide +kernel)) (fun _ _ _ _ _ => pg_name (i := 13) sc__law_small_row.nd rfl (Or.inl rfl)) (fun _ _ _ _ _ => pts_nil) (fun _ _ _ _ _ => (pe_call G__law_piece (hr.mono (by omega)) rfl T.d__law_piece.g T.d__law_piece.F.kp T.d__law_piece.b .nil pass0 (pa_cons (pv 0) (pa_cons (pv 2) pa_nil))))) pa_nil))) (pss_one (ps_ret (pe_tup (pa_cons pe_str (pa_cons (pe_ix (r := rIx K) ix_seq (pe_lst (pa_cons pe_str (pa_cons pe_str pa_nil))) (pe_call G__law_take (hr.mono (by omega)) rfl T.d__law_take.g T.d__law_take.F.kp T.d__law_take.b .nil pass0 (pa_cons (pv 0) (pa_cons pe_int pa_nil))) (fun _ _ => rfl)) (pa_cons (pv 8) pa_nil))))))) pss_nil) (pss_cons (ps_if (pt_cmpR op_gt (pv 5) pe_int (nomark _)) (pss_cons (ps_set (i := 9) sc__law_small_row.nd rfl (Or.inl rfl) (pe_callB (r := rSortA K) (cr_sortA rfl) (by rfl) T.b_sorted bt_sorted (pa_cons (pe_slice (r := rSlG K) sl_G (pe_call G__law_mixed (hr.mono (by omega)) rfl T.d__law_mixed.g T.d__law_mixed.F.kp T.d__law_mixed.b .nil pass0 (pa_cons (pv 0) (pa_cons (pe_listRg rfl (by rfl) T.b_list (prg_1 (by rfl) T.b_range (pv 2))) pa_nil))) po_none (po_some (pe_call G__law_take (hr.mono (by omega)) rfl T.d__law_take.g T.d__law_take.F.kp T.d__law_take.b .nil pass0 (pa_cons (pv 0) (pa_cons pe_int pa_nil))))) pa_nil))) (pss_one (ps_ret (pe_tup (pa_cons pe_str (pa_cons (pe_callTy (r := rTupOf K) call_tupG (by rfl) T.b_tuple bt_tuple (pa_cons (pe_lc (own := [("_law_one", 12)]) (g := gName 12) (by rfl) sc__law_small_row.nd (pi_seq (pv 9)) (blkOk_by (own := [("_law_one", 12)]) (N := N__law_small_row) (sc := defScope s__law_small_row) (by decide +kernel)) (fun _ _ _ _ _ => pg_name (i := 12) sc__law_small_row.nd rfl (Or.inl rfl)) (fun _ _ _ _ _ => pts_nil) (fun _ _ _ _ _ => (pe_tup (pa_cons (pv 12) (pa_cons (pe_call G__law_piece (hr.mono (by omega)) rfl T.d__law_piece.g T.d__law_piece.F.kp T.d__law_piece.b .nil pass0 (pa_cons (pv 0) (pa_cons (pv 2) pa_nil))) pa_nil))))) pa_nil)) (pa_cons (pe_ix (r := rIx K) ix_seq (pv 7) (pe_call G__law_take (hr.mono (by omega)) rfl T.d__law_take.g T.d__law_take.F.kp T.d__law_take.b .nil pass0 (pa_cons (pv 0) (pa_cons pe_int pa_nil))) (fun _ _ => rfl)) pa_nil))))))) pss_nil) (pss_cons (ps_par (i := 10) (j := 11) rfl sc__law_small_row.nd rfl rfl (by decide) rfl rfl (pa_cons (pe_callTy (r := rTupOf K) call_tupG (by rfl) T.b_tuple bt_tuple (pa_cons (pe_lc (own := [("_law_k", 13)]) (g := gName 13) (by rfl) sc__law_small_row.nd (pi_range1 (by rfl) T.b_range (pa_cons (pe_ix (r := rIx K) ix_seq (pe_dget hu1 (pv 1) (pv 6) (fun _ _ => rfl)) pe_int (fun _ _ => rfl)) pa_nil)) (blkOk_by (own := [("_law_k", 13)]) (N := N__law_small_row) (sc := defScope s__law_small_row) (by decide +kernel)) (fun _ _ _ _ _ => pg_name (i := 13) sc__law_small_row.nd rfl (Or.inl rfl)) (fun _ _ _ _ _ => pts_nil) (fun _ _ _ _ _ => (pe_call G__law_piece (hr.mono (by omega)) rfl T.d__law_piece.g T.d__law_piece.F.kp T.d__law_piece.b .nil pass0 (pa_cons (pv 0) (pa_cons (pv 2) pa_nil))))) pa_nil)) (pa_cons (pe_lst pa_nil) pa_nil)) rfl) (pss_cons (ps_for PassesOwn.never rfl (pi_seq (pe_callB (r := rSortA K) (cr_sortA rfl) (by rfl) T.b_sorted bt_sorted (pa_cons (pe_ix (r := rIx K) ix_seq (pe_dget hu1 (pv 1) (pv 6) (fun _ _ => rfl)) pe_int (fun _ _ => rfl)) pa_nil))) (pg_name (i := 12) sc__law_small_row.nd rfl (Or.inl rfl)) (pss_cons (ps_set (i := 9) sc__law_small_row.nd rfl (Or.inl rfl) (pe_callTy (r := rTupOf K) call_tupG (by rfl) T.b_tuple bt_tuple (pa_cons (pe_slice (r := rSlG K) sl_G (pe_call G__law_mixed (hr.mono (by omega)) rfl T.d__law_mixed.g T.d__law_mixed.F.kp T.d__law_mixed.b .nil pass0 (pa_cons (pv 0) (pa_cons (pe_listRg rfl (by rfl) T.b_list (prg_1 (by rfl) T.b_range (pv 2))) pa_nil))) po_none (po_some (pe_dget hu1 (pe_ix (r := rIx K) ix_seq (pe_dget hu1 (pv 1) (pv 6) (fun _ _ => rfl)) pe_int (fun _ _ => rfl)) (pv 12) (fun _ _ => rfl)))) pa_nil))) (pss_one (ps_expr (pe_bm PySem.F.plainAttrs_list PySem.F.slot_list_append PySem.F.type_list_append mt_append (pv 11) (pa_cons (pe_tup (pa_cons (pv 12) (pa_cons (pv 9) (pa_cons (pe_ix (r := rIx K) ix_seq (pv 7) (pe_call G__law_take (hr.mono (by omega)) rfl T.d__law_take.g T.d__law_take.F.kp T.d__law_take.b .nil pass0 (pa_cons (pv 0) (pa_cons pe_int pa_nil))) (fun _ _ => rfl)) pa_nil)))) pa_nil)))))) (pss_one (ps_ret (pe_tup (pa_cons pe_str (pa_cons (pv 6) (pa_cons (pv 10) (pa_cons (pe_callTy (r := rTupOf K) call_tupG (by rfl) T.b_tuple bt_tuple (pa_cons (pv 11) pa_nil)) pa_nil))))))))))))), ?_⟩
    refine ⟨.ref b, rfl, b, 5, rfl, hH.bag, by decide, by decide, fun way H1 w0 w5 d1 => ?_⟩
    have hH1 := hH.dr d1
    have hlz : (zs.map (·.r.nm)).length < 64 := by rw [List.length_map]; omega
    refine ⟨.ref d, rfl, Or.inl ⟨d, _, zs.map (·.r.nm), rfl, .inl hH1.acts.at_, kv_keys zs, hlz, fun ys p hp hs np => ?_⟩⟩
    have hys := srt_keys totS hH.acts.nd hp (sortedS_pw ys hs)
    generalize hss : srt leS (fun z : ActA => z.r.nm) zs = ss at hys
    subst hys
    have hsub : ∀ z ∈ ss, z ∈ zs := fun z hz => by rw [← srt_mem (le := leS) (k := fun z : ActA => z.r.nm), hss]; exact hz
    have hsl : ss.length = zs.length := by rw [← hss, srt_len]
    have hpb : p ≠ b := hH1.bag.fneq np
    have e2 : upd H1 p (.lst ((ss.map (·.r.nm)).map V.str)) p = some (.lst ((ss.map (·.r.nm)).map V.str)) := upd_same
    have d2 : Dr b H (upd H1 p (.lst ((ss.map (·.r.nm)).map V.str))) := d1.trans (.new np)
    generalize upd H1 p (.lst ((ss.map (·.r.nm)).map V.str)) = H2 at e2 d2 ⊢
    have hH2 := hH.dr d2
    refine ⟨1, rfl, .ref b, rfl, b, 2, rfl, hH2.bag, by decide, by decide, fun n H3 n0 n2 d3 => ?_⟩
    have hH3 := hH2.dr d3
    obtain ⟨ix, hix, hixl⟩ : ∃ ix : Nat, ixN ((ss.map (·.r.nm)).map V.str).length (-1 - n) = some ix ∧ ix < ss.length := by
      unfold ixN
      rw [List.length_map, List.length_map, if_neg (by omega), if_pos (by omega)]
      exact ⟨_, rfl, by omega⟩
    have hzs : ss[ix] ∈ zs := hsub _ (List.getElem_mem hixl)
    refine ⟨-1, n, rfl, rfl, Or.inl ⟨p, _, -1 - n, .str ss[ix].r.nm, rfl, rfl, .inl (.inl (d3.get hpb e2)), ?_, ?_⟩⟩
    · unfold atI
      rw [hix]
      show ((ss.map (·.r.nm)).map V.str)[ix]? = _
      rw [List.getElem?_map, List.getElem?_map, List.getElem?_eq_getElem hixl]
      rfl
    generalize ss[ix] = z at hzs ⊢
    have hzr : z.r ∈ zs.map (·.r) := List.mem_map.mpr ⟨z, hzs, rfl⟩
    have hzo := hH.ok _ hzs
    have hzm := hH.le _ hzs
    have har0 := hzo.ar0
    have har2 := hzo.ar2
    have d03 : Dr b H H3 := d2.trans d3
    have hB3 := hH3.bag
    refine ⟨.int at_, rfl, Or.inl ⟨at_, 1, rfl, rfl, Or.inl ⟨at_ + 1, rfl, .int places, rfl, at_ + 1, places, rfl, rfl, h0, (by decide : 1 ≤ sizeLine), fun l nl => ⟨_, _, _, rfl, ?_⟩⟩⟩⟩
    have g10 : 0 ≤ (at_ + 1) % places := Int.emod_nonneg _ (by omega)
    have g11 : (at_ + 1) % places < places := Int.emod_lt_of_pos _ h0
    obtain ⟨g1, hg1⟩ : ∃ g1, g1 = (at_ + 1) % places := ⟨_, rfl⟩
    rw [← hg1] at g10 g11
    have nlH : H l = none := d03.free hH.bag nl
    have hlb : l ≠ b := hB3.fneq nl
    have d4 : Dr b H (upd H3 l (.lst [(fun i j : Int => V.int (i % j)) (at_ + 1) places])) := d03.trans (.new nl)
    have e4 : upd H3 l (.lst [(fun i j : Int => V.int (i % j)) (at_ + 1) places]) l = some (.lst [.int g1]) := by rw [upd_same, hg1]
    generalize upd H3 l (.lst [(fun i j : Int => V.int (i % j)) (at_ + 1) places]) = H4 at d4 e4 ⊢
    have hH4 := hH.dr d4
    refine ⟨.ref l, rfl, .inl ⟨rfl, _, .inl (.inl e4)⟩, .ref b, rfl, .int places, rfl, b, places, rfl, hH4.bag, h0, by omega, fun g2 H5 g20 g21 d5 => ?_⟩
    have e5 := d5.get hlb e4
    refine ⟨l, [.int g1], _, rfl, rfl, e5, (by decide : 1 < sizeLine), ?_⟩
    have d6 : Dr b H (upd H5 l (.lst ([.int g1] ++ [.int g2]))) := (d4.trans d5).wr nlH
    have e6 : upd H5 l (.lst ([.int g1] ++ [.int g2])) l = some (.lst [.int g1, .int g2]) := upd_same
    generalize upd H5 l (.lst ([.int g1] ++ [.int g2])) = H6 at d6 e6 ⊢
    have hH6 := hH.dr d6
    have goal : ∀ {σ : L2.St} {H' : Hp} {Q' : VK}, σ[0]? = some (some (.ref b)) → Dr b H6 H' → (∀ (g : Int) H'', 0 ≤ g → g < places → Dr b H' H'' → Q' (.int g) H'') → tCall sp_take [] E0 (tCons (tVar 0) (tCons (tC (.int 2)) tNil)) σ H' fun y H2 => rIx K (.ref l) y H2 Q' := fun {σ H' Q'} hσ dd qq => by
      have hB' := (hH6.dr dd).bag
      refine ⟨.ref b, hσ, b, 2, rfl, hB', by decide, by decide, fun n2 H8 n20 n22 d8 => ?_⟩
      have e8 := d8.get hlb (dd.get hlb e6)
      by_cases e0 : n2 = 0
      · subst e0
        exact rd_ixL (.inl (.inl e8)) (by decide) (v := .int g1) rfl (qq g1 H8 g10 g11 d8)
      · obtain rfl : n2 = 1 := by omega
        exact rd_ixL (.inl (.inl e8)) (by decide) (v := .int g2) rfl (qq g2 H8 g20 g21 d8)
    have hpl : places ≤ 1000 := h1
    refine ⟨.int way, rfl, Or.inl ⟨rfl, _, rfl, ?_⟩⟩
    rw [vint_eq]
    refine ite2 (fun e => ?_) (fun e => ?_)
    · -- an end
      refine ⟨.ref b, rfl, b, 3, rfl, hH6.bag, by decide, by decide, fun n7 H7 n70 n73 d7 => ?_⟩
      have hH7 := hH6.dr d7
      refine ⟨n7, rfl, by omega, by omega, fun D nD => ?_⟩
      refine lc_range (lo := 0) (n := n7.toNat) (fun i H8 => ∃ (vs : List V) (ts : List Tm), H8 D = some (.lst vs) ∧ Ims K H8 vs (Tm.ds ts) ∧ ts.length = i ∧ (∀ t ∈ ts, TmOver many t ∧ t.dep ≤ 2) ∧ Dr b H7 H8)
        ⟨[], [], upd_same, Ims.nil, rfl, by simp, Dr.new nD⟩ (fun i H8 hi h8 => ?_) (fun H8 h8 => ?_)
      · obtain ⟨vs, ts, e8, i8, l8, o8, d8⟩ := h8
        have hH8 := hH7.dr d8
        refine ⟨rfl, .ref b, rfl, .int many, rfl, b, many, rfl, hH8.bag, hm0, by omega, fun v t H9 ho hdp him d9 => ?_⟩
        have e9 := d9.get (hH7.bag.fneq nD) e8
        refine ⟨_, e9, ?_, vs ++ [v], ts ++ [t], upd_same, ?_, by simp [l8], ?_, (d8.trans d9).wr nD⟩
        · rw [i8.length, Tm.ds_map, List.length_map, l8]
          exact small1000 (by omega)
        · rw [show Tm.ds (ts ++ [t]) = Tm.ds ts ++ [t.d] by simp [Tm.ds_map]]
          exact ((i8.mv d9.mv).append (Ims.cons him Ims.nil)).mv (Mv.set (S := [D]) e9 (by simp))
        · intro y hy
          rcases List.mem_append.mp hy with hy | hy
          · exact o8 y hy
          · rw [List.mem_singleton.mp hy]
            exact ⟨ho, hdp⟩
      obtain ⟨vs, ts, e8, i8, l8, o8, d8⟩ := h8
      walk_at "nc"
      refine rd_tupOf (.inl (.inl e8)) fun p9 H9 m9 e9 => ?_
      have d69 := d7.trans (d8.trans (Dr.of m9))
      refine ⟨(by decide : 2 ≤ sizeLine), fun pl npl => ?_⟩
      have m10 : Mv [] H9 (upd H9 pl (.lst [.str "bye", .str "out"])) := .new npl
      have e10 : upd H9 pl (.lst [.str "bye", .str "out"]) pl = some (.lst [.str "bye", .str "out"]) := upd_same
      have hplb : pl ≠ b := (hH6.dr d69).bag.fneq npl
      generalize upd H9 pl (.lst [.str "bye", .str "out"]) = H10 at m10 e10 ⊢
      have d610 := d69.trans (Dr.of m10)
      refine ⟨.ref b, rfl, b, 2, rfl, (hH6.dr d610).bag, by decide, by decide, fun n11 H11 n110 n112 d11 => ?_⟩
      obtain ⟨word, hw, hN⟩ : ∃ word : Str, [V.str "bye", .str "out"][n11.toNat]? = some (.str word) ∧ Nm word := by
        by_cases e0 : n11 = 0
        · subst e0
          exact ⟨"bye", rfl, by decide +kernel⟩
        · obtain rfl : n11 = 1 := by omega
          exact ⟨"out", rfl, by decide +kernel⟩
      refine rd_ixL (.inl (.inl (d11.get hplb e10))) n110 (v := .str word) hw ?_
      refine ⟨.ref p9, rfl, (by decide : 3 ≤ sizeLine), fun p12 np12 => ?_⟩
      have m12 : Mv [] H11 (upd H11 p12 (.tup [.str "end", .str word, .ref p9])) := .new np12
      refine q (.ref p12) (.fin word ts) _ ⟨⟨hN, by omega, fun t ht => (o8 t ht).1⟩, rfl⟩ (fun t ht => (o8 t ht).2) ?_ (d6.trans (d610.trans (d11.trans (.of m12))))
      exact .tup (.inl (.inl upd_same)) (.cons (.str _) (.cons (.str _) (.cons (.tup (m12.sqT (d11.mv.sqT (m10.sqT e9))) ((((i8.mv m9).mv m10).mv d11.mv).mv m12)) .nil)))
    · refine ⟨.int way, rfl, way, 1, rfl, rfl, _, rfl, ite2 (fun e2 => ?_) (fun e2 => ?_)⟩
      · -- a set
        refine ⟨.ref b, rfl, .int many, rfl, many, rfl, .of_le (by decide) (by omega) (by decide) (by omega), fun q3 nq3 => ?_⟩
        have hq3b : q3 ≠ b := hH6.bag.fneq nq3
        have d3' : Dr b H6 (upd H6 q3 (.lst (rgV 0 many))) := .new nq3
        have e3' : upd H6 q3 (.lst (rgV 0 many)) q3 = some (.lst (rgV 0 many)) := upd_same
        generalize upd H6 q3 (.lst (rgV 0 many)) = H7 at d3' e3' ⊢
        have hH7 := hH6.dr d3'
        refine ⟨b, q3, _, rfl, hH7.bag, .inl ⟨e3', hq3b⟩, by rw [rgV_length]; omega, fun pm ms H8 hms npm e8 d8 => ?_⟩
        rw [rgV_ints] at hms
        obtain ⟨ns, rfl, hns⟩ := perm_ints hms
        have hH8 := hH7.dr d8
        have hpmb : pm ≠ b := hH7.bag.fneq npm
        refine ⟨.ref b, rfl, b, 4, rfl, hH8.bag, by decide, by decide, fun n9 H9 n90 n94 d9 => ?_⟩
        refine ⟨n9, rfl, rd_slL (d9.get hpmb e8) n90 fun pA npA => ?_⟩
        walk_at "nc"
        have eA : upd H9 pA (.lst ((ns.map V.int).take n9.toNat)) pA = some (.lst ((ns.take n9.toNat).map V.int)) := by rw [upd_same, List.map_take]
        have d6A : Dr b H6 (upd H9 pA (.lst ((ns.map V.int).take n9.toNat))) := (d3'.trans (d8.trans d9)).trans (.new npA)
        generalize upd H9 pA (.lst ((ns.map V.int).take n9.toNat)) = HA at eA d6A ⊢
        have hkn : (ns.take n9.toNat).Nodup := (hns.nodup_iff.mpr (rg_nd many)).sublist (List.take_sublist _ _)
        have hki : ∀ j ∈ ns.take n9.toNat, 0 ≤ j ∧ j < many := fun j hj => rg_in j (hns.mem_iff.mp (List.mem_of_mem_take hj))
        have hkl : (ns.take n9.toNat).length ≤ 3 := by rw [List.length_take]; omega
        generalize ns.take n9.toNat = ks at eA hkn hki hkl
        refine Or.inr (Or.inr ⟨pA, ks, rfl, .inl (.inl eA), by omega, fun js pB hjp hjs npB => ?_⟩)
        have hjn : js.Nodup := hjp.nodup_iff.mpr hkn
        have hji : ∀ j ∈ js, 0 ≤ j ∧ j < many := fun j hj => hki j (hjp.mem_iff.mp hj)
        have hjl : js.length ≤ 3 := by rw [hjp.length_eq]; exact hkl
        have hHA := hH6.dr d6A
        have hpBb : pB ≠ b := hHA.bag.fneq npB
        have eB : upd HA pB (.lst (js.map V.int)) pB = some (.lst (js.map V.int)) := upd_same
        have d6B : Dr b H6 (upd HA pB (.lst (js.map V.int))) := d6A.trans (.new npB)
        generalize upd HA pB (.lst (js.map V.int)) = HB at eB d6B ⊢
        have hHB := hH6.dr d6B
        refine ⟨.ref pB, rfl, pB, rfl, Or.inl ⟨⟨_, .inl (.inl eB)⟩, fun D nD => ?_⟩⟩
        have hDb : D ≠ b := hHB.bag.fneq nD
        have hDp : pB ≠ D := ne_of_none eB nD
        refine lc_list (K := K) (a := pB) (xs := js.map V.int) (fun i HC => ∃ (vs : List V) (chs : List (Int × Tm)), HC pB = some (.lst (js.map V.int)) ∧ HC D = some (.lst vs) ∧ Ims K HC vs (chs.map chD) ∧ chs.map (·.1) = js.take i ∧ (∀ c ∈ chs, TmOver many c.2 ∧ c.2.dep ≤ 2) ∧ Dr b HB HC)
          ⟨[], [], same_new nD _ _ eB, upd_same, Ims.nil, by simp, by simp, Dr.new nD⟩ (fun i HC _ hC => ?_) (fun i x HC hx hC => ?_) (fun HC hC => ?_)
        · obtain ⟨vs, chs, eC, _⟩ := hC
          exact .inl (.inl eC)
        · obtain ⟨vs, chs, eC, eDC, iC, nC, oC, dC⟩ := hC
          rw [List.getElem?_map] at hx
          obtain ⟨j, hj, rfl⟩ := Option.map_eq_some_iff.mp hx
          have hjl' := (List.getElem?_eq_some_iff.mp hj).1
          have hHC := hHB.dr dC
          refine ⟨rfl, .int j, rfl, .ref b, rfl, .int many, rfl, b, many, rfl, hHC.bag, hm0, by omega, fun v t HE ho hdp him dE => ?_⟩
          refine ⟨(by decide : 2 ≤ sizeLine), fun pF npF => ?_⟩
          have mF : Mv [] HE (upd HE pF (.tup [.int j, v])) := .new npF
          have eF : SqT K (upd HE pF (.tup [.int j, v])) pF [.int j, v] := .inl (.inl upd_same)
          generalize upd HE pF (.tup [.int j, v]) = HF at mF eF ⊢
          have dCF : Dr b HC HF := dE.trans (.of mF)
          have eDF := dCF.get hDb eDC
          have hcl : chs.length = (js.take i).length := by
            have := congrArg List.length nC
            rwa [List.length_map] at this
          rw [List.length_take] at hcl
          refine ⟨_, eDF, ?_, vs ++ [.ref pF], chs ++ [(j, t)], ?_, upd_same, ?_, ?_, ?_, (dC.trans dCF).wr nD⟩
          · rw [iC.length, List.length_map]
            exact small1000 (by omega)
          · rw [upd_ne hDp]
            exact dCF.get hpBb eC
          · rw [List.map_append]
            refine ((iC.mv dCF.mv).append (.cons ?_ .nil)).mv (Mv.set (S := [D]) eDF (by simp))
            exact .tup eF (.cons (.int _) (.cons (him.mv mF) .nil))
          · rw [List.map_append, nC, List.take_add_one, hj]
            rfl
          · intro c hc
            rcases List.mem_append.mp hc with hc | hc
            · exact oC c hc
            · rw [List.mem_singleton.mp hc]
              exact ⟨ho, hdp⟩
        obtain ⟨vs, chs, eC, eDC, iC, nC, oC, dC⟩ := hC
        rw [List.length_map, List.take_length] at nC
        walk_at "nc"
        refine rd_tupOf (.inl (.inl eDC)) fun pE HE mE eE => ?_
        have d6E := d6B.trans (dC.trans (Dr.of mE))
        refine ⟨.ref l, rfl, goal rfl d6E fun g HF g0 g1' dF => ?_⟩
        refine ⟨(by decide : 3 ≤ sizeLine), fun pG npG => ?_⟩
        have mG : Mv [] HF (upd HF pG (.tup [.str "set", .ref pE, .int g])) := .new npG
        have hcl : chs.length = js.length := by
          have := congrArg List.length nC
          rwa [List.length_map] at this
        refine q (.ref pG) (.set chs g) _ ⟨⟨⟨by rw [nC]; exact hjn, by omega, fun c hc => ?_⟩, g0, g1'⟩, ?_⟩ (fun c hc => (oC c hc).2) ?_ (d6.trans (d6E.trans (dF.trans (.of mG))))
        · have : c.1 ∈ js := by rw [← nC]; exact List.mem_map.mpr ⟨c, hc, rfl⟩
          exact ⟨(hji _ this).1, (hji _ this).2, (oC c hc).1⟩
        · show Sta.set (srt leZ (·.1) chs) g = _
          congr 1
          refine (srt_one totZ (by rw [nC]; exact hjn) (.refl _) ?_).symm
          have : (chs.map (·.1)).Pairwise fun a b => leZ a b = true := by
            rw [nC]
            exact hjs.imp fun {a b} h => decide_eq_true h
          exact List.pairwise_map.mp this
        · exact .tup (.inl (.inl upd_same)) (.cons (.str _) (.cons (.tup (mG.sqT (dF.mv.sqT eE)) (((iC.mv mE).mv dF.mv).mv mG)) (.cons (.int _) .nil)))
      · -- an ask
        have hAR : ∀ {H' : Hp}, HandS K H' b d zs many → DGet H' d (.str z.r.nm) (some (.ref z.a)) := fun h => Or.inl ⟨_, .inr z.r.nm, .inl h.acts.at_, rfl, (h.acts.val hzs).symm⟩
        refine ⟨.ref d, rfl, .str z.r.nm, rfl, d, .ref z.a, rfl, hAR hH6, ?_⟩
        refine rd_ixT (hH6.acts.tup z hzs) (by decide) (v := .int z.r.ar) rfl ?_
        refine ⟨z.r.ar, rfl, by omega, by omega, fun D nD => ?_⟩
        refine lc_range (lo := 0) (n := z.r.ar.toNat) (fun i H8 => ∃ (vs : List V) (ts : List Tm), H8 D = some (.lst vs) ∧ Ims K H8 vs (Tm.ds ts) ∧ ts.length = i ∧ (∀ t ∈ ts, TmOver many t ∧ t.dep ≤ 2) ∧ Dr b H6 H8)
          ⟨[], [], upd_same, Ims.nil, rfl, by simp, Dr.new nD⟩ (fun i H8 hi h8 => ?_) (fun H8 h8 => ?_)
        · obtain ⟨vs, ts, e8, i8, l8, o8, d8⟩ := h8
          have hH8 := hH6.dr d8
          refine ⟨rfl, .ref b, rfl, .int many, rfl, b, many, rfl, hH8.bag, hm0, by omega, fun v t H9 ho hdp him d9 => ?_⟩
          have e9 := d9.get (hH6.bag.fneq nD) e8
          refine ⟨_, e9, ?_, vs ++ [v], ts ++ [t], upd_same, ?_, by simp [l8], ?_, (d8.trans d9).wr nD⟩
          · rw [i8.length, Tm.ds_map, List.length_map, l8]
            exact small1000 (by omega)
          · rw [show Tm.ds (ts ++ [t]) = Tm.ds ts ++ [t.d] by simp [Tm.ds_map]]
            exact ((i8.mv d9.mv).append (Ims.cons him Ims.nil)).mv (Mv.set (S := [D]) e9 (by simp))
          · intro y hy
            rcases List.mem_append.mp hy with hy | hy
            · exact o8 y hy
            · rw [List.mem_singleton.mp hy]
              exact ⟨ho, hdp⟩
        obtain ⟨vs, ts, e3, i3, l3, o3, d3'⟩ := h8
        walk_at "nc"
        refine rd_tupOf (.inl (.inl e3)) fun p4 H7 m4 e4' => ?_
        have hts : Im K H7 (.ref p4) (.tuple (Tm.ds ts)) := .tup e4' (i3.mv m4)
        have d67 := d3'.trans (Dr.of m4)
        have hH7 := hH6.dr d67
        refine ⟨Nat.zero_le _, fun lw nl => ⟨_, _, rfl, ?_⟩⟩
        have nlw6 := d67.free hH6.bag nl
        have hlwb : lw ≠ b := hH7.bag.fneq nl
        have e8 : upd H7 lw (.lst []) lw = some (.lst []) := upd_same
        have d68 : Dr b H6 (upd H7 lw (.lst [])) := d67.trans (.new nl)
        have hts8 := hts.mv (Mv.new (S := []) (o := .lst []) nl)
        generalize upd H7 lw (.lst []) = H8 at e8 d68 hts8 ⊢
        have hH8 := hH6.dr d68
        refine ⟨.ref d, rfl, .str z.r.nm, rfl, d, .ref z.a, rfl, hAR hH8, ?_⟩
        refine rd_ixT (hH8.acts.tup z hzs) (by decide) (v := .ref z.o) rfl ?_
        have hol : (z.r.outs.map (·.1)).length < 64 := by rw [List.length_map]; have := hzo.o6; omega
        refine Or.inl ⟨z.o, _, z.r.outs.map (·.1), rfl, .inl (hH8.acts.out z hzs), row_keys _, hol, fun ys2 p6 hp2 hs2 np6 => ⟨p6, rfl, ?_⟩⟩
        have hond := hH.acts.ond z hzs
        have hys2 := srt_keys totS hond hp2 (sortedS_pw ys2 hs2)
        generalize hos : srt leS (fun e : Str × Int => e.1) z.r.outs = os at hys2
        subst hys2
        have hosub : ∀ e ∈ os, e ∈ z.r.outs := fun e he => by rw [← srt_mem (le := leS) (k := fun e : Str × Int => e.1), hos]; exact he
        have hosl : os.length = z.r.outs.length := by rw [← hos, srt_len]
        have hp6b : p6 ≠ b := hH8.bag.fneq np6
        have hlp6 : lw ≠ p6 := ne_of_none e8 np6
        have e9 : upd H8 p6 (.lst ((os.map (·.1)).map V.str)) p6 = some (.lst ((os.map (·.1)).map V.str)) := upd_same
        have e89 : upd H8 p6 (.lst ((os.map (·.1)).map V.str)) lw = some (.lst []) := same_new np6 _ _ e8
        have d69 : Dr b H6 (upd H8 p6 (.lst ((os.map (·.1)).map V.str))) := d68.trans (.new np6)
        have hts9 := hts8.mv (Mv.new (S := []) (o := .lst ((os.map (·.1)).map V.str)) np6)
        generalize upd H8 p6 (.lst ((os.map (·.1)).map V.str)) = H9 at e9 e89 d69 hts9 ⊢
        refine Or.inl ⟨⟨_, .inl (.inl e9)⟩, ?_⟩
        refine for_list (K := K) (a := p6) (xs := (os.map (·.1)).map V.str) (fun j σ HA => ∃ (vs : List V) (ways : List (Str × List Int × Int)) (u8 u9 u12 : Option V), σ = [some (.ref b), some (.ref d), some (.int many), some (.int places), some (.int at_), some (.int way), some (.str z.r.nm), some (.ref l), u8, u9, some (.ref p4), some (.ref lw), u12, none] ∧ HA p6 = some (.lst ((os.map (·.1)).map V.str)) ∧ HA lw = some (.lst vs) ∧
            Ims K HA vs (ways.map wayD) ∧ ways.map (·.1) = (os.take j).map (·.1) ∧ (∀ wy ∈ ways, WayOk z.r many places wy) ∧ Im K HA (.ref p4) (.tuple (Tm.ds ts)) ∧ Dr b H6 HA)
          ⟨[], [], none, none, none, rfl, e9, e89, Ims.nil, by simp, by simp, hts9, d69⟩ (fun j σ HA _ hA => ?_) (fun j x σ HA hx hA => ?_) (fun σ HA hA => ?_)
        · obtain ⟨vs, ways, u8, u9, u12, rfl, eA, _⟩ := hA
          exact .inl (.inl eA)
        · obtain ⟨ws, ways, u8, u9, u12, rfl, eA, elA, iA, nA, kA, tA, d6A⟩ := hA
          rw [List.getElem?_map, List.getElem?_map, Option.map_map] at hx
          obtain ⟨e, he, rfl⟩ := Option.map_eq_some_iff.mp hx
          have hj := (List.getElem?_eq_some_iff.mp he).1
          have heo := hosub e (List.mem_of_getElem? he)
          have hHA := hH6.dr d6A
          refine ⟨.ref b, rfl, .int many, rfl, many, rfl, .of_le (by decide) (by omega) (by decide) (by omega), fun q8 nq8 => ?_⟩
          have hq8b : q8 ≠ b := hHA.bag.fneq nq8
          have dB : Dr b HA (upd HA q8 (.lst (rgV 0 many))) := .new nq8
          have eB : upd HA q8 (.lst (rgV 0 many)) q8 = some (.lst (rgV 0 many)) := upd_same
          generalize upd HA q8 (.lst (rgV 0 many)) = HB at dB eB ⊢
          refine ⟨b, q8, _, rfl, dB.bag hHA.bag, .inl ⟨eB, hq8b⟩, by rw [rgV_length]; omega, fun pm ms HC hms npm eC dC => ?_⟩
          rw [rgV_ints] at hms
          obtain ⟨ns, rfl, hns⟩ := perm_ints hms
          have dAC := dB.trans dC
          have hHC := hHA.dr dAC
          refine ⟨.ref d, rfl, .str z.r.nm, rfl, d, .ref z.a, rfl, hAR hHC, ?_⟩
          refine rd_ixT (hHC.acts.tup z hzs) (by decide) (v := .ref z.o) rfl ?_
          refine ⟨.str e.1, rfl, z.o, .int e.2, rfl, Or.inl ⟨_, .inr e.1, .inl (hHC.acts.out z hzs), rfl, (row_val hond heo).symm⟩, e.2, rfl, ?_⟩
          have he0 := (hzo.on e heo).2.1
          have hem := hzm e heo
          refine rd_slL eC he0 fun p10 np10 => ?_
          walk_at "nc"
          have eD : upd HC p10 (.lst ((ns.map V.int).take e.2.toNat)) p10 = some (.lst ((ns.take e.2.toNat).map V.int)) := by rw [upd_same, List.map_take]
          have dAD : Dr b HA (upd HC p10 (.lst ((ns.map V.int).take e.2.toNat))) := dAC.trans (.new np10)
          generalize upd HC p10 (.lst ((ns.map V.int).take e.2.toNat)) = HD at eD dAD ⊢
          refine rd_tupOf (.inl (.inl eD)) fun p11 HE mE eE => ?_
          have dAE := dAD.trans (Dr.of mE)
          have hHE := hHA.dr dAE
          have elE := dAE.get hlwb elA
          refine ⟨.ref lw, rfl, .inl ⟨rfl, _, .inl (.inl elE)⟩, .str e.1, rfl, .ref p11, rfl, ?_⟩
          refine ⟨.ref l, rfl, goal rfl (d6A.trans dAE) fun g HF g0 g1' dF => ?_⟩
          refine ⟨(by decide : 3 ≤ sizeLine), fun p13 np13 => ?_⟩
          have dAG : Dr b HA (upd HF p13 (.tup [.str e.1, .ref p11, .int g])) := (dAE.trans dF).trans (.new np13)
          have eG : SqT K (upd HF p13 (.tup [.str e.1, .ref p11, .int g])) p13 [.str e.1, .ref p11, .int g] := .inl (.inl upd_same)
          have e1113 := (dF.trans (Dr.new (o := .tup [.str e.1, .ref p11, .int g]) np13)).mv.sqT eE
          generalize upd HF p13 (.tup [.str e.1, .ref p11, .int g]) = HG at dAG eG e1113 ⊢
          have elG := dAG.get hlwb elA
          have hwl : ways.length = (os.take j).length := by
            have := congrArg List.length nA
            rwa [List.length_map, List.length_map] at this
          rw [List.length_take] at hwl
          have ho6 := hzo.o6
          refine ⟨lw, _, _, rfl, rfl, elG, ?_, ?_⟩
          · rw [iA.length, List.length_map]
            exact small1000 (by omega)
          have hw : Mv [lw] HG (upd HG lw (.lst (ws ++ [.ref p13]))) := .set elG (by simp)
          have hnl : ns.length = many.toNat := by
            have := hns.length_eq
            simpa using this
          refine ⟨ws ++ [.ref p13], ways ++ [(e.1, ns.take e.2.toNat, g)], _, _, _, rfl, ?_, upd_same, ?_, ?_, ?_, (tA.mv dAG.mv).mv hw, (d6A.trans dAG).wr nlw6⟩
          · rw [upd_ne hlp6.symm]
            exact dAG.get hp6b eA
          · rw [List.map_append]
            refine ((iA.mv dAG.mv).append (.cons ?_ .nil)).mv hw
            exact .tup eG (.cons (.str _) (.cons (.tup e1113 (.ofInts _)) (.cons (.int _) .nil)))
          · rw [List.map_append, nA, List.take_add_one, he, List.map_append]
            rfl
          · intro wy hwy
            rcases List.mem_append.mp hwy with hwy | hwy
            · exact kA wy hwy
            · rw [List.mem_singleton] at hwy
              subst hwy
              refine ⟨e.2, heo, ?_, ?_, fun j hj => ?_, g0, g1'⟩
              · show ((ns.take e.2.toNat).length : Int) = e.2
                rw [List.length_take, hnl]
                omega
              · exact (hns.nodup_iff.mpr (rg_nd many)).sublist (List.take_sublist _ _)
              · exact rg_in j (hns.mem_iff.mp (List.mem_of_mem_take hj))
        · obtain ⟨ws, ways, u8, u9, u12, rfl, eA, elA, iA, nA, kA, tA, d6A⟩ := hA
          rw [show ((os.map (·.1)).map V.str).length = os.length by simp, List.take_length] at nA
          refine ⟨.str z.r.nm, rfl, .ref p4, rfl, .ref lw, rfl, ?_⟩
          walk_at "nc"
          refine rd_tupOf (.inl (.inl elA)) fun p8 HB mB eB => ?_
          refine ⟨(by decide : 4 ≤ sizeLine), fun p9 np9 => ?_⟩
          have m9 : Mv [] HB (upd HB p9 (.tup [.str "ask", .str z.r.nm, .ref p4, .ref p8])) := .new np9
          refine q (.ref p9) (.ask z.r.nm ts ways) _ ⟨⟨z.r, hzr, rfl, by omega, fun t ht => (o3 t ht).1, ?_, kA⟩, ask_ord hond (by rw [nA, hos])⟩ (fun t ht => (o3 t ht).2) ?_ (d6.trans (d6A.trans (.of (mB.trans m9))))
          · rw [nA, ← hos]
            exact (srt_perm _).map _
          · exact .tup (.inl (.inl upd_same)) (.cons (.str _) (.cons (.str _) (.cons (tA.mv (mB.trans m9)) (.cons (.tup (m9.sqT eB) (iA.mv (mB.trans m9))) .nil))))
end
end Fm
namespace Fm
open PySem PySem.Spec PyProof.Rows L2 SlX
local macro_rules | `(tactic| walk_at "nn") => `(tactic| dsimp only [tC, tNil, tCons, tCB, tCall, gName, tSeq, tAsg, tPar, tDrop, tRet])
local macro_rules | `(tactic| walk_at "nc") => `(tactic| dsimp only [tC, tNil, tCons, tCB, tCall])
def codeKv (d l : Addr) (many given : Int) : List (L2.Key × V) := [(.inr "acts", .ref d), (.inr "many", .int many), (.inr "given", .int given), (.inr "rows", .ref l)]
theorem codeKv_nd (d l : Addr) (many given : Int) : ((codeKv d l many given).map (·.1)).Nodup := (show ([.inr "acts", .inr "many", .inr "given", .inr "rows"] : List L2.Key).Nodup by decide +kernel)
theorem code_merge (d l : Addr) (many given : Int) : mergeK [] (codeKv d l many given) = codeKv d l many given := (mergeK_nd (codeKv d l many given) [] (codeKv_nd d l many given)).trans (List.nil_append _)
theorem code_rows (d l : Addr) (many given : Int) : valV (codeKv d l many given) (.inr "rows") = some (.ref l) := valV_mem (codeKv_nd d l many given) (by simp [codeKv])
theorem code_many (d l : Addr) (many given : Int) : valV (codeKv d l many given) (.inr "many") = some (.int many) := valV_mem (codeKv_nd d l many given) (by simp [codeKv])
theorem code_given (d l : Addr) (many given : Int) : valV (codeKv d l many given) (.inr "given") = some (.int given) := valV_mem (codeKv_nd d l many given) (by simp [codeKv])
def LCode (K : PySem.W.Frag) (H : Hp) (c d : Addr) (many given : Int) (sts : List Sta) : Prop := ∃ l vs, H c = some (.dK (codeKv d l many given)) ∧ H l = some (.lst vs) ∧ Rws K H vs sts
def LCodeL (K : PySem.W.Frag) (H : Hp) (c d l : Addr) (many given : Int) (sts : List Sta) : Prop := ∃ vs, H c = some (.dK (codeKv d l many given)) ∧ H l = some (.lst vs) ∧ Rws K H vs sts
theorem LCodeL.at_ {K : PySem.W.Frag} {H : Hp} {c d l : Addr} {many given : Int} {sts : List Sta} : LCodeL K H c d l many given sts → LCode K H c d many given sts := fun ⟨vs, h⟩ => ⟨l, vs, h⟩
theorem LCodeL.dr {K : PySem.W.Frag} {H H' : Hp} {b c d l : Addr} {many given : Int} {sts : List Sta} (h : LCodeL K H c d l many given sts) (m : Dr b H H') (hB : Bag H b) : LCodeL K H' c d l many given sts := by
  obtain ⟨vs, h1, h2, h3⟩ := h
  exact ⟨vs, m.getK hB h1 (fun _ z => by cases z), m.get (hB.ne_sta h2 h3.1) h2, h3.dr m hB⟩
theorem LCodeL.put {K : PySem.W.Frag} {H : Hp} {c d l p : Addr} {o : HO} {zs : List V} {many given : Int} {sts : List Sta} (h : LCodeL K H c d l many given sts) (hp : H p = some (.lst zs)) (hl : l ≠ p) : LCodeL K (upd H p o) c d l many given sts := by
  obtain ⟨vs, h1, h2, h3⟩ := h
  exact ⟨vs, by rw [upd_ne (by rintro rfl; rw [hp] at h1; cases h1)]; exact h1, by rw [upd_ne hl]; exact h2, h3.mv (Mv.set (S := [p]) hp (by simp)) (no_frz hp (fun _ _ z => by cases z))⟩
theorem LCode.mv {K : PySem.W.Frag} {H H' : Hp} {c d : Addr} {many given : Int} {sts : List Sta} (h : LCode K H c d many given sts) (m : Mv [] H H') : LCode K H' c d many given sts := by
  obtain ⟨l, vs, h1, h2, h3⟩ := h
  exact ⟨l, vs, m.same _ _ h1, m.same _ _ h2, h3.mv0 m⟩
theorem LCode.dr {K : PySem.W.Frag} {H H' : Hp} {b c d : Addr} {many given : Int} {sts : List Sta} (h : LCode K H c d many given sts) (m : Dr b H H') (hB : Bag H b) : LCode K H' c d many given sts := by
  obtain ⟨l, vs, h1, h2, h3⟩ := h
  exact ⟨l, vs, m.getK hB h1 (fun _ z => by cases z), m.get (hB.ne_sta h2 h3.1) h2, h3.dr m hB⟩
def sp_code (K : PySem.W.Frag) : Sp := fun vs H Q _ => ∃ (b d : Addr) (zs : List ActA) (places many : Int), vs = [.ref b, .ref d, .int places, .int many] ∧ Bag H b ∧ ActsAt K H d zs ∧ DrawnActs many (zs.map (·.r)) ∧ 0 < places ∧ places ≤ 1000 ∧ 0 ≤ many ∧ many ≤ 100 ∧
  ∀ c given (sts : List Sta) H', LCode K H' c d many given sts → H c = none → sts.length = places.toNat → (∀ st ∈ sts, st.raw (zs.map (·.r)) many places) → 0 ≤ given → given ≤ many → Dr b H H' → Q (.ref c) H'
section
variable {P : Program} {w : World} {K : PySem.W.Frag} {mg : Str → Option Value} {base : Heap}
end
end Fm
namespace Fm
open PySem PySem.Spec PyProof.Rows L2 SlX
local macro_rules | `(tactic| walk_at "nn") => `(tactic| dsimp only [tC, tNil, tCons, tCB, tCall, gName, tSeq, tAsg, tPar, tDrop, tRet])
local macro_rules | `(tactic| walk_at "nc") => `(tactic| dsimp only [tC, tNil, tCons, tCB, tCall])
def LCd (K : PySem.W.Frag) (H : Hp) (c d : Addr) (many given : Int) (sts : List Sta) : Prop := ∃ l vs, H c = some (.dK (codeKv d l many given)) ∧ H l = some (.lst vs) ∧ Ims K H vs (sts.map Sta.d)
theorem LCd.mv {K : PySem.W.Frag} {H H' : Hp} {c d : Addr} {many given : Int} {sts : List Sta} (h : LCd K H c d many given sts) (m : Mv [] H H') : LCd K H' c d many given sts := by
  obtain ⟨l, vs, h1, h2, h3⟩ := h
  exact ⟨l, vs, m.same _ _ h1, m.same _ _ h2, h3.mv m⟩
theorem LCd.dr {K : PySem.W.Frag} {H H' : Hp} {b c d : Addr} {many given : Int} {sts : List Sta} (h : LCd K H c d many given sts) (m : Dr b H H') (hB : Bag H b) : LCd K H' c d many given sts := by
  obtain ⟨l, vs, h1, h2, h3⟩ := h
  exact ⟨l, vs, m.getK hB h1 (fun _ z => by cases z), m.get (hB.ne_sta h2 h3) h2, h3.mv m.mv⟩
def richW (ar : Int) (told : List (Str × Int)) : List ActR := [⟨"check", 0, [("bad", 0), ("ok", 0)]⟩, ⟨"go", ar, told⟩, ⟨"see", ar, told⟩]
def toldA : List (Str × Int) := [("no", 0), ("yes", 1)]
def toldB (many : Int) : List (Str × Int) := [("no", 0), ("two", many), ("yes", 1)]
def toldIn (many : Int) (told : List (Str × Int)) : Prop := told = toldA ∨ told = toldB many
structure RichOk (many given ar : Int) (told : List (Str × Int)) (sts : List Sta) : Prop where
  to : toldIn many told
  a0 : 1 ≤ ar
  a1 : ar ≤ 2
  m0 : 0 < many
  m1 : many ≤ 2
  g0 : 0 ≤ given
  g1 : given ≤ many
  l0 : 0 < sts.length
  l1 : sts.length ≤ 4
  st : ∀ st ∈ sts, st.rw (richW ar told) many sts.length ∧ st.dp 2
theorem told_nd {many : Int} {told : List (Str × Int)} (h : toldIn many told) : (told.map (·.1)).Nodup := by
  rcases h with rfl | rfl
  · exact (show ([Str.ofString "no", Str.ofString "yes"] : List Str).Nodup by decide +kernel)
  · exact (show ([Str.ofString "no", Str.ofString "two", Str.ofString "yes"] : List Str).Nodup by decide +kernel)
theorem told_nm {many : Int} {told : List (Str × Int)} (m0 : 0 < many) (m1 : many ≤ 2) (h : toldIn many told) : 1 ≤ told.length ∧ told.length ≤ 3 ∧ ∀ e ∈ told, Nm e.1 ∧ 0 ≤ e.2 ∧ e.2 ≤ many := by
  have n1 : Nm "no" := by decide +kernel
  have n2 : Nm "two" := by decide +kernel
  have n3 : Nm "yes" := by decide +kernel
  rcases h with rfl | rfl
  · refine ⟨by simp [toldA], by simp [toldA], fun e he => ?_⟩
    simp only [toldA, List.mem_cons, List.not_mem_nil, or_false] at he
    rcases he with rfl | rfl
    · exact ⟨n1, by decide, by show (0 : Int) ≤ many; omega⟩
    · exact ⟨n3, by decide, by show (1 : Int) ≤ many; omega⟩
  · refine ⟨by simp [toldB], by simp [toldB], fun e he => ?_⟩
    simp only [toldB, List.mem_cons, List.not_mem_nil, or_false] at he
    rcases he with rfl | rfl | rfl
    · exact ⟨n1, by decide, by show (0 : Int) ≤ many; omega⟩
    · exact ⟨n2, by show (0 : Int) ≤ many; omega, Int.le_refl _⟩
    · exact ⟨n3, by decide, by show (1 : Int) ≤ many; omega⟩
theorem rich_ok {many ar : Int} {told : List (Str × Int)} (a0 : 1 ≤ ar) (a1 : ar ≤ 2) (m0 : 0 < many) (m1 : many ≤ 2) (h : toldIn many told) : ∀ r ∈ richW ar told, r.ok ∧ (r.outs.map (·.1)).Nodup ∧ r.outs.length ≤ 3 ∧ (∀ e ∈ r.outs, Nm e.1 ∧ e.2 ≤ many) := by
  obtain ⟨t1, t2, t3⟩ := told_nm m0 m1 h
  have nb : Nm "bad" := by decide +kernel
  have nk : Nm "ok" := by decide +kernel
  have like : ∀ nm : Str, Nm nm → (⟨nm, ar, told⟩ : ActR).ok := fun nm hn => ⟨hn, by show 0 ≤ ar; omega, a1, t1, by show told.length ≤ 6; omega, fun e he => ⟨on_nm (t3 e he).1, (t3 e he).2.1, by have := (t3 e he).2.2; omega⟩⟩
  intro r hr
  simp only [richW, List.mem_cons, List.not_mem_nil, or_false] at hr
  rcases hr with rfl | rfl | rfl
  · refine ⟨⟨by decide +kernel, by decide, by decide, by simp, by simp, fun e he => ?_⟩, (show ([Str.ofString "bad", Str.ofString "ok"] : List Str).Nodup by decide +kernel), by simp, fun e he => ?_⟩
    · simp only [List.mem_cons, List.not_mem_nil, or_false] at he
      rcases he with rfl | rfl
      · exact ⟨on_nm nb, by decide, by decide⟩
      · exact ⟨on_nm nk, by decide, by decide⟩
    · simp only [List.mem_cons, List.not_mem_nil, or_false] at he
      rcases he with rfl | rfl
      · exact ⟨nb, by show (0 : Int) ≤ many; omega⟩
      · exact ⟨nk, by show (0 : Int) ≤ many; omega⟩
  · exact ⟨like _ (by decide +kernel), told_nd h, t2, fun e he => ⟨(t3 e he).1, (t3 e he).2.2⟩⟩
  · exact ⟨like _ (by decide +kernel), told_nd h, t2, fun e he => ⟨(t3 e he).1, (t3 e he).2.2⟩⟩
def sp_rich (K : PySem.W.Frag) : Sp := fun vs H Q _ => ∃ (b : Addr) (many : Int), vs = [.ref b, .int many] ∧ Bag H b ∧ 0 < many ∧ many ≤ 2 ∧
  ∀ c d zs given ar told (sts : List Sta) H', LCd K H' c d many given sts → ActsAt K H' d zs → zs.map (·.r) = richW ar told → RichOk many given ar told sts → H c = none → d ≠ c → (∀ z ∈ zs, z.o ≠ c) → Dr b H H' → Q (.ref c) H'
section
variable {P : Program} {w : World} {K : PySem.W.Frag} {mg : Str → Option Value} {base : Heap}
end
end Fm
namespace Fm
open PySem PySem.Spec PyProof.Rows L2 SlX
local macro_rules | `(tactic| walk_at "nn") => `(tactic| dsimp only [tC, tNil, tCons, tCB, tCall, gName, tSeq, tAsg, tPar, tDrop, tRet])
local macro_rules | `(tactic| walk_at "nc") => `(tactic| dsimp only [tC, tNil, tCons, tCB, tCall])
def halfW (un : Bool) (a m : Int) (ways : List (Str × List Int × Int)) : List (Str × List Int × Int) := (ways.map fun w => (w.1, w.2.1, a + w.2.2) :: if un = true then [(dash w.1, w.2.1, m + w.2.2)] else []).flatten
def fstTx (H : Hp) : V → Str
  | .ref t => match H t with
    | some (.tup (.str s :: _)) => s
    | _ => ""
  | _ => ""
def halfR (pr : List (Str × Str)) (a m : Int) : Sta → Sta
  | .set chs g => .set chs (a + g)
  | .ask act ts ways => .ask act ts (srt leS (·.1) (halfW (!(prGet pr act).isSome) a m ways))
  | .fin word ts => .fin word ts
def halfS (pr : List (Str × Str)) (m : Int) (stands : Bool) (st : Sta) : Sta := if stands = true then halfR pr 0 m (relS pr st) else halfR pr m m st
def Thin (st : Sta) : Prop := ∀ act ts ways, st = .ask act ts ways → ways.length ≤ 6 ∧ (ways.map (·.1)).Nodup ∧ ∀ w ∈ ways, w.1.length ≤ 9 ∧ dashed w.1 = false
def sp_lrelied (K : PySem.W.Frag) : Sp := fun vs H Q _ => ∃ (v : V) (d : Addr) (pr : List (Str × Str)) (st : Sta), vs = [v, .ref d] ∧ Im K H v st.d ∧ PrAt H d pr ∧ PrFits pr st ∧ Thin st ∧ ∀ v' H', Mv [] H H' → Im K H' v' (relS pr st).d → Q v' H'
def sp_lhalf (K : PySem.W.Frag) : Sp := fun vs H Q _ => ∃ (v : V) (d : Addr) (m : Int) (stands : Bool) (pr : List (Str × Str)) (st : Sta), vs = [v, .ref d, .int m, .bl stands] ∧ Im K H v st.d ∧ PrAt H d pr ∧ PrFits pr st ∧ Thin st ∧ 0 ≤ m ∧ m ≤ 1000 ∧ ∀ v' H', Mv [] H H' → Im K H' v' (halfS pr m stands st).d → Q v' H'
section
variable {P : Program} {w : World} {K : PySem.W.Frag} {mg : Str → Option Value} {base : Heap}
end
end Fm
namespace Fm
open PySem PySem.Spec PyProof.Rows L2 SlX
local macro_rules | `(tactic| walk_at "nn") => `(tactic| dsimp only [tC, tNil, tCons, tCB, tCall, gName, tSeq, tAsg, tPar, tDrop, tRet])
local macro_rules | `(tactic| walk_at "nc") => `(tactic| dsimp only [tC, tNil, tCons, tCB, tCall])
theorem Mv.join {H H1 H2 : Hp} {D : Addr} (m1 : Mv [] H H1) (m2 : Mv [D] H1 H2) (hD : H D = none) : Mv [] H H2 := by
  refine ⟨fun a xs r => m2.tk a xs (m1.tk a xs r), fun a o _ e => m2.keep a o ?_ (m1.same _ _ e)⟩
  rw [List.mem_singleton]
  rintro rfl
  rw [hD] at e
  cases e
theorem code_acts (d l : Addr) (many given : Int) : valV (codeKv d l many given) (.inr "acts") = some (.ref d) := valV_mem (codeKv_nd d l many given) (by simp [codeKv])
theorem LCd.get {K : PySem.W.Frag} {H H' : Hp} {c : Addr} {d l : Addr} {many given : Int} (hc : H c = some (.dK (codeKv d l many given))) (m : Mv [] H H') {f : Str} {v : V} (e : valV (codeKv d l many given) (.inr f) = some v) : DGet H' c (.str f) (some v) := Or.inl ⟨_, .inr f, .inl (m.same _ _ hc), rfl, e.symm⟩
def lawS (pr : List (Str × Str)) (sts : List Sta) : List Sta := sts.map (halfS pr sts.length true) ++ sts.map (halfS pr sts.length false)
def sp_ldoubled (K : PySem.W.Frag) : Sp := fun vs H Q _ => ∃ (c d dp : Addr) (zs : List ActA) (pr : List (Str × Str)) (many given : Int) (sts : List Sta), vs = [.ref c, .ref dp] ∧ LCd K H c d many given sts ∧ ActsAt K H d zs ∧ PrAt H dp pr ∧ (∀ st ∈ sts, PrFits pr st ∧ Thin st) ∧ sts.length ≤ 100 ∧ 0 < zs.length ∧ zs.length ≤ 50 ∧
  (∀ z ∈ zs, 0 < z.r.outs.length ∧ z.r.outs.length ≤ 6 ∧ ∀ e ∈ z.r.outs, e.1.length ≤ 9 ∧ dashed e.1 = false) ∧ ∀ c' d' zs' H', Mv [] H H' → LCd K H' c' d' many given (lawS pr sts) → ActsAt K H' d' zs' → zs'.map (·.r) = (zs.map (·.r)).map (dblR pr) → Q (.ref c') H'
section
variable {P : Program} {w : World} {K : PySem.W.Frag} {mg : Str → Option Value} {base : Heap}
end
end Fm
namespace Fm
open PySem PySem.Spec PyProof.Rows L2 SlX
local macro_rules | `(tactic| walk_at "nn") => `(tactic| dsimp only [tC, tNil, tCons, tCB, tCall, gName, tSeq, tAsg, tPar, tDrop, tRet])
local macro_rules | `(tactic| walk_at "nc") => `(tactic| dsimp only [tC, tNil, tCons, tCB, tCall])
def dist82 : Nat → List Int → Nat
  | 0, _ => 0
  | n + 1, F => dist82 n F + if ((n : Nat) : Int) ∈ F then 1 else 0
theorem dist_le82 : ∀ (n : Nat) (F : List Int), dist82 n F ≤ n
  | 0, _ => Nat.le_refl _
  | n + 1, F => by
    have := dist_le82 n F
    unfold dist82
    split <;> omega
theorem dist_mono82 : ∀ (n : Nat) {F F' : List Int}, (∀ x ∈ F, x ∈ F') → dist82 n F ≤ dist82 n F'
  | 0, _, _, _ => Nat.le_refl _
  | n + 1, F, F', h => by
    have := dist_mono82 n h
    unfold dist82
    by_cases h1 : ((n : Nat) : Int) ∈ F
    · rw [if_pos h1, if_pos (h _ h1)]
      omega
    · rw [if_neg h1]
      split <;> omega
theorem dist_lt82 : ∀ (n : Nat) {F F' : List Int}, (∀ x ∈ F, x ∈ F') → ∀ {y : Int}, 0 ≤ y → y < n → y ∉ F → y ∈ F' → dist82 n F < dist82 n F'
  | 0, _, _, _, y, h0, h1, _, _ => by omega
  | n + 1, F, F', h, y, h0, h1, hF, hF' => by
    unfold dist82
    by_cases e : y = (n : Nat)
    · subst e
      have := dist_mono82 n h
      rw [if_neg hF, if_pos hF']
      omega
    · have := dist_lt82 n h h0 (by omega) hF hF'
      by_cases h1 : ((n : Nat) : Int) ∈ F
      · rw [if_pos h1, if_pos (h _ h1)]
        omega
      · rw [if_neg h1]
        split <;> omega
def newOnes (F E : List Int) : List Int := E.filter fun y => !decide (y ∈ F)
theorem dist_ext82 {n W : Nat} {F E : List Int} (hE : E.length ≤ W) (hin : ∀ y ∈ E, 0 ≤ y ∧ y < n) (h : F.length ≤ W * (1 + dist82 n F)) : (F ++ newOnes F E).length ≤ W * (1 + dist82 n (F ++ newOnes F E)) := by
  cases hc : newOnes F E with
  | nil => rw [List.append_nil]; exact h
  | cons y ys =>
    have hy : y ∈ newOnes F E := by rw [hc]; exact List.mem_cons_self
    rw [← hc]
    have hyE := (List.mem_filter.mp hy).1
    have hyF : y ∉ F := by simpa using (List.mem_filter.mp hy).2
    have := dist_lt82 n (F := F) (F' := F ++ newOnes F E) (fun x hx => List.mem_append_left _ hx) (hin y hyE).1 (hin y hyE).2 hyF (List.mem_append_right _ hy)
    have hl : (newOnes F E).length ≤ W := Nat.le_trans (List.length_filter_le _ _) hE
    rw [List.length_append]
    have h2 : W * (1 + dist82 n F) + W ≤ W * (1 + dist82 n (F ++ newOnes F E)) := by
      rw [show W * (1 + dist82 n F) + W = W * (1 + dist82 n F + 1) by rw [Nat.mul_add W (1 + dist82 n F) 1, Nat.mul_one]]
      exact Nat.mul_le_mul_left W (by omega)
    omega
structure Rnd1 (sts : List Sta) (n W j : Nat) (F F' : List Int) : Prop where
  a : ∀ x ∈ F, x ∈ F'
  b : ∀ x ∈ F.take j, ∀ y ∈ gosAt sts x, y ∈ F'
  c : ∀ y ∈ F', y ∈ F ∨ ∃ x ∈ F, y ∈ gosAt sts x
  d : F'.length ≤ W * (1 + dist82 n F')
theorem Rnd1.step {sts : List Sta} {n W j : Nat} {F F' : List Int} {x : Int} (h : Rnd1 sts n W j F F') (hx : F[j]? = some x) (hl : (gosAt sts x).length ≤ W) (hin : ∀ y ∈ gosAt sts x, 0 ≤ y ∧ y < n) : Rnd1 sts n W (j + 1) F (F' ++ newOnes F' (gosAt sts x)) := by
  have hxF := List.mem_of_getElem? hx
  refine ⟨fun y hy => List.mem_append_left _ (h.a y hy), fun z hz y hy => ?_, fun y hy => ?_, dist_ext82 hl hin h.d⟩
  · rw [List.take_add_one, hx] at hz
    rcases List.mem_append.mp hz with hz | hz
    · exact List.mem_append_left _ (h.b z hz y hy)
    · have e : z = x := by simpa using hz
      subst e
      by_cases hF : y ∈ F'
      · exact List.mem_append_left _ hF
      · exact List.mem_append_right _ (List.mem_filter.mpr ⟨hy, by simpa using hF⟩)
  · rcases List.mem_append.mp hy with hy | hy
    · exact h.c y hy
    · exact .inr ⟨x, hxF, (List.mem_filter.mp hy).1⟩
def sp_behind82 (K : PySem.W.Frag) : Sp := fun vs H Q _ => ∃ (c d : Addr) (many given : Int) (sts : List Sta) (p : Int), vs = [.ref c, .int p] ∧ LCd K H c d many given sts ∧ GoIn sts ∧ (∀ st ∈ sts, (gosS st).length ≤ 10) ∧ sts.length ≤ 30 ∧ 0 ≤ p ∧ p < sts.length ∧
  ∀ (q : Addr) (L : List Int) H', H q = none → Mv [] H H' → H' q = some (.lst (L.map V.int)) → L.Pairwise (· < ·) → (∀ x, x ∈ L ↔ Rch sts p x) → Q (.ref q) H'
section
variable {P : Program} {w : World} {K : PySem.W.Frag} {mg : Str → Option Value} {base : Heap}
theorem ok__law_behind_place82 (T : TX K mg) {k : Nat} : FnOk P w K mg base CX0 (k + 2) T.d__law_behind_place.f T.d__law_behind_place.fd P__law_behind_place (sp_behind82 K) := by
  have G__law_ways : FnOk P w K mg base CX0 1 T.d__law_ways.f T.d__law_ways.fd P__law_ways (sp_waysS K) := ok__law_ways82 (k := 0) T
  refine T.d__law_behind_place.F.ok sc__law_behind_place (fun vs H Q E h => ?_) (fun cdv A outer s H vs Q E hr h => ?_)
  · obtain ⟨_, _, _, _, _, _, rfl, _⟩ := h
    rfl
  · obtain ⟨c, d, many, given, sts, p, rfl, hC, hg, hgl, hl30, p0, p1, q⟩ := h
    have hu1 := hu1_of hr
    have hu64 := hr.units
    have hu65 := hu65_of hr
    refine ⟨_, (pss_cons (ps_set (i := 2) sc__law_behind_place.nd rfl (Or.inr rfl) (pe_call G__law_ways (hr.mono (by omega)) rfl T.d__law_ways.g T.d__law_ways.F.kp T.d__law_ways.b .nil pass0 (pa_cons (pe_ix (r := rIx K) ix_seq (pe_dget hu1 (pv 0) pe_str (fun _ _ => rfl)) (pv 1) (fun _ _ => rfl)) pa_nil))) (pss_cons (ps_for PassesOwn.never rfl (pi_range1 (by rfl) T.b_range (pa_cons (pe_callB (r := rLenG K) call_lenG (by rfl) T.b_len bt_len (pa_cons (pe_dget hu1 (pv 0) pe_str (fun _ _ => rfl)) pa_nil)) pa_nil)) (pg_name (i := 3) sc__law_behind_place.nd rfl (Or.inl rfl)) (pss_one (ps_for PassesOwn.never rfl (pi_seq (pe_callTy (r := rListG K) (call_listA rfl) (by rfl) T.b_list bt_list (pa_cons (pv 2) pa_nil))) (pg_name (i := 4) sc__law_behind_place.nd rfl (Or.inl rfl)) (pss_one (ps_expr (pe_bm PySem.F.plainAttrs_list PySem.F.slot_list_extend PySem.F.type_list_extend (r := rExtG K) mt_extendG (pv 2) (pa_cons (pe_lc (own := [("_law_to", 5)]) (g := gName 5) (by rfl) sc__law_behind_place.nd (pi_seq (pe_call G__law_ways (hr.mono (by omega)) rfl T.d__law_ways.g T.d__law_ways.F.kp T.d__law_ways.b .nil pass0 (pa_cons (pe_ix (r := rIx K) ix_seq (pe_dget hu1 (pv 0) pe_str (fun _ _ => rfl)) (pv 4) (fun _ _ => rfl)) pa_nil))) (blkOk_by (own := [("_law_to", 5)]) (N := N__law_behind_place) (sc := defScope s__law_behind_place) (by decide +kernel)) (fun _ _ _ _ _ => pg_name (i := 5) sc__law_behind_place.nd rfl (Or.inl rfl)) (fun _ _ _ _ _ => (pts_one (pt_cmpR (r := rNotInG K) (op_notInG hu65) (pv 5) (pv 2) rfl))) (fun _ _ _ _ _ => (pv 5))) pa_nil))))))) (pss_one (ps_ret (pe_callB (r := rSortedSet w) (cr_sortedSet rfl) (by rfl) T.b_sorted bt_sorted (pa_cons (pe_callTy (cr_setG rfl) (by rfl) T.b_set bt_set (pa_cons (pv 2) pa_nil)) pa_nil)))))), ?_⟩
    obtain ⟨l, vs, ec, el, iv⟩ := id hC
    have hvl : vs.length = sts.length := by rw [iv.length, List.length_map]
    have ways : ∀ {x : Int} {H' : Hp}, 0 ≤ x → x < sts.length → Mv [] H H' → ∃ v st, sts[x.toNat]? = some st ∧ vs[x.toNat]? = some v ∧ Im K H' v st.d ∧ gosAt sts x = gosS st ∧ (gosS st).length ≤ 10 := by
      intro x H' x0 x1 m
      obtain ⟨v, hv⟩ : ∃ v, vs[x.toNat]? = some v := ⟨_, List.getElem?_eq_getElem (by omega)⟩
      obtain ⟨dd, hd, him⟩ := iv.get hv
      rw [List.getElem?_map] at hd
      obtain ⟨st, hst, rfl⟩ := Option.map_eq_some_iff.mp hd
      exact ⟨v, st, hst, hv, him.mv m, by unfold gosAt; rw [hst], hgl st (List.mem_of_getElem? hst)⟩
    obtain ⟨v0, st0, hst0, hv0, i0, hga0, hgl0⟩ := ways p0 p1 .refl
    refine ⟨.ref c, rfl, c, .ref l, rfl, LCd.get (K := K) ec .refl (code_rows d l many given), .int p, rfl, rd_ixL (.inl (.inl el)) p0 hv0 ?_⟩
    refine ⟨v0, st0, rfl, i0, by omega, fun pf H1 nf m1 ef => ?_⟩
    rw [← hga0] at ef
    have hin : ∀ {x y : Int}, y ∈ gosAt sts x → 0 ≤ y ∧ y < sts.length := fun h => hg.at h
    refine ⟨.ref c, rfl, c, .ref l, rfl, LCd.get (K := K) ec m1 (code_rows d l many given), Or.inl ⟨l, vs, rfl, .inl (.inl (.inl (m1.same _ _ el))), ?_⟩⟩
    rw [hvl]
    refine ⟨(sts.length : Nat), rfl, by omega, by omega, ?_⟩
    have bound : ∀ {F : List Int}, F.length ≤ 10 * (1 + dist82 sts.length F) → F.length ≤ 310 := fun {F} h => by
      have := dist_le82 sts.length F
      have := Nat.mul_le_mul_left 10 (show 1 + dist82 sts.length F ≤ 31 by omega)
      omega
    refine for_range (lo := 0) (n := ((sts.length : Nat) : Int).toNat) (fun i σ H2 => ∃ (F : List Int) (y3 y4 : Option V), σ = [some (.ref c), some (.int p), some (.ref pf), y3, y4, none] ∧ H2 pf = some (.lst (F.map V.int)) ∧ Rnd sts p i F ∧ F.length ≤ 10 * (1 + dist82 sts.length F) ∧ Mv [] H H2)
      ⟨gosAt sts p, _, _, rfl, ef, rnd_start sts p, by rw [hga0]; omega, m1⟩ (fun i σ H2 hi h2 => ?_) (fun σ H2 h2 => ?_)
    · obtain ⟨F, y3, y4, rfl, ef2, hR, hD, m2⟩ := h2
      have hFin : ∀ {x : Int}, x ∈ F → 0 ≤ x ∧ x < sts.length := fun h => (hR.1 _ h).in_ hg
      refine ⟨.ref pf, rfl, Or.inl (rd_listOf (.inl (.inl (.inl ef2))) fun pl H3 nl m3 el3 => ⟨pl, rfl, ?_⟩)⟩
      have hlf : pl ≠ pf := fun e => by rw [e, ef2] at nl; cases nl
      refine .inl ⟨⟨_, .inl (.inl el3)⟩, for_list (K := K) (a := pl) (xs := F.map V.int) (fun j σ H4 => ∃ (F' : List Int) (y4 : Option V), σ = [some (.ref c), some (.int p), some (.ref pf), some (.int (0 + (i : Int))), y4, none] ∧ H4 pf = some (.lst (F'.map V.int)) ∧ H4 pl = some (.lst (F.map V.int)) ∧ Rnd1 sts sts.length 10 j F F' ∧ Mv [] H H4)
        ⟨F, _, rfl, m3.same _ _ ef2, el3, ⟨fun _ h => h, fun x hx => by simp at hx, fun y hy => .inl hy, hD⟩, m2.trans m3⟩ (fun j σ H4 _ h4 => ?_) (fun j z σ H4 hz h4 => ?_) (fun σ H4 h4 => ?_)⟩
      · obtain ⟨_, _, _, _, e, _⟩ := h4
        exact .inl (.inl e)
      · obtain ⟨F', y4, rfl, ef4, el4, hr1, m4⟩ := h4
        rw [List.getElem?_map] at hz
        obtain ⟨x, hx, rfl⟩ := Option.map_eq_some_iff.mp hz
        have hxF := hFin (List.mem_of_getElem? hx)
        have hFl := bound hr1.d
        obtain ⟨v, st, hst, hv, him, hga, hgl'⟩ := ways hxF.1 hxF.2 m4
        refine ⟨.ref pf, rfl, .inl ⟨rfl, _, .inl (.inl ef4)⟩, .ref c, rfl, c, .ref l, rfl, LCd.get (K := K) ec m4 (code_rows d l many given), .int x, rfl, rd_ixL (.inl (.inl (m4.same _ _ el))) hxF.1 hv ?_⟩
        refine ⟨v, st, rfl, him, by omega, fun pw H5 nw m5 ew => ⟨pw, rfl, ?_⟩⟩
        have ef5 := m5.same _ _ ef4
        refine lc_fm (K := K) (as := gosS st) (enc := PyData.int) (fun y => if y ∈ F' then none else some (.int y)) (.inl (.inl (.inl ew))) (ims_int82 _) (by omega) (fun z y H6 Q' R' hm him6 m6 k1 k2 => ?_) (fun D zs H6 nD e6 i6 m6 => ?_)
        · cases him6.intI
          refine ⟨rfl, .int y, rfl, .ref pf, rfl, rd_notIn82 (m6.same _ _ ef5) ⟨_, rfl, ?_⟩⟩
          by_cases hy : y ∈ F'
          · rw [decide_eq_true hy]
            exact k2 (if_pos hy) _ .refl
          · rw [decide_eq_false hy]
            exact ⟨.int y, rfl, k1 _ (if_neg hy) _ _ .refl (.int _)⟩
        · have e : ((gosS st).filterMap fun y => if y ∈ F' then none else some (PyData.int y)) = (newOnes F' (gosS st)).map PyData.int := by
            generalize gosS st = E
            clear i6 hgl' hga
            unfold newOnes
            induction E with
            | nil => rfl
            | cons o ns ih =>
              rw [List.filterMap_cons, List.filter_cons]
              by_cases h : o ∈ F'
              · rw [if_pos h, if_neg (by simp [h])]
                exact ih
              · rw [if_neg h, if_pos (by simp [h]), List.map_cons, ← ih]
          rw [e] at i6
          rw [ims_ints82 i6] at e6
          have ef6 := m6.same _ _ ef5
          have hs := hr1.step hx (by rw [hga]; exact hgl') fun y hy => hin hy
          have hsl := bound hs.d
          rw [hga] at hs hsl
          have hpl6 := (m5.trans m6).same _ _ el4
          refine Or.inl ⟨pf, D, _, _, rfl, rfl, ef6, e6, ?_, ?_⟩
          · rw [← List.length_append, ← List.map_append, List.length_map]
            exact Nat.le_trans hsl (by decide)
          refine ⟨F' ++ newOnes F' (gosS st), _, rfl, ?_, ?_, hs, (m4.trans (m5.trans m6)).wr nf⟩
          · rw [upd_same, List.map_append]
          · rw [upd_ne hlf]
            exact hpl6
      · obtain ⟨F', y4, rfl, ef4, el4, hr1, m4⟩ := h4
        rw [List.length_map] at hr1
        refine ⟨F', _, _, rfl, ef4, rnd_next hR hr1.a ?_ hr1.c, hr1.d, m4⟩
        have := hr1.b
        rwa [List.take_length] at this
    · obtain ⟨F, y3, y4, rfl, ef2, hR, hD, m2⟩ := h2
      have hR' := rnd_done hg hR
      have hFl := bound hD
      refine ⟨.ref pf, rfl, pf, F, rfl, .inl (.inl ef2), by omega, fun ps n ks nps hkn hkl hkm => ?_⟩
      have hks : ks.length ≤ sts.length := nodup_few hkn fun x hx => ((hR' x).mp ((hkm x).mp hx)).in_ hg
      have ms := Mv.new (S := []) (o := SetO w ps (fun j => decide (j ∈ F)) n) nps
      refine ⟨ps, _, n, rfl, upd_same, by omega, fun ns p3 h1 h2 h3 n3 => ?_⟩
      refine q p3 ns _ ?_ (m2.trans (ms.trans (.new n3))) upd_same h1 fun x => ?_
      · exact (m2.trans ms).free n3
      · rw [h2, decide_eq_true_iff]
        exact hR' x
end
end Fm
namespace Fm
open PySem PySem.Spec PyProof.Rows L2 SlX
local macro_rules | `(tactic| walk_at "nn") => `(tactic| dsimp only [tC, tNil, tCons, tCB, tCall, gName, tSeq, tAsg, tPar, tDrop, tRet])
local macro_rules | `(tactic| walk_at "nc") => `(tactic| dsimp only [tC, tNil, tCons, tCB, tCall])
def likeW (ar : Int) : List ActR := [⟨"go", ar, toldA⟩, ⟨"see", ar, toldA⟩]
def sp_like82 (K : PySem.W.Frag) : Sp := fun vs H Q _ => ∃ (b : Addr), vs = [.ref b] ∧ Bag H b ∧ ∀ d zs ar H', ActsAt K H' d zs → zs.map (·.r) = likeW ar → 1 ≤ ar → ar ≤ 2 → Dr b H H' → Q (.ref d) H'
def sp_smallCode82 (K : PySem.W.Frag) : Sp := fun vs H Q _ => ∃ (b d : Addr) (zs : List ActA) (many wide : Int), vs = [.ref b, .ref d, .int many, .int wide] ∧ HandS K H b d zs many ∧ 0 < wide ∧ wide ≤ 20 ∧
  ∀ c given (sts : List Sta) H', LCd K H' c d many given sts → ActsAt K H' d zs → 0 ≤ given → given ≤ many → 0 < sts.length → (sts.length : Int) ≤ wide → (∀ st ∈ sts, st.rw (zs.map (·.r)) many sts.length ∧ st.dp 2) → Dr b H H' → Q (.ref c) H'
def sp_tried82 (K : PySem.W.Frag) (C CW CR : Addr) : Sp := fun vs H Q _ => ∃ (x wx : Addr) (rs : List ActR) (many given : Int) (sts : List Sta) (p : Int), vs = [.ref x, .int p] ∧ CodAt K H C CW x wx rs many given sts ∧ CodeOk rs many given ∧ Rooms sts ∧ (∀ st ∈ sts, st.ok rs many sts.length) ∧ (∀ st ∈ sts, st.ord = st) ∧ sts.length ≤ 30 ∧
  (¬ (0 ≤ p ∧ p < sts.length) → ∀ r H', Mv [] H H' → Im K H' r (.tuple [.str "place", .int p]) → Q r H') ∧
  (0 ≤ p → p < sts.length → LoopOf sts p [] → ∀ r H', Mv [] H H' → Im K H' r (.tuple [.str "unfit", .int 0]) → Q r H') ∧
  (0 ≤ p → p < sts.length → ∀ L, LoopOf sts p L → L ≠ [] → ∀ (r z rc a1 a2 : Addr) (xs1 xs2 : List V) (ps1 ps2 : List (Int × Int)) H', Mv [] H H' → H a1 = none → H a2 = none → a1 ≠ a2 → SqT K H' r [.ref z, .ref a1, .ref a2] → CodAt K H' C CW z wx rs many given (unrS sts p L) → RecAt K H' CR rc many (varsT many.toNat) →
    H' a1 = some (.lst xs1) → H' a2 = some (.lst xs2) → MvsAt K H' ps1 rc xs1 → MvsAt K H' ps2 rc xs2 → PrsOf sts.length L ps1 → BckOf sts.length L ps2 → Q (.ref r) H')
section
variable {P : Program} {w : World} {K : PySem.W.Frag} {mg : Str → Option Value} {base : Heap}
theorem ok__law_like_acts82 (T : TX K mg) {k : Nat} : FnOk P w K mg base CX0 (k + 2) T.d__law_like_acts.f T.d__law_like_acts.fd P__law_like_acts (sp_like82 K) := by
  have G__law_take : FnOk P w K mg base CX0 1 T.d__law_take.f T.d__law_take.fd P__law_take sp_take := ok__law_take T
  refine T.d__law_like_acts.F.ok sc__law_like_acts (fun vs H Q E h => ?_) (fun cdv A outer s H vs Q E hr h => ?_)
  · obtain ⟨_, rfl, _⟩ := h
    rfl
  · obtain ⟨b, rfl, hB, q⟩ := h
    have hu64 := hr.units
    refine ⟨_, (pss_cons (ps_set (i := 1) sc__law_like_acts.nd rfl (Or.inl rfl) (pe_tup (pa_cons (pe_op (r := rAddG K) op_addG pe_int (pe_call G__law_take (hr.mono (by omega)) rfl T.d__law_take.g T.d__law_take.F.kp T.d__law_take.b .nil pass0 (pa_cons (pv 0) (pa_cons pe_int pa_nil)))) (pa_cons (pe_disp (pps_cons pe_str pe_int (pps_cons pe_str pe_int pps_nil)) (by rfl) (by rfl) (fun z => by cases z) (by decide)) pa_nil)))) (pss_one (ps_ret (pe_disp (pps_cons pe_str (pv 1) (pps_cons pe_str (pv 1) pps_nil)) (by rfl) (by rfl) (fun z => by cases z) (by decide))))), ?_⟩
    refine ⟨.ref b, rfl, b, 2, rfl, hB, by decide, by decide, fun n H1 n0 n2 d1 => Or.inl ⟨1, n, rfl, rfl, fun o no => ?_⟩⟩
    have eo : upd H1 o (.dK []) o = some (.dK []) := upd_same
    refine ⟨eo, [(.inr "no", .int 0), (.inr "yes", .int 1)], rfl, (by decide : 2 ≤ 15), ?_⟩
    rw [show mergeK [] [((.inr "no" : L2.Key), V.int 0), (.inr "yes", .int 1)] = toldA.map rowK from (mergeK_nd [((.inr "no" : L2.Key), V.int 0), (.inr "yes", .int 1)] [] (show ([.inr "no", .inr "yes"] : List L2.Key).Nodup by decide +kernel)).trans (List.nil_append _)]
    have m2 : Mv [] H1 (upd (upd H1 o (.dK [])) o (.dK (toldA.map rowK))) := (Mv.new no).wr no
    have eo2 : upd (upd H1 o (.dK [])) o (.dK (toldA.map rowK)) o = some (.dK (toldA.map rowK)) := upd_same
    generalize upd (upd H1 o (.dK [])) o (.dK (toldA.map rowK)) = H2 at m2 eo2 ⊢
    refine ⟨(by decide : 2 ≤ sizeLine), fun t nt => ?_⟩
    obtain ⟨ar, har⟩ : ∃ ar : Int, ar = 1 + n := ⟨_, rfl⟩
    have m3 : Mv [] H2 (upd H2 t (.tup [.int (1 + n), .ref o])) := .new nt
    have et : SqT K (upd H2 t (.tup [.int (1 + n), .ref o])) t [.int ar, .ref o] := .inl (.inl (by rw [upd_same, har]))
    show _
    generalize upd H2 t (.tup [.int (1 + n), .ref o]) = H3 at m3 et ⊢
    intro d nd
    have ed : upd H3 d (.dK []) d = some (.dK []) := upd_same
    have m4 : Mv [] H3 (upd H3 d (.dK [])) := .new nd
    refine ⟨.ref t, rfl, .ref t, rfl, ed, [(.inr "go", .ref t), (.inr "see", .ref t)], rfl, (by decide : 2 ≤ 15), ?_⟩
    obtain ⟨zs, hzs⟩ : ∃ zs : List ActA, zs = [⟨⟨"go", ar, toldA⟩, t, o⟩, ⟨⟨"see", ar, toldA⟩, t, o⟩] := ⟨_, rfl⟩
    have hzr : zs.map (·.r) = likeW ar := by rw [hzs]; rfl
    have hzk : mergeK [] [((.inr "go" : L2.Key), V.ref t), (.inr "see", .ref t)] = zs.map ActA.kv := by
      rw [hzs]
      exact (mergeK_nd [((.inr "go" : L2.Key), V.ref t), (.inr "see", .ref t)] [] (show ([.inr "go", .inr "see"] : List L2.Key).Nodup by decide +kernel)).trans (List.nil_append _)
    rw [hzk]
    have m5 : Mv [] H3 (upd (upd H3 d (.dK [])) d (.dK (zs.map ActA.kv))) := m4.wr nd
    have hod : d ≠ o := (ne_of_none (m3.same _ _ eo2) nd).symm
    have et5 := m5.sqT et
    have eo5 := (m3.trans m5).same _ _ eo2
    refine q d zs ar _ ⟨upd_same, ?_, fun z hz => ?_, fun z hz => ?_, fun z hz => ?_⟩ hzr (by omega) (by omega) (d1.trans (.of (m2.trans (m3.trans m5))))
    · rw [hzs]
      exact (show ([Str.ofString "go", Str.ofString "see"] : List Str).Nodup by decide +kernel)
    all_goals
      rw [hzs] at hz
      simp only [List.mem_cons, List.not_mem_nil, or_false] at hz
      rcases hz with rfl | rfl
    · exact et5
    · exact et5
    · exact eo5
    · exact eo5
    · exact (show ([Str.ofString "no", Str.ofString "yes"] : List Str).Nodup by decide +kernel)
    · exact (show ([Str.ofString "no", Str.ofString "yes"] : List Str).Nodup by decide +kernel)
theorem ok__law_small_code82 (T : TX K mg) {k : Nat} : FnOk P w K mg base CX0 (k + 4) T.d__law_small_code.f T.d__law_small_code.fd P__law_small_code (sp_smallCode82 K) := by
  have G__law_take : FnOk P w K mg base CX0 1 T.d__law_take.f T.d__law_take.fd P__law_take sp_take := ok__law_take T
  have G__law_small_row : FnOk P w K mg base CX0 3 T.d__law_small_row.f T.d__law_small_row.fd P__law_small_row (sp_smallRow K) := ok__law_small_row (k := 0) T
  refine T.d__law_small_code.F.ok sc__law_small_code (fun vs H Q E h => ?_) (fun cdv A outer s H vs Q E hr h => ?_)
  · obtain ⟨_, _, _, _, _, rfl, _⟩ := h
    rfl
  · obtain ⟨b, d, zs, many, wide, rfl, hH, w0, w1, q⟩ := h
    have hu64 := hr.units
    have hB := hH.bag
    have hm0 := hH.m0
    have hm1 := hH.m1
    refine ⟨_, (pss_cons (ps_set (i := 4) sc__law_small_code.nd rfl (Or.inr rfl) (pe_op (r := rAddG K) op_addG pe_int (pe_call G__law_take (hr.mono (by omega)) rfl T.d__law_take.g T.d__law_take.F.kp T.d__law_take.b .nil pass0 (pa_cons (pv 0) (pa_cons (pv 3) pa_nil))))) (pss_cons (ps_setLc (i := 5) (own := [("_law_at", 6)]) (g := gName 6) (by rfl) sc__law_small_code.nd rfl rfl (sw_true rfl rfl rfl (by decide +kernel)) (pi_range1 (by rfl) T.b_range (pa_cons (pv 4) pa_nil)) (blkOk_by (own := [("_law_at", 6)]) (N := N__law_small_code) (sc := defScope s__law_small_code) (by decide +kernel)) (fun _ _ _ _ _ => pg_name (i := 6) sc__law_small_code.nd rfl (Or.inl rfl)) (fun _ _ _ _ _ => pts_nil) (fun _ _ _ _ _ => (pe_call G__law_small_row (hr.mono (by omega)) rfl T.d__law_small_row.g T.d__law_small_row.F.kp T.d__law_small_row.b .nil pass0 (pa_cons (pv 0) (pa_cons (pv 1) (pa_cons (pv 2) (pa_cons (pv 4) (pa_cons (pv 6) pa_nil)))))))) (pss_one (ps_ret (pe_disp (pps_cons pe_str (pv 1) (pps_cons pe_str (pv 2) (pps_cons pe_str (pe_call G__law_take (hr.mono (by omega)) rfl T.d__law_take.g T.d__law_take.F.kp T.d__law_take.b .nil pass0 (pa_cons (pv 0) (pa_cons (pe_op (r := rAddG K) op_addG (pv 2) pe_int) pa_nil))) (pps_cons pe_str (pv 5) pps_nil)))) (by rfl) (by rfl) (fun z => by cases z) (by decide)))))), ?_⟩
    refine ⟨.ref b, rfl, .int wide, rfl, b, wide, rfl, hB, w0, by omega, fun n1 H1 n10 n14 d1 => Or.inl ⟨1, n1, rfl, rfl, ?_⟩⟩
    refine ⟨.int (1 + n1), rfl, 1 + n1, rfl, by omega, by omega, fun D nD => ?_⟩
    have nDH := d1.free hB nD
    have hDb : D ≠ b := (d1.bag hB).fneq nD
    refine lc_range (lo := 0) (n := (1 + n1).toNat) (fun i H2 => ∃ (vs : List V) (sts : List Sta), H2 D = some (.lst vs) ∧ Ims K H2 vs (sts.map Sta.d) ∧ sts.length = i ∧ (∀ st ∈ sts, st.rw (zs.map (·.r)) many (1 + n1) ∧ st.dp 2) ∧ Dr b H H2)
      ⟨[], [], upd_same, .nil, rfl, by simp, d1.trans (.new nD)⟩ (fun i H2 hi h2 => ?_) (fun H2 h2 => ?_)
    · obtain ⟨vs, sts, e2, i2, l2, k2, d2⟩ := h2
      refine ⟨rfl, .ref b, rfl, .ref d, rfl, .int many, rfl, .int (1 + n1), rfl, .int (0 + (i : Int)), rfl, b, d, zs, many, 1 + n1, 0 + (i : Int), rfl, hH.dr d2, by omega, by omega, by omega, fun v st H3 hst hdp him d3 => ?_⟩
      have e3 := d3.get hDb e2
      refine ⟨vs, e3, ?_, vs ++ [v], sts ++ [st], upd_same, ?_, by simp [l2], ?_, (d2.trans d3).wr nDH⟩
      · rw [i2.length, List.length_map]
        exact small1000 (by omega)
      · rw [List.map_append]
        exact ((i2.mv d3.mv).append (.cons him .nil)).mv (Mv.set (S := [D]) e3 (by simp))
      · intro y hy
        rcases List.mem_append.mp hy with hy | hy
        · exact k2 y hy
        · rw [List.mem_singleton.mp hy]
          exact ⟨hst, hdp⟩
    · obtain ⟨vs, sts, e2, i2, l2, k2, d2⟩ := h2
      intro c nc
      have ncH := d2.free hB nc
      have hH2 := hH.dr d2
      have hcb : c ≠ b := hH2.bag.fneq nc
      have hcr : D ≠ c := ne_of_none e2 nc
      have k4 : Mv [] H2 (upd H2 c (.dK [])) := .new nc
      have d4 : Dr b H2 (upd H2 c (.dK [])) := .new nc
      have e4 : upd H2 c (.dK []) c = some (.dK []) := upd_same
      generalize upd H2 c (.dK []) = H4 at k4 d4 e4 ⊢
      have hB4 := d4.bag hH2.bag
      refine ⟨.ref d, rfl, .int many, rfl, .ref b, rfl, .int many, rfl, Or.inl ⟨many, 1, rfl, rfl, b, many + 1, rfl, hB4, by omega, by omega, fun given H5 g0 g1 d5 => ?_⟩⟩
      have e5 := d5.getK hB4 e4 (fun _ z => by cases z)
      refine ⟨.ref D, rfl, e5, codeKv d D many given, rfl, (by decide : 4 ≤ 15), ?_⟩
      rw [code_merge]
      have d25 := d4.trans d5
      have d6 : Dr b H2 (upd H5 c (.dK (codeKv d D many given))) := d25.wr nc
      have hA6 := hH2.acts.dr d6 hH2.bag
      refine q c given sts _ ⟨D, vs, upd_same, ?_, i2.mv d6.mv⟩ hA6 g0 (by omega) (by omega) (by omega) (fun st hst => ?_) (d2.trans d6)
      · rw [upd_ne hcr]
        exact d25.get hDb e2
      · have : ((sts.length : Nat) : Int) = 1 + n1 := by omega
        rw [this]
        exact k2 st hst
theorem ok__law_tried82 (T : TX K mg) (Y : TY P K mg) {k : Nat} : FnOk P w K mg base CX0 (k + 13) T.d__law_tried.f T.d__law_tried.fd P__law_tried (sp_tried82 K T.C_Code T.C_World T.C_Recipe) := by
  have G_unrolled : FnOk P w K mg base (CX P w) 12 T.d_unrolled.f T.d_unrolled.fd P_unrolled (sp_unrolled K T.C_Code T.C_World T.C_Recipe Y.C_NoPlace Y.C_Unfit) := ok_unrolled (k := 0) T Y
  refine T.d__law_tried.F.ok sc__law_tried (fun vs H Q E h => ?_) (fun cdv A outer s H vs Q E hr h => ?_)
  · obtain ⟨_, _, _, _, _, _, _, rfl, _⟩ := h
    rfl
  · obtain ⟨x, wx, rs, many, given, sts, p, rfl, hC, hK, hR, hok, hord, h30, qN, qU, q⟩ := h
    have hu64 := hr.units
    refine ⟨_, (pss_one (ps_try_as (i := 2) rfl rfl sc__law_tried.nd rfl rfl ⟨rfl, by decide, Or.inl Y.x_MoveError.gC⟩ takes0 (fun W pn xe tk po => (pss_one (ps_ret (pe_callS G_unrolled (hr.mono (by omega)) rfl T.d_unrolled.g T.d_unrolled.F.kp T.d_unrolled.b (fun σ => passAt tk σ) (pa_cons (pv 0) (pa_cons (pv 1) pa_nil)))))) (fun a oe cls d pn hz hf => (pss_cons (ps_if (PW.pt (pw_and (pt_val (pe_callB (call_isX hz hf) (by rfl) T.b_isinstance bt_isinstance (pa_cons (pv 2) (pa_cons (pe_glob rfl Y.x_NoPlace.gC (show L2.RelV (.ref Y.C_NoPlace) _ from rfl)) pa_nil)))) (pw_and1 (pt_not (pt_val (pe_callB (call_isX hz hf) (by rfl) T.b_isinstance bt_isinstance (pa_cons (pv 2) (pa_cons (pe_glob rfl Y.x_Unfit.gC (show L2.RelV (.ref Y.C_Unfit) _ from rfl)) pa_nil)))))))) (pss_one (ps_ret (pe_tup (pa_cons pe_str (pa_cons (pe_xfG hz hf (pv 2)) pa_nil))))) pss_nil) (pss_one (ps_ret (pe_ifExp (PW.pt (pw_and (pt_val (pe_callB (call_isX hz hf) (by rfl) T.b_isinstance bt_isinstance (pa_cons (pv 2) (pa_cons (pe_glob rfl Y.x_Unfit.gC (show L2.RelV (.ref Y.C_Unfit) _ from rfl)) pa_nil)))) (pw_and1 (pt_val (pe_callB (call_isX hz hf) (by rfl) T.b_isinstance bt_isinstance (pa_cons (pv 2) (pa_cons (pe_ty T.b_ValueError bt_ValueError) pa_nil))))))) (pe_tup (pa_cons pe_str (pa_cons pe_int pa_nil))) (pe_tup (pa_cons pe_str (pa_cons pe_int pa_nil)))))))))), ?_⟩
    refine ⟨.ref x, rfl, .int p, rfl, ?_⟩
    refine ⟨x, wx, rs, many, given, sts, p, rfl, hC, hK, hR, hok, hord, h30, fun hn d H1 m1 nd => ?_, fun p0 p1 hL H1 m1 => ?_, q⟩
    · refine ⟨true, Y.em_NoPlace_MoveError, fun _ a na => ?_, fun z => by cases z⟩
      have e2 : upd H1 d (.xd [("place", .int p)]) d = some (.xd [("place", .int p)]) := upd_same
      have m2 : Mv [] H (upd H1 d (.xd [("place", .int p)])) := m1.trans (.new nd)
      generalize upd H1 d (.xd [("place", .int p)]) = H2 at e2 m2 na ⊢
      refine ⟨.ref a, rfl, ?_⟩
      walk_at "nc"
      refine ⟨Y.C_NoPlace, .ref Y.C_NoPlace, .ref Y.C_NoPlace, true, rfl, Y.xc_NoPlace, .inr ⟨d, _, rfl, e2⟩, rfl, fun _ h => h, kitOne_self _, ?_⟩
      refine ⟨_, rfl, .ref a, rfl, Y.C_NoPlace, .ref Y.C_Unfit, .ref Y.C_Unfit, false, rfl, Y.xc_NoPlace, .inr ⟨d, _, rfl, e2⟩, rfl, fun _ h => h, Y.ed_NoPlace_Unfit, ?_⟩
      refine ⟨_, rfl, .ref a, rfl, rfl, Y.C_NoPlace, d, _, .int p, rfl, ⟨Y.xc_NoPlace.hg, Y.xc_NoPlace.hk, Y.xc_NoPlace.hs, Y.xc_NoPlace.hd⟩, Y.x_NoPlace.no, rfl, e2, rfl, ?_⟩
      refine ⟨(by decide : 2 ≤ sizeLine), fun q' nq' => ?_⟩
      exact qN hn _ _ (m2.trans (.new nq')) (.tup (.inl (.inl upd_same)) (.cons (.str _) (.cons (.int _) .nil)))
    · refine ⟨true, Y.em_Unfit_MoveError, fun _ a na => ?_, fun z => by cases z⟩
      refine ⟨.ref a, rfl, ?_⟩
      walk_at "nc"
      refine ⟨Y.C_Unfit, .ref Y.C_NoPlace, .ref Y.C_NoPlace, false, rfl, Y.xc_Unfit, .inl rfl, rfl, fun _ h => h, Y.ed_Unfit_NoPlace, ?_⟩
      refine ⟨_, rfl, .ref a, rfl, Y.C_Unfit, .ref Y.C_Unfit, .ref Y.C_Unfit, true, rfl, Y.xc_Unfit, .inl rfl, rfl, fun _ h => h, kitOne_self _, ?_⟩
      refine ⟨_, rfl, .ref a, rfl, Y.C_Unfit, .ty "ValueError", .type "ValueError", true, rfl, Y.xc_Unfit, .inl rfl, rfl, fun _ h => h, Y.ev_Unfit, _, rfl, ?_⟩
      refine ⟨(by decide : 2 ≤ sizeLine), fun q' nq' => ?_⟩
      exact qU p0 p1 hL _ _ (m1.trans (.new nq')) (.tup (.inl (.inl upd_same)) (.cons (.str _) (.cons (.int _) .nil)))
end
end Fm
namespace Fm
open PySem PySem.Spec PyProof.Rows L2 SlX
local macro_rules | `(tactic| walk_at "nn") => `(tactic| dsimp only [tC, tNil, tCons, tCB, tCall, gName, tSeq, tAsg, tPar, tDrop, tRet])
local macro_rules | `(tactic| walk_at "nc") => `(tactic| dsimp only [tC, tNil, tCons, tCB, tCall])
def prK82 (e : Int × Int) : L2.Key × V := (.inl e.1, .int e.2)
theorem PlAt.refs {K : PySem.W.Frag} {H : Hp} : ∀ {ps : List (Int × Int)} {xs : List V}, PlAt H xs ps → ∃ as : List Addr, xs = as.map V.ref ∧ Paired (fun p kv => SqT K H p [kV kv.1, kv.2]) as (ps.map prK82)
  | [], xs, h => ⟨[], by have := h.1; simp at this; simp [this], .nil⟩
  | e :: ps, xs, h => by
    cases xs with
    | nil => have := h.1; simp at this
    | cons x xs =>
      obtain ⟨t, rfl, ht⟩ := h.2 0 x e rfl rfl
      obtain ⟨as, rfl, hp⟩ := PlAt.refs (K := K) (ps := ps) (xs := xs) ⟨by have := h.1; simpa using this, fun i y f h1 h2 => h.2 (i + 1) y f (by simpa using h1) (by simpa using h2)⟩
      exact ⟨t :: as, rfl, .cons (.inl (.inl ht)) hp⟩
theorem rd_dictPr {K : PySem.W.Frag} {H : Hp} {Q : VK} {a : Addr} {xs : List V} {ps : List (Int × Int)} (e : H a = some (.lst xs)) (h : PlAt H xs ps) (hn : (ps.map (·.1)).Nodup) (q : ∀ p, H p = none → Q (.ref p) (upd H p (.dK (ps.map prK82)))) : rDictG K [.ref a] H Q := by
  obtain ⟨as, rfl, hp⟩ := h.refs (K := K)
  refine Or.inl ⟨a, as, ps.map prK82, rfl, .inl (.inl e), hp, fun p np => ?_⟩
  rw [mergeK_nd, List.nil_append]
  · exact q p np
  · rw [List.nil_append, List.map_map]
    exact List.pairwise_map.mpr ((List.pairwise_map.mp hn).imp fun {a b} h e => h (Sum.inl.inj e))
theorem valV_prs : ∀ {L : List Int} {f : Int → Int} {x : Int}, valV ((L.map fun j => (j, f j)).map prK82) (.inl x) = if x ∈ L then some (V.int (f x)) else none
  | [], f, x => by simp [valV]
  | j :: L, f, x => by
    have ih := valV_prs (L := L) (f := f) (x := x)
    by_cases e : j = x
    · subst e
      rw [if_pos List.mem_cons_self]
      simp [valV, prK82]
    · have : valV (((j :: L).map fun j => (j, f j)).map prK82) (.inl x) = valV ((L.map fun j => (j, f j)).map prK82) (.inl x) := by
        simp [valV, prK82, e]
      rw [this, ih]
      by_cases h : x ∈ L
      · rw [if_pos h, if_pos (List.mem_cons_of_mem _ h)]
      · rw [if_neg h, if_neg (by simp [h, Ne.symm e])]
theorem map_fst82 {L : List Int} {f : Int → Int} : (L.map fun j => (j, f j)).map (·.1) = L := by
  rw [List.map_map]
  exact List.map_id L
def sp_due82 (K : PySem.W.Frag) : Sp := fun vs H Q _ => ∃ (c d la : Addr) (many given : Int) (sts : List Sta) (p : Int) (L : List Int), vs = [.ref c, .int p, .ref la] ∧ LCd K H c d many given sts ∧ H la = some (.lst (L.map V.int)) ∧ GoIn sts ∧ (∀ st ∈ sts, (gosS st).length ≤ 1000) ∧ sts.length ≤ 30 ∧ LoopOf sts p L ∧ L ≠ [] ∧
  ∀ (r fl pl : Addr) (zs xs : List V) (ps : List (Int × Int)) H', Mv [] H H' → SqT K H' r [.ref fl, .ref pl] → H' fl = some (.lst zs) → Ims K H' zs ((unrS sts p L).map Sta.d) → H' pl = some (.lst xs) → PlAt H' xs ps → PrsOf sts.length L ps → Q (.ref r) H'
section
variable {P : Program} {w : World} {K : PySem.W.Frag} {mg : Str → Option Value} {base : Heap}
theorem ok__law_due82 (T : TX K mg) {k : Nat} : FnOk P w K mg base CX0 (k + 2) T.d__law_due.f T.d__law_due.fd P__law_due (sp_due82 K) := by
  have G__law_led_on : FnOk P w K mg base CX0 1 T.d__law_led_on.f T.d__law_led_on.fd P__law_led_on (sp_led K) := ok__law_led_on82 (k := 0) T
  refine T.d__law_due.F.ok sc__law_due (fun vs H Q E h => ?_) (fun cdv A outer s H vs Q E hr h => ?_)
  · obtain ⟨_, _, _, _, _, _, _, _, rfl, _⟩ := h
    rfl
  · obtain ⟨c, d, la, many, given, sts, p, L, rfl, hC, hla, hg, hgl, h30, hL, hL0, q⟩ := h
    have hu1 := hu1_of hr
    have hu64 := hr.units
    have hu65 := hu65_of hr
    refine ⟨_, (pss_cons (ps_asg (pe_tup (pa_cons (pe_callB (r := rLenG K) call_lenG (by rfl) T.b_len bt_len (pa_cons (pe_dget hu1 (pv 0) pe_str (fun _ _ => rfl)) pa_nil)) (pa_cons (pe_lst pa_nil) pa_nil))) (pg_tup rfl (pgs_cons (pg_name (i := 3) sc__law_due.nd rfl (Or.inr rfl)) (pgs_cons (pg_name (i := 4) sc__law_due.nd rfl (Or.inl rfl)) pgs_nil)))) (pss_cons (ps_set (i := 5) sc__law_due.nd rfl (Or.inr rfl) (pe_callTy (r := rDictG K) (call_dictG rfl) (by rfl) T.b_dict bt_dict (pa_cons (pe_lc (own := [("_law_at", 6)]) (g := gName 6) (by rfl) sc__law_due.nd (pi_range1 (by rfl) T.b_range (pa_cons (pe_callB (r := rLenG K) call_lenG (by rfl) T.b_len bt_len (pa_cons (pv 2) pa_nil)) pa_nil)) (blkOk_by (own := [("_law_at", 6)]) (N := N__law_due) (sc := defScope s__law_due) (by decide +kernel)) (fun _ _ _ _ _ => pg_name (i := 6) sc__law_due.nd rfl (Or.inl rfl)) (fun _ _ _ _ _ => pts_nil) (fun _ _ _ _ _ => (pe_tup (pa_cons (pe_ix (r := rIx K) ix_seq (pv 2) (pv 6) (fun _ _ => rfl)) (pa_cons (pe_op (r := rAddG K) op_addG (pv 3) (pv 6)) pa_nil))))) pa_nil))) (pss_cons (ps_for PassesOwn.never rfl (pi_range1 (by rfl) T.b_range (pa_cons (pv 3) pa_nil)) (pg_name (i := 6) sc__law_due.nd rfl (Or.inl rfl)) (pss_one (ps_expr (pe_bm PySem.F.plainAttrs_list PySem.F.slot_list_append PySem.F.type_list_append mt_append (pv 4) (pa_cons (pe_call G__law_led_on (hr.mono (by omega)) rfl T.d__law_led_on.g T.d__law_led_on.F.kp T.d__law_led_on.b .nil pass0 (pa_cons (pe_ix (r := rIx K) ix_seq (pe_dget hu1 (pv 0) pe_str (fun _ _ => rfl)) (pv 6) (fun _ _ => rfl)) (pa_cons (pe_ifExp (pt_cmpR (r := rInG K) (op_inG hu65) (pv 6) (pv 2) rfl) (pe_disp (pps_cons (pv 1) (pe_dget hu1 (pv 5) (pv 1) (fun _ _ => rfl)) pps_nil) (by rfl) (by rfl) (fun z => by cases z) (by decide)) pe_dnewK) pa_nil))) pa_nil))))) (pss_cons (ps_set (i := 7) sc__law_due.nd rfl (Or.inr rfl) (pe_callTy (r := rDictG K) (call_dictG rfl) (by rfl) T.b_dict bt_dict (pa_cons (pe_lc (own := [("_law_one", 8)]) (g := gName 8) (by rfl) sc__law_due.nd (pi_seq (pv 2)) (blkOk_by (own := [("_law_one", 8)]) (N := N__law_due) (sc := defScope s__law_due) (by decide +kernel)) (fun _ _ _ _ _ => pg_name (i := 8) sc__law_due.nd rfl (Or.inl rfl)) (fun _ _ _ _ _ => (pts_one (pt_cmpR (r := rNeG K) (op_neG hu64) (pv 8) (pv 1) (nomark _)))) (fun _ _ _ _ _ => (pe_tup (pa_cons (pv 8) (pa_cons (pe_dget hu1 (pv 5) (pv 8) (fun _ _ => rfl)) pa_nil))))) pa_nil))) (pss_cons (ps_set (i := 4) sc__law_due.nd rfl (Or.inl rfl) (pe_op (r := rAddG K) op_addG (pv 4) (pe_lc (own := [("_law_one", 8)]) (g := gName 8) (by rfl) sc__law_due.nd (pi_seq (pv 2)) (blkOk_by (own := [("_law_one", 8)]) (N := N__law_due) (sc := defScope s__law_due) (by decide +kernel)) (fun _ _ _ _ _ => pg_name (i := 8) sc__law_due.nd rfl (Or.inl rfl)) (fun _ _ _ _ _ => pts_nil) (fun _ _ _ _ _ => (pe_call G__law_led_on (hr.mono (by omega)) rfl T.d__law_led_on.g T.d__law_led_on.F.kp T.d__law_led_on.b .nil pass0 (pa_cons (pe_ix (r := rIx K) ix_seq (pe_dget hu1 (pv 0) pe_str (fun _ _ => rfl)) (pv 8) (fun _ _ => rfl)) (pa_cons (pv 7) pa_nil))))))) (pss_one (ps_ret (pe_tup (pa_cons (pv 4) (pa_cons (pe_callB (r := rSortP K) cr_sortP (by rfl) T.b_sorted bt_sorted (pa_cons (pe_op (r := rAddG K) op_addG (pe_lc (own := [("_law_at", 6)]) (g := gName 6) (by rfl) sc__law_due.nd (pi_range1 (by rfl) T.b_range (pa_cons (pv 3) pa_nil)) (blkOk_by (own := [("_law_at", 6)]) (N := N__law_due) (sc := defScope s__law_due) (by decide +kernel)) (fun _ _ _ _ _ => pg_name (i := 6) sc__law_due.nd rfl (Or.inl rfl)) (fun _ _ _ _ _ => pts_nil) (fun _ _ _ _ _ => (pe_tup (pa_cons (pv 6) (pa_cons (pv 6) pa_nil))))) (pe_lc (own := [("_law_one", 8)]) (g := gName 8) (by rfl) sc__law_due.nd (pi_seq (pv 2)) (blkOk_by (own := [("_law_one", 8)]) (N := N__law_due) (sc := defScope s__law_due) (by decide +kernel)) (fun _ _ _ _ _ => pg_name (i := 8) sc__law_due.nd rfl (Or.inl rfl)) (fun _ _ _ _ _ => pts_nil) (fun _ _ _ _ _ => (pe_tup (pa_cons (pv 8) (pa_cons (pe_dget hu1 (pv 5) (pv 8) (fun _ _ => rfl)) pa_nil)))))) pa_nil)) pa_nil)))))))))), ?_⟩
    obtain ⟨l, vs, ec, el, iv⟩ := id hC
    have hvl : vs.length = sts.length := by rw [iv.length, List.length_map]
    have hpL := loop_self hL hL0
    have hLin : ∀ i ∈ L, 0 ≤ i ∧ i < sts.length := fun i hi => ((hL.2 i).mp hi).1.in_ hg
    have hLn : L.Nodup := List.nodup_iff_pairwise_ne.mpr (hL.1.imp fun h => by omega)
    have hLl : L.length ≤ 30 := Nat.le_trans (nodup_few hLn hLin) h30
    have row : ∀ {x : Int} {H' : Hp}, 0 ≤ x → x < sts.length → Mv [] H H' → ∃ v st, sts[x.toNat]? = some st ∧ vs[x.toNat]? = some v ∧ Im K H' v st.d ∧ (gosS st).length ≤ 1000 := by
      intro x H' x0 x1 m
      obtain ⟨v, hv⟩ : ∃ v, vs[x.toNat]? = some v := ⟨_, List.getElem?_eq_getElem (by omega)⟩
      obtain ⟨dd, hd, him⟩ := iv.get hv
      rw [List.getElem?_map] at hd
      obtain ⟨st, hst, rfl⟩ := Option.map_eq_some_iff.mp hd
      exact ⟨v, st, hst, hv, him.mv m, hgl st (List.mem_of_getElem? hst)⟩
    refine ⟨.ref c, rfl, c, .ref l, rfl, LCd.get (K := K) ec .refl (code_rows d l many given), Or.inl ⟨l, vs, rfl, .inl (.inl (.inl el)), Nat.zero_le _, fun p0 n0 => ?_⟩⟩
    rw [hvl]
    have k0 := Mv.new (S := []) (o := (.lst ([] : List V))) n0
    have e0 : upd H p0 (.lst ([] : List V)) p0 = some (.lst ([] : List V)) := upd_same
    generalize upd H p0 (.lst ([] : List V)) = H0 at k0 e0 ⊢
    have m0 := k0
    refine ⟨(by decide : 2 ≤ sizeLine), fun p1 n1 => ?_⟩
    have k1 := Mv.new (S := []) (o := (.tup [.int (sts.length : Nat), .ref p0])) n1
    have e1 : SqT K (upd H0 p1 (.tup [.int (sts.length : Nat), .ref p0])) p1 [.int (sts.length : Nat), .ref p0] := .inl (.inl upd_same)
    generalize upd H0 p1 (.tup [.int (sts.length : Nat), .ref p0]) = H1 at k1 e1 ⊢
    have m1 := k0.trans k1
    have e0 := k1.same _ _ e0
    refine ⟨p1, _, rfl, e1, rfl, _, _, rfl, _, _, rfl, rfl, ?_⟩
    refine ⟨.ref la, rfl, Or.inl ⟨la, _, rfl, .inl (.inl (.inl (m1.same _ _ hla))), ?_⟩⟩
    rw [List.length_map]
    refine ⟨(L.length : Nat), rfl, by omega, by omega, fun D nD => ?_⟩
    refine lc_range (lo := 0) (n := ((L.length : Nat) : Int).toNat) (fun i H2 => ∃ ys : List V, H2 D = some (.lst ys) ∧ PlAt H2 ys ((L.take i).map fun j => (j, secI sts.length L j)) ∧ Mv [] H1 H2)
      ⟨[], upd_same, PlAt.nil, .new nD⟩ (fun i H2 hi h2 => ?_) (fun H2 h2 => ?_)
    · obtain ⟨ys, u1, u2, u3⟩ := h2
      have hil : i < L.length := by simpa using hi
      have hj : L[i]? = some L[i] := List.getElem?_eq_getElem hil
      have hidx : L.idxOf L[i] = i := hLn.idxOf_getElem i hil
      generalize L[i] = j at hj hidx
      refine ⟨rfl, .ref la, rfl, .int (0 + (i : Int)), rfl, rd_ixL (.inl (.inl ((m1.trans u3).same _ _ hla))) (by omega) (v := .int j) (by rw [show (0 + (i : Int)).toNat = i by omega, List.getElem?_map, hj]; rfl) ?_⟩
      refine ⟨.int (sts.length : Nat), rfl, .int (0 + (i : Int)), rfl, Or.inl ⟨_, _, rfl, rfl, (by decide : 2 ≤ sizeLine), fun pt npt => ?_⟩⟩
      have kt := Mv.new (S := []) (o := .tup [.int j, .int (((sts.length : Nat) : Int) + (0 + (i : Int)))]) npt
      have hyl : ys.length ≤ 100 := by
        rw [u2.1, List.length_map, List.length_take]
        omega
      have hta : TupAt (upd H2 pt (.tup [.int j, .int (((sts.length : Nat) : Int) + (0 + (i : Int)))])) (.ref pt) (j, secI sts.length L j) := ⟨pt, rfl, by rw [upd_same, secI, hidx, Int.zero_add]⟩
      have u1' := kt.same _ _ u1
      show ∃ acc, (upd H2 pt (.tup [.int j, .int (((sts.length : Nat) : Int) + (0 + (i : Int)))])) D = some (.lst acc) ∧ _
      generalize upd H2 pt (.tup [.int j, .int (((sts.length : Nat) : Int) + (0 + (i : Int)))]) = H3 at kt hta u1' ⊢
      refine ⟨ys, u1', line5lt (by omega), ys ++ [.ref pt], upd_same, ?_, (u3.trans kt).wr nD⟩
      rw [List.take_add_one, hj, List.map_append]
      exact ((u2.mv kt).snoc hta).put u1'
    · obtain ⟨ys, u1, u2, u3⟩ := h2
      rw [show ((L.length : Nat) : Int).toNat = L.length by omega, List.take_length] at u2
      refine rd_dictPr u1 u2 (by rw [map_fst82]; exact hLn) fun cp ncp => ?_
      have kc := Mv.new (S := []) (o := .dK ((L.map fun j => (j, secI sts.length L j)).map prK82)) ncp
      have ecp : upd H2 cp (.dK ((L.map fun j => (j, secI sts.length L j)).map prK82)) cp = some (.dK ((L.map fun j => (j, secI sts.length L j)).map prK82)) := upd_same
      generalize upd H2 cp (.dK ((L.map fun j => (j, secI sts.length L j)).map prK82)) = H3 at kc ecp ⊢
      have m03 := m1.trans (u3.trans kc)
      have e03 := (u3.trans kc).same _ _ e0
      have hcp0 : cp ≠ p0 := (ne_of_none (u3.same _ _ e0) ncp).symm
      have got : ∀ {H' : Hp} {j : Int}, H' cp = some (.dK ((L.map fun j => (j, secI sts.length L j)).map prK82)) → j ∈ L → DGet H' cp (.int j) (some (.int (secI sts.length L j))) := fun {H' j} e hj => by
        have := DGet.k (k := Sum.inl j) e
        rwa [valV_prs, if_pos hj] at this
      refine ⟨.int (sts.length : Nat), rfl, (sts.length : Nat), rfl, by omega, by omega, ?_⟩
      refine for_range (lo := 0) (n := ((sts.length : Nat) : Int).toNat) (fun i σ H4 => ∃ (y6 : Option V) (zs : List V), σ = [some (.ref c), some (.int p), some (.ref la), some (.int (sts.length : Nat)), some (.ref p0), some (.ref cp), y6, none, none] ∧ H4 p0 = some (.lst zs) ∧ Ims K H4 zs ((sts.zipIdx.take i).map fun e => (unrA sts p L e).d) ∧ Mv [p0] H3 H4 ∧ Mv [] H H4)
        ⟨_, [], rfl, e03, Ims.nil, .refl, m03⟩ (fun i σ H4 hi h4 => ?_) (fun σ H4 h4 => ?_)
      · obtain ⟨y6, zs, rfl, w1, w2, w3, w4⟩ := h4
        have hil : i < sts.length := by simpa using hi
        obtain ⟨v, st, hst, hv, him, hgs⟩ := row (x := 0 + (i : Int)) (H' := H4) (by omega) (by omega) w4
        rw [show (0 + (i : Int)).toNat = i by omega] at hst hv
        have ecp4 := w3.keep _ _ (by simpa using hcp0) ecp
        have hzl : zs.length ≤ 100 := by
          rw [w2.length, List.length_map, List.length_take, List.length_zipIdx]
          omega
        have htk : sts.zipIdx.take (i + 1) = sts.zipIdx.take i ++ [(st, i)] := by
          rw [List.take_add_one, List.getElem?_zipIdx, hst]
          simp
        refine ⟨.ref p0, rfl, .inl ⟨rfl, _, .inl (.inl w1)⟩, .ref c, rfl, c, .ref l, rfl, LCd.get (K := K) ec w4 (code_rows d l many given), .int (0 + (i : Int)), rfl, rd_ixL (.inl (.inl (w4.same _ _ el))) (by omega) (v := v) (by rw [show (0 + (i : Int)).toNat = i by omega]; exact hv) ?_⟩
        refine ⟨.int (0 + (i : Int)), rfl, .ref la, rfl, rd_in82 (w4.same _ _ hla) ⟨_, rfl, ?_⟩⟩
        have fin : ∀ (v' : V) (H9 : Hp), Mv [] H4 H9 → Im K H9 v' (unrA sts p L (st, i)).d → rAppend (.ref p0) [v'] H9 fun _ H10 => ∃ (y6 : Option V) (zs : List V), [some (.ref c), some (.int p), some (.ref la), some (.int (sts.length : Nat)), some (.ref p0), some (.ref cp), some (.int (0 + (i : Int))), none, none] = [some (.ref c), some (.int p), some (.ref la), some (.int (sts.length : Nat)), some (.ref p0), some (.ref cp), y6, none, none] ∧ H10 p0 = some (.lst zs) ∧ Ims K H10 zs ((sts.zipIdx.take (i + 1)).map fun e => (unrA sts p L e).d) ∧ Mv [p0] H3 H10 ∧ Mv [] H H10 := by
          intro v' H9 m9 i9
          have e9 := m9.same _ _ w1
          have mset := Mv.set (S := [p0]) (o := .lst (zs ++ [v'])) e9 (by simp)
          refine ⟨p0, zs, v', rfl, rfl, e9, line5lt (by omega), _, zs ++ [v'], rfl, upd_same, ?_, w3.trans ((m9.mono (fun _ h => nomatch h)).trans mset), (w4.trans m9).wr n0⟩
          rw [htk, List.map_append]
          exact ((w2.mv m9).append (.cons i9 .nil)).mv mset
        by_cases hiL : ((i : Nat) : Int) ∈ L
        · rw [show decide (0 + (i : Int) ∈ L) = true by rw [Int.zero_add]; exact decide_eq_true hiL]
          intro q' nq
          have eq : upd H4 q' (.dK []) q' = some (.dK []) := upd_same
          have k9 := Mv.new (S := []) (o := .dK []) nq
          generalize upd H4 q' (.dK []) = H9 at k9 eq ⊢
          refine ⟨.int p, rfl, .ref cp, rfl, .int p, rfl, cp, .int (secI sts.length L p), rfl, got (k9.same _ _ ecp4) hpL, eq, [((Sum.inl p : L2.Key), V.int (secI sts.length L p))], rfl, (by decide : 1 ≤ 15), ?_⟩
          have m9 : Mv [] H4 (upd H9 q' (.dK (mergeK [] [(.inl p, .int (secI sts.length L p))]))) := k9.wr nq
          have e9 : upd H9 q' (.dK (mergeK [] [(.inl p, .int (secI sts.length L p))])) q' = some (.dK (mergeK [] [(.inl p, .int (secI sts.length L p))])) := upd_same
          generalize upd H9 q' (.dK (mergeK [] [(.inl p, .int (secI sts.length L p))])) = H10 at m9 e9 ⊢
          refine ⟨v, st, q', secP sts.length L p, rfl, him.mv m9, ⟨_, e9, fun j => ?_⟩, hgs, fun v' H11 m11 i11 => ?_⟩
          · show (valV (putK ([] : List (L2.Key × V)) (Sum.inl p) (V.int (secI sts.length L p))) (Sum.inl j)).getD (.int j) = _
            rw [valV_put]
            unfold secP
            by_cases hj : j = p
            · rw [if_pos (by rw [hj]), if_pos hj, hj]
              rfl
            · rw [if_neg (fun z => hj (Sum.inl.inj z)), if_neg hj]
              rfl
          · refine fin v' H11 (m9.trans m11) ?_
            unfold unrA
            rw [if_pos hiL]
            exact i11
        · rw [show decide (0 + (i : Int) ∈ L) = false by rw [Int.zero_add]; exact decide_eq_false hiL]
          intro q' nq
          have eq : upd H4 q' (.dK []) q' = some (.dK []) := upd_same
          have k9 := Mv.new (S := []) (o := .dK []) nq
          generalize upd H4 q' (.dK []) = H9 at k9 eq ⊢
          refine ⟨v, st, q', fun i => i, rfl, him.mv k9, ⟨[], eq, fun j => rfl⟩, hgs, fun v' H11 m11 i11 => ?_⟩
          refine fin v' H11 (k9.trans m11) ?_
          unfold unrA
          rw [if_neg hiL]
          rwa [ledS_id] at i11
      · obtain ⟨y6, zs, rfl, w1, w2, w3, w4⟩ := h4
        rw [show ((sts.length : Nat) : Int).toNat = sts.length by omega, List.take_of_length_le (by rw [List.length_zipIdx]; omega)] at w2
        have ecp4 := w3.keep _ _ (by simpa using hcp0) ecp
        have ela4 := w4.same _ _ hla
        refine ⟨.ref la, rfl, la, rfl, ?_⟩
        refine lc_seq (xs := L.map V.int) (.inl (.inl (.inl ela4))) (fun i D H5 => ∃ ys : List V, H5 D = some (.lst ys) ∧ PlAt H5 ys (((L.take i).filter fun j => !decide (j = p)).map fun j => (j, secI sts.length L j)) ∧ Mv [] H4 H5)
          (fun D nD => ⟨[], upd_same, PlAt.nil, .new nD⟩) (fun i D H5 nD h5 => let ⟨_, _, _, m⟩ := h5; m) (fun D nD i v H5 hv h5 => ?_) (fun D H5 nD h5 => ?_)
        · obtain ⟨ys, x1, x2, x3⟩ := h5
          rw [List.getElem?_map] at hv
          obtain ⟨j, hj, rfl⟩ := Option.map_eq_some_iff.mp hv
          have hil := (List.getElem?_eq_some_iff.mp hj).1
          have hjL : j ∈ L := List.mem_of_getElem? hj
          refine ⟨rfl, .int j, rfl, .int p, rfl, Or.inl ⟨rfl, _, rfl, ?_⟩⟩
          rw [vint_eq]
          by_cases hjp : j = p
          · rw [decide_eq_true hjp]
            refine ⟨ys, x1, ?_, x3⟩
            rw [List.take_add_one, hj, List.filter_append]
            simpa [hjp] using x2
          · rw [decide_eq_false hjp]
            refine ⟨.int j, rfl, .ref cp, rfl, .int j, rfl, cp, .int (secI sts.length L j), rfl, got (x3.same _ _ ecp4) hjL, (by decide : 2 ≤ sizeLine), fun pt npt => ?_⟩
            have kt := Mv.new (S := []) (o := .tup [.int j, .int (secI sts.length L j)]) npt
            have hyl : ys.length ≤ 100 := by
              rw [x2.1, List.length_map]
              refine Nat.le_trans (List.length_filter_le _ _) ?_
              rw [List.length_take]
              omega
            have hta : TupAt (upd H5 pt (.tup [.int j, .int (secI sts.length L j)])) (.ref pt) (j, secI sts.length L j) := ⟨pt, rfl, upd_same⟩
            have x1' := kt.same _ _ x1
            generalize upd H5 pt (.tup [.int j, .int (secI sts.length L j)]) = H6 at kt hta x1' ⊢
            refine ⟨ys, x1', line5lt (by omega), ys ++ [.ref pt], upd_same, ?_, (x3.trans kt).wr nD⟩
            rw [List.take_add_one, hj, List.filter_append, List.map_append]
            have := ((x2.mv kt).snoc hta).put x1' (o := .lst (ys ++ [.ref pt]))
            simpa [hjp] using this
        · obtain ⟨ys, x1, x2, x3⟩ := h5
          rw [List.length_map, List.take_length] at x2
          refine rd_dictPr x1 x2 (by rw [map_fst82]; exact hLn.filter _) fun ip nip => ?_
          have ki := Mv.new (S := []) (o := .dK (((L.filter fun j => !decide (j = p)).map fun j => (j, secI sts.length L j)).map prK82)) nip
          have eip : upd H5 ip (.dK (((L.filter fun j => !decide (j = p)).map fun j => (j, secI sts.length L j)).map prK82)) ip = some (.dK (((L.filter fun j => !decide (j = p)).map fun j => (j, secI sts.length L j)).map prK82)) := upd_same
          generalize upd H5 ip (.dK (((L.filter fun j => !decide (j = p)).map fun j => (j, secI sts.length L j)).map prK82)) = H6 at ki eip ⊢
          have m46 := x3.trans ki
          have m06 := w4.trans m46
          have hQ : ∀ {H' : Hp}, Mv [] H6 H' → LedAt H' ip (secQ sts.length L p) := fun {H'} m => ⟨_, m.same _ _ eip, fun j => by
            rw [valV_prs]
            unfold secQ
            by_cases hj : j ∈ L ∧ j ≠ p
            · rw [if_pos (List.mem_filter.mpr ⟨hj.1, by simp [hj.2]⟩), if_pos hj]
              rfl
            · rw [if_neg (fun z => hj ⟨(List.mem_filter.mp z).1, by simpa using (List.mem_filter.mp z).2⟩), if_neg hj]
              rfl⟩
          refine ⟨.ref p0, rfl, .ref la, rfl, la, rfl, ?_⟩
          refine lc_fm (K := K) (as := L) (enc := PyData.int) (fun i => some ((ledS (secQ sts.length L p) (sts.getD i.toNat (.fin "" []))).d)) (.inl (.inl (.inl (m06.same _ _ hla)))) (ims_int82 L) (by omega) (fun z o H8 Q' R' hm him m8 k1' _ => ?_) (fun D2 ys' H8 nD2 eD iD m8 => ?_)
          · cases him.intI
            obtain ⟨o0, o1⟩ := hLin o hm
            have m08 := m06.trans m8
            obtain ⟨v, st, hst, hv, him, hgs⟩ := row (x := o) o0 o1 m08
            refine ⟨rfl, .ref c, rfl, c, .ref l, rfl, LCd.get (K := K) ec m08 (code_rows d l many given), .int o, rfl, rd_ixL (.inl (.inl (m08.same _ _ el))) o0 hv ?_⟩
            refine ⟨.ref ip, rfl, v, st, ip, secQ sts.length L p, rfl, him, hQ m8, hgs, fun v'' H10 m10 i10 => ?_⟩
            refine k1' _ rfl v'' H10 m10 ?_
            rw [List.getD_eq_getElem?_getD, hst]
            exact i10
          · have eD' : (L.filterMap fun i => some ((ledS (secQ sts.length L p) (sts.getD i.toNat (.fin "" []))).d)) = L.map fun i => (ledS (secQ sts.length L p) (sts.getD i.toNat (.fin "" []))).d := by
              rw [List.filterMap_eq_map']
            rw [eD'] at iD
            have m48 := m46.trans m8
            have w18 := m48.same _ _ w1
            have hzl : zs.length ≤ 100 := by
              rw [w2.length, List.length_map, List.length_zipIdx]
              omega
            have hyl : ys'.length ≤ 100 := by
              rw [iD.length, List.length_map]
              omega
            refine rd_catL w18 eD (Nat.le_trans (show _ ≤ 200 by omega) (by decide)) fun pf H9 npf m9 ef => ?_
            have hnew : Ims K H9 (zs ++ ys') ((unrS sts p L).map Sta.d) := by
              have := ((w2.mv m48).append iD).mv m9
              unfold unrS
              rw [List.map_append, List.map_map, List.map_map]
              exact this
            have m09 := (m06.trans m8).trans m9
            have ecp9 := (m48.trans m9).same _ _ ecp4
            refine ⟨.ref pf, rfl, .int (sts.length : Nat), rfl, (sts.length : Nat), rfl, by omega, by omega, fun t1 nt1 => ?_⟩
            refine lc_range (lo := 0) (n := ((sts.length : Nat) : Int).toNat) (fun i H11 => ∃ ys : List V, H11 t1 = some (.lst ys) ∧ PlAt H11 ys ((List.range i).map fun i : Nat => ((i : Int), (i : Int))) ∧ Mv [] H9 H11)
              ⟨[], upd_same, PlAt.nil, .new nt1⟩ (fun i H11 hi h11 => ?_) (fun H11 h11 => ?_)
            · obtain ⟨ys, u1, u2, u3⟩ := h11
              refine ⟨rfl, .int (0 + (i : Int)), rfl, .int (0 + (i : Int)), rfl, (by decide : 2 ≤ sizeLine), fun pt npt => ?_⟩
              have kt := Mv.new (S := []) (o := .tup [.int (0 + (i : Int)), .int (0 + (i : Int))]) npt
              have hyl : ys.length ≤ 100 := by
                rw [u2.1, List.length_map, List.length_range]
                omega
              have hta : TupAt (upd H11 pt (.tup [.int (0 + (i : Int)), .int (0 + (i : Int))])) (.ref pt) ((i : Int), (i : Int)) := ⟨pt, rfl, by rw [upd_same, Int.zero_add]⟩
              have u1' := kt.same _ _ u1
              generalize upd H11 pt (.tup [.int (0 + (i : Int)), .int (0 + (i : Int))]) = H12 at kt hta u1' ⊢
              refine ⟨ys, u1', line5lt (by omega), ys ++ [.ref pt], upd_same, ?_, (u3.trans kt).wr nt1⟩
              rw [List.range_succ, List.map_append]
              exact ((u2.mv kt).snoc hta).put u1'
            · obtain ⟨ys, u1, u2, u3⟩ := h11
              rw [Int.toNat_natCast] at u2
              refine ⟨.ref la, rfl, la, rfl, ?_⟩
              have epl11 := (m09.trans u3).same _ _ hla
              refine lc_seq (xs := L.map V.int) (.inl (.inl (.inl epl11))) (fun i D H12 => ∃ zs : List V, H12 D = some (.lst zs) ∧ PlAt H12 zs ((L.take i).map fun j => (j, secI sts.length L j)) ∧ Mv [] H11 H12)
                (fun D nD => ⟨[], upd_same, PlAt.nil, .new nD⟩) (fun i D H12 nD h12 => let ⟨_, _, _, m⟩ := h12; m) (fun D nD i v H12 hv h12 => ?_) (fun D H12 nD h12 => ?_)
              · obtain ⟨zs2, v1, v2, v3⟩ := h12
                rw [List.getElem?_map] at hv
                obtain ⟨j, hj, rfl⟩ := Option.map_eq_some_iff.mp hv
                have hil := (List.getElem?_eq_some_iff.mp hj).1
                have hjL : j ∈ L := List.mem_of_getElem? hj
                refine ⟨rfl, .int j, rfl, .ref cp, rfl, .int j, rfl, cp, .int (secI sts.length L j), rfl, got ((u3.trans v3).same _ _ ecp9) hjL, (by decide : 2 ≤ sizeLine), fun pt npt => ?_⟩
                have kt := Mv.new (S := []) (o := .tup [.int j, .int (secI sts.length L j)]) npt
                have hzl2 : zs2.length ≤ 100 := by
                  rw [v2.1, List.length_map, List.length_take]
                  omega
                have hta : TupAt (upd H12 pt (.tup [.int j, .int (secI sts.length L j)])) (.ref pt) (j, secI sts.length L j) := ⟨pt, rfl, upd_same⟩
                have v1' := kt.same _ _ v1
                generalize upd H12 pt (.tup [.int j, .int (secI sts.length L j)]) = H13 at kt hta v1' ⊢
                refine ⟨zs2, v1', line5lt (by omega), zs2 ++ [.ref pt], upd_same, ?_, (v3.trans kt).wr nD⟩
                rw [List.take_add_one, hj, List.map_append]
                exact ((v2.mv kt).snoc hta).put v1'
              · obtain ⟨zs2, v1, v2, v3⟩ := h12
                rw [List.length_map, List.take_length] at v2
                have u1' := v3.same _ _ u1
                refine rd_catL u1' v1 (Nat.le_trans (show ys.length + zs2.length ≤ 200 by rw [u2.1, v2.1, List.length_map, List.length_map, List.length_range]; omega) (by decide)) fun pc H13 npc m13 ec13 => ?_
                have hall : PlAt H13 (ys ++ zs2) (prsU sts.length L) := ((u2.mv v3).app v2).mv m13
                walk_at "nc"
                refine rd_sortP (K := K) ec13 hall fun y1 q1 pa npa hq1 hperm hpw => ?_
                have ka := Mv.new (S := []) (o := .lst y1) npa
                have ea : upd H13 pa (.lst y1) pa = some (.lst y1) := upd_same
                generalize upd H13 pa (.lst y1) = H14 at ka ea ⊢
                refine ⟨(by decide : 2 ≤ sizeLine), fun pr npr => ?_⟩
                have kr := Mv.new (S := []) (o := .tup [.ref pf, .ref pa]) npr
                have er : SqT K (upd H14 pr (.tup [.ref pf, .ref pa])) pr [.ref pf, .ref pa] := .inl (.inl upd_same)
                generalize upd H14 pr (.tup [.ref pf, .ref pa]) = H15 at kr er ⊢
                have m915 := u3.trans (v3.trans (m13.trans (ka.trans kr)))
                exact q pr pf pa _ y1 q1 H15 (m09.trans m915) er (m915.same _ _ ef) (hnew.mv m915) (kr.same _ _ ea) ((hq1.mv ka).mv kr) ⟨hperm, hpw⟩
end
end Fm
namespace Fm
open PySem PySem.Spec PyProof.Rows L2 SlX
local macro_rules | `(tactic| walk_at "nn") => `(tactic| dsimp only [tC, tNil, tCons, tCB, tCall, gName, tSeq, tAsg, tPar, tDrop, tRet])
local macro_rules | `(tactic| walk_at "nc") => `(tactic| dsimp only [tC, tNil, tCons, tCB, tCall])
def dblS (pr : List (Str × Str)) (sts : List Sta) : List Sta := sts.map (stdS pr sts.length) ++ sts.map (falS pr sts.length)
abbrev dblW (rs : List ActR) (pr : List (Str × Str)) : List ActR := normW (rs.map (dblR pr))
structure DblOk (rs : List ActR) (pr : List (Str × Str)) (many given : Int) (sts : List Sta) : Prop where
  w : WOk rs
  w0 : 0 < rs.length
  p : PrOk rs pr
  d : ∀ r ∈ rs, (dblR pr r).ok
  wd : WOk (dblW rs pr)
  fits : ∀ st ∈ sts, PrFits pr st
  small : ∀ st ∈ sts, ∀ act ts ways, st = .ask act ts ways → ways.length ≤ 100 ∧ ∀ w ∈ ways, w.1.length ≤ 100
  ok : ∀ st ∈ dblS pr sts, st.ok (dblW rs pr) many (dblS pr sts).length
  okT : ∀ st ∈ sts.map (relS pr), st.ok rs many (sts.map (relS pr)).length
  l0 : 0 < sts.length
  l1 : sts.length ≤ 100
  g0 : 0 ≤ given
  g1 : given ≤ many
  m1 : many ≤ 24
def sp_doubled (K : PySem.W.Frag) (C CW : Addr) : Sp := fun vs H Q _ => ∃ (x d wx : Addr) (rs : List ActR) (pr : List (Str × Str)) (many given : Int) (sts : List Sta), vs = [.ref x, .ref d] ∧ CodAt K H C CW x wx rs many given sts ∧ PrAt H d pr ∧ DblOk rs pr many given sts ∧
  ∀ y wy H', Mv [] H H' → CodAt K H' C CW y wy (dblW rs pr) many given ((dblS pr sts).map Sta.ord) → Q (.ref y) H'
def sp_trusting (K : PySem.W.Frag) (C CW : Addr) : Sp := fun vs H Q _ => ∃ (x d wx : Addr) (rs : List ActR) (pr : List (Str × Str)) (many given : Int) (sts : List Sta), vs = [.ref x, .ref d] ∧ CodAt K H C CW x wx rs many given sts ∧ PrAt H d pr ∧ DblOk rs pr many given sts ∧
  ∀ y H', Mv [] H H' → CodAt K H' C CW y wx rs many given ((sts.map (relS pr)).map Sta.ord) → Q (.ref y) H'
section
variable {P : Program} {w : World} {K : PySem.W.Frag} {mg : Str → Option Value} {base : Heap}
end
end Fm
namespace Fm
open PySem PySem.Spec PyProof.Rows L2 SlX
theorem perm_sub {α : Type} : ∀ {a b : List α}, a.Nodup → (∀ x ∈ a, x ∈ b) → b.length ≤ a.length → a.Perm b
  | [], b, _, _, hl => by
    have : b = [] := List.length_eq_zero_iff.mp (Nat.le_zero.mp hl)
    rw [this]
  | x :: a, b, n, hs, hl => by
    rw [List.nodup_cons] at n
    obtain ⟨l1, l2, rfl⟩ := List.append_of_mem (hs x List.mem_cons_self)
    have h : a.Perm (l1 ++ l2) := by
      refine perm_sub n.2 (fun y hy => ?_) ?_
      · rcases List.mem_append.mp (hs y (List.mem_cons_of_mem _ hy)) with h | h
        · exact List.mem_append.mpr (.inl h)
        · rcases List.mem_cons.mp h with rfl | h
          · exact absurd hy n.1
          · exact List.mem_append.mpr (.inr h)
      · rw [List.length_append] at hl ⊢
        simp only [List.length_cons] at hl
        omega
    exact ((List.perm_cons x).mpr h).trans List.perm_middle.symm
theorem nd_of_map {α β : Type} {f : α → β} {xs : List α} (n : (xs.map f).Nodup) : xs.Nodup := by
  refine List.Pairwise.imp ?_ (List.pairwise_map.mp n)
  intro a b h e
  exact h (by rw [e])
theorem lk_in {b : List (Str × Int)} {x : Str} {j : Int} (h : lk b x = some j) : (x, j) ∈ b := by
  unfold lk at h
  obtain ⟨e, he, rfl⟩ := Option.map_eq_some_iff.mp h
  have h1 : e.1 = x := by simpa using List.find?_some he
  rw [← h1]
  exact List.mem_of_find?_eq_some he
theorem outsEq_iff {a b : List (Str × Int)} (na : (a.map (·.1)).Nodup) (nb : (b.map (·.1)).Nodup) : outsEq a b = true ↔ a.Perm b := by
  unfold outsEq
  rw [Bool.and_eq_true, beq_iff_eq, List.all_eq_true]
  constructor
  · rintro ⟨hl, hh⟩
    refine perm_sub (nd_of_map na) (fun e he => ?_) (by omega)
    have := hh e he
    unfold hitO at this
    cases hl : lk b e.1 with
    | none => rw [hl] at this; cases this
    | some j =>
      rw [hl] at this
      have e2 : e.2 = j := by simpa using this
      have := lk_in hl
      rw [← e2] at this
      exact this
  · intro p
    refine ⟨p.length_eq, fun e he => ?_⟩
    unfold hitO
    rw [lk_mem nb (p.mem_iff.mp he)]
    exact beq_self_eq_true _
structure WfR (rs : List ActR) : Prop where
  nd : (rs.map (·.nm)).Nodup
  ond : ∀ r ∈ rs, (r.outs.map (·.1)).Nodup
theorem actEq_iff {r q : ActR} (hn : r.nm = q.nm) (nr : (r.outs.map (·.1)).Nodup) (nq : (q.outs.map (·.1)).Nodup) : actEq r q = true ↔ r.norm = q.norm := by
  unfold actEq
  rw [Bool.and_eq_true, beq_iff_eq, outsEq_iff nr nq]
  constructor
  · rintro ⟨h1, h2⟩
    exact norm_outs hn h1 nq h2
  · intro h
    have h0 : r.norm.ar = q.norm.ar := by rw [h]
    refine ⟨h0, ?_⟩
    have h1 : srt leS (·.1) r.outs = srt leS (·.1) q.outs := congrArg ActR.outs h
    have h2 := (srt_perm (le := leS) (k := fun e : Str × Int => e.1) r.outs).symm
    rw [h1] at h2
    exact h2.trans (srt_perm _)
theorem hitA_iff {qs : List ActR} {r : ActR} (hq : WfR qs) (nr : (r.outs.map (·.1)).Nodup) : hitA qs r = true ↔ r.norm ∈ qs.map ActR.norm := by
  unfold hitA
  cases hf : qs.find? fun q => decide (q.nm = r.nm) with
  | none =>
    rw [List.find?_eq_none] at hf
    refine ⟨fun h => (by cases h), fun h => ?_⟩
    obtain ⟨q, hqm, e⟩ := List.mem_map.mp h
    have h0 : q.norm.nm = r.norm.nm := by rw [e]
    exact absurd (decide_eq_true (show q.nm = r.nm from h0)) (hf q hqm)
  | some q =>
    have hqm := List.mem_of_find?_eq_some hf
    have hqn : q.nm = r.nm := by simpa using List.find?_some hf
    show actEq r q = true ↔ _
    rw [actEq_iff hqn.symm nr (hq.ond q hqm)]
    refine ⟨fun h => List.mem_map.mpr ⟨q, hqm, h.symm⟩, fun h => ?_⟩
    obtain ⟨q', hqm', e⟩ := List.mem_map.mp h
    have h0 : q'.norm.nm = r.norm.nm := by rw [e]
    have : q' = q := nd_key hq.nd hqm' hqm ((show q'.nm = r.nm from h0).trans hqn.symm)
    rw [← e, this]
theorem rsEq_iff {rs qs : List ActR} (hr : WfR rs) (hq : WfR qs) : rsEq rs qs = true ↔ normW rs = normW qs := by
  unfold rsEq
  rw [Bool.and_eq_true, beq_iff_eq, List.all_eq_true]
  constructor
  · rintro ⟨hl, hh⟩
    refine normW_perm hq.nd (perm_sub (nd_of_map (f := ActR.nm) ?_) (fun x hx => ?_) (by rw [List.length_map, List.length_map]; omega))
    · rw [List.map_map]
      exact hr.nd
    · obtain ⟨r, hr', rfl⟩ := List.mem_map.mp hx
      exact (hitA_iff hq (hr.ond r hr')).mp (hh r hr')
  · intro h
    have p : (rs.map ActR.norm).Perm (qs.map ActR.norm) := by
      have h2 := (srt_perm (le := leS) (k := fun r : ActR => r.nm) (rs.map ActR.norm)).symm
      have h3 : srt leS (fun r : ActR => r.nm) (rs.map ActR.norm) = srt leS (fun r : ActR => r.nm) (qs.map ActR.norm) := h
      rw [h3] at h2
      exact h2.trans (srt_perm _)
    refine ⟨by have := p.length_eq; rwa [List.length_map, List.length_map] at this, fun r hr' => ?_⟩
    exact (hitA_iff hq (hr.ond r hr')).mpr (p.mem_iff.mp (List.mem_map.mpr ⟨r, hr', rfl⟩))
theorem rsEq_refl {rs : List ActR} (hr : WfR rs) : rsEq rs rs = true := (rsEq_iff hr hr).mpr rfl
end Fm
namespace Fm
open PySem PySem.Spec PyProof.Rows L2 SlX
local macro_rules | `(tactic| walk_at "nn") => `(tactic| dsimp only [tC, tNil, tCons, tCB, tCall, gName, tSeq, tAsg, tPar, tDrop, tRet])
local macro_rules | `(tactic| walk_at "nc") => `(tactic| dsimp only [tC, tNil, tCons, tCB, tCall])
mutual
theorem eqv_comm : ∀ a b : PyData, PyData.eqv a b = PyData.eqv b a
  | .none, b => by cases b <;> simp [PyData.eqv]
  | .bool x, b => by
    cases b with
    | bool y => simp only [PyData.eqv]; exact BEq.comm
    | int y => simp only [PyData.eqv]; exact BEq.comm
    | _ => simp [PyData.eqv]
  | .int x, b => by
    cases b with
    | bool y => simp only [PyData.eqv]; exact BEq.comm
    | int y => simp only [PyData.eqv]; exact BEq.comm
    | _ => simp [PyData.eqv]
  | .str x, b => by
    cases b with
    | str y =>
      simp only [PyData.eqv]
      rw [Bool.eq_iff_iff, beq_iff_eq, beq_iff_eq]
      exact eq_comm
    | _ => simp [PyData.eqv]
  | .list xs, b => by
    cases b with
    | list ys => simp only [PyData.eqv]; exact eqvAll_comm xs ys
    | _ => simp [PyData.eqv]
  | .tuple xs, b => by
    cases b with
    | tuple ys => simp only [PyData.eqv]; exact eqvAll_comm xs ys
    | _ => simp [PyData.eqv]
  | .dict xs, b => by cases b <;> simp [PyData.eqv]
theorem eqvAll_comm : ∀ a b : List PyData, PyData.eqvAll a b = PyData.eqvAll b a
  | [], [] => rfl
  | [], _ :: _ => by simp [PyData.eqvAll]
  | _ :: _, [] => by simp [PyData.eqvAll]
  | x :: xs, y :: ys => by
    simp only [PyData.eqvAll]
    rw [eqv_comm x y, eqvAll_comm xs ys]
end
section
variable {K : PySem.W.Frag} {H H' : Hp}
mutual
theorem dp0 (m : Mv [] H H') : ∀ (d : PyData) (v : V), Dp K H v d → Dp K H' v d
  | .none, _, h => by cases h; exact .non
  | .bool b, _, h => by cases h; exact .bl b
  | .int i, _, h => by cases h; exact .int i
  | .str x, _, h => by cases h; exact .str x
  | .tuple ds, _, h => by
    cases h with
    | tup hs ha => exact .tup (m.sqT hs) (dps0 m ds _ ha)
  | .list ds, _, h => by
    cases h with
    | lst hs ha => exact .lst (m.same.seq hs) (dps0 m ds _ ha)
  | .dict _, _, h => by cases h
theorem dps0 (m : Mv [] H H') : ∀ (ds : List PyData) (vs : List V), DpAll K H vs ds → DpAll K H' vs ds
  | [], _, h => by cases h; exact .nil
  | d :: ds, _, h => by
    cases h with
    | cons h1 h2 => exact .cons (dp0 m d _ h1) (dps0 m ds _ h2)
end
end
def stsEq (sts sts2 : List Sta) : Bool := PyData.eqv (.list (sts.map Sta.d)) (.list (sts2.map Sta.d))
theorem parts_eqv (many given many2 given2 : Int) (sts sts2 : List Sta) : PyData.eqv (partsD many given sts) (partsD many2 given2 sts2) = (decide (many = many2) && (decide (given = given2) && stsEq sts sts2)) := by
  unfold partsD stsEq
  simp only [PyData.eqv, PyData.eqvAll, Bool.and_true]
  rw [Bool.beq_eq_decide_eq, Bool.beq_eq_decide_eq]
def StF (sts : List Sta) : Prop := ∀ st ∈ sts, fine st.d ∧ st.d.depth ≤ 55
theorem list_shaped {sts : List Sta} (h : StF sts) : SeqAt.shaped (.list (sts.map Sta.d)) = true ∧ PyData.depthAll (sts.map Sta.d) ≤ 55 ∧ PyData.canLayAll0 (sts.map Sta.d) = true := by
  have hf : fineAll (sts.map Sta.d) := fineAll_iff.mpr fun x hx => by
    obtain ⟨st, hst, rfl⟩ := List.mem_map.mp hx
    exact (h st hst).1
  have hd : PyData.depthAll (sts.map Sta.d) ≤ 55 := depthAll_le fun d hd => by
    obtain ⟨st, hst, rfl⟩ := List.mem_map.mp hd
    exact (h st hst).2
  have hl := (fine_lays _ hf).1
  refine ⟨?_, hd, hl⟩
  show (PyData.canLay0 (.list (sts.map Sta.d)) && decide (PyData.depth (.list (sts.map Sta.d)) ≤ 64)) = true
  rw [Bool.and_eq_true, decide_eq_true_iff]
  simp only [PyData.canLay0, PyData.depth]
  exact ⟨hl, by omega⟩
theorem parts_shaped {many given : Int} {sts : List Sta} (h : StF sts) : SeqAt.shaped (partsD many given sts) = true := by
  obtain ⟨_, hd, hl⟩ := list_shaped h
  show (PyData.canLay0 (partsD many given sts) && decide (PyData.depth (partsD many given sts) ≤ 64)) = true
  rw [Bool.and_eq_true, decide_eq_true_iff]
  unfold partsD
  simp only [PyData.canLay0, PyData.canLayAll0, PyData.depth, PyData.depthAll, hl]
  exact ⟨rfl, by omega⟩
def codeEq (rs rs2 : List ActR) (many many2 given given2 : Int) (sts sts2 : List Sta) : Bool := rsEq rs rs2 && (decide (many = many2) && (decide (given = given2) && stsEq sts sts2))
def sp_CodeEq (K : PySem.W.Frag) (C CW : Addr) : Sp := fun vs H Q _ => ∃ (x wx : Addr) (rs : List ActR) (many given : Int) (sts : List Sta) (y : V), vs = [.ref x, y] ∧ CodAt K H C CW x wx rs many given sts ∧ StF sts ∧
  ((∃ x2 wx2 rs2 many2 given2 sts2, y = .ref x2 ∧ CodAt K H C CW x2 wx2 rs2 many2 given2 sts2 ∧ StF sts2 ∧ ∀ H', Mv [] H H' → Q (.bl (codeEq rs rs2 many many2 given given2 sts sts2)) H') ∨
   ((∃ T, TyX K H y (.type T) ∧ plainTy T = true ∧ Q (.bl false) H) ∨ ∃ x2 rs2, y = .ref x2 ∧ WldAt K H CW x2 rs2 ∧ Q (.bl false) H))
theorem kitOne_dif {K : PySem.W.Frag} {C D : Addr} (h : PySem.W.subIn K (.ref D) (.ref C) = some false) (hne : D ≠ C) (hc : PySem.W.isClsIn K C = true) (ht : PySem.W.typeIn K (.ref C) = some (.type "type")) : PySem.W.kitOne K (.ref D) (.ref C) = some false := by
  unfold PySem.W.kitOne
  rw [if_neg (by simpa using hne)]
  show (if _ then _ else _) = _
  rw [if_pos ?_]
  · exact h
  · rw [ht]
    unfold PySem.W.isClsIn at hc
    simp [hc]
section
variable {P : Program} {w : World} {K : PySem.W.Frag} {mg : Str → Option Value} {base : Heap}
theorem ok_Code___eq__ (T : TX K mg) {k : Nat} : FnOk P w K mg base CX0 (k + 3) T.d_Code___eq__.f T.d_Code___eq__.fd P_Code___eq__ (sp_CodeEq K T.C_Code T.C_World) := by
  have G_World___eq__ : FnOk P w K mg base CX0 1 T.d_World___eq__.f T.d_World___eq__.fd P_World___eq__ (sp_WorldEq K T.C_World) := ok_World___eq__ T
  have G_Code_parts : FnOk P w K mg base CX0 1 T.d_Code_parts.f T.d_Code_parts.fd P_Code_parts (sp_Cparts K T.C_Code T.C_World) := ok_Code_parts T
  refine T.d_Code___eq__.F.ok sc_Code___eq__ (fun vs H Q E h => ?_) (fun cdv A outer s H vs Q E hr h => ?_)
  · obtain ⟨_, _, _, _, _, _, _, rfl, _⟩ := h
    rfl
  · obtain ⟨x, wx, rs, many, given, sts, y, rfl, hC, hF, h⟩ := h
    have hu64 := hr.units
    obtain ⟨dx, l, xs, hs, hW, hl, hx⟩ := id hC
    refine ⟨_, (pss_one (ps_ret (pe_and (pe_callB (r := rIsiX K (.ref T.C_Code)) (call_isiX (.ref T.C_Code)) (by rfl) T.b_isinstance bt_isinstance (pa_cons (pv 1) (pa_cons (pe_glob rfl T.g_Code (show L2.RelV (.ref T.C_Code) _ from rfl)) pa_nil))) (pe_and (pe_cmpR (r := rOwnG K T.C_World (sp_WorldEq K T.C_World) _) (op_ownG T.d_World___eq__.M.at_ T.d_World___eq__.M.fn (fnR_of G_World___eq__ T.d_World___eq__.b) (hr.mono (by omega)) pass0) (pe_slC (K := K) rfl (pv 0)) (pe_slC (K := K) rfl (pv 1)) (nomark _)) (pe_one (pe_cmpR (r := rEqG K) (op_eqG hu64) (pe_methSl0 (pv 0) T.c_Code T.d_Code_parts.M (fnR_of G_Code_parts T.d_Code_parts.b) (hr.mono (by omega)) pass0) (pe_methSl0 (pv 1) T.c_Code T.d_Code_parts.M (fnR_of G_Code_parts T.d_Code_parts.b) (hr.mono (by omega)) pass0) (nomark _))))))), ?_⟩
    rcases h with ⟨x2, wx2, rs2, many2, given2, sts2, rfl, hC2, hF2, q⟩ | ⟨ty, ht, hp, q⟩ | ⟨x2, rs2, rfl, hW2, q⟩
    · obtain ⟨dx2, l2, xs2, hs2, hW2, hl2, hx2⟩ := id hC2
      refine ⟨.ref x2, rfl, ?_⟩
      walk_at "nc"
      refine Or.inl ⟨x2, T.C_Code, dx2, _, .ref T.C_Code, true, rfl, rfl, fun _ h => h, hs2, T.c_Code, T.is_Code, kitOne_self _, ?_⟩
      refine ⟨true, rfl, ?_⟩
      refine ⟨.ref x, rfl, x, T.C_Code, dx, T.p_Code_its_world, _, 3, .ref wx, rfl, hs, T.c_Code, T.sl_Code_its_world, rfl, ?_⟩
      refine ⟨.ref x2, rfl, x2, T.C_Code, dx2, T.p_Code_its_world, _, 3, .ref wx2, rfl, hs2, T.c_Code, T.sl_Code_its_world, rfl, ?_⟩
      obtain ⟨dw, _, _, hws, _⟩ := id hW
      obtain ⟨dw2, _, _, hws2, _⟩ := id hW2
      refine ⟨wx, dw, _, rfl, hws, .inl ⟨wx2, _, _, _, rfl, hws2, notFirst_self⟩, wx, rs, _, rfl, hW, .inl ⟨wx2, rs2, rfl, hW2, ?_⟩⟩
      unfold codeEq at q
      cases he : rsEq rs rs2 with
      | false =>
        rw [he, Bool.false_and] at q
        exact ⟨false, rfl, q H .refl⟩
      | true =>
        rw [he, Bool.true_and, ← parts_eqv] at q
        refine ⟨true, rfl, ?_⟩
        refine ⟨.ref x, rfl, x, dx, _, rfl, hs, x, wx, rs, many, given, sts, rfl, hC, fun v1 H1 h1 m1 => ?_⟩
        refine ⟨.ref x2, rfl, x2, dx2, _, rfl, Slt.mv hs2 m1, x2, wx2, rs2, many2, given2, sts2, rfl, hC2.mv m1, fun v2 H2 h2 m2 => ?_⟩
        exact Or.inr ⟨_, _, dp0 m2 _ _ h1, h2, parts_shaped hF, parts_shaped hF2, q H2 (m1.trans m2)⟩
    · refine ⟨y, rfl, ?_⟩
      walk_at "nc"
      refine Or.inr ⟨y, .ref T.C_Code, .type ty, .ref T.C_Code, false, rfl, .own _, ht, kitOne_plain hp T.c_Code.ic T.ty_Code, ?_⟩
      exact ⟨false, rfl, q⟩
    · obtain ⟨dw2, _, _, hws2, _⟩ := id hW2
      refine ⟨.ref x2, rfl, ?_⟩
      walk_at "nc"
      refine Or.inl ⟨x2, T.C_World, dw2, _, .ref T.C_Code, false, rfl, rfl, fun _ h => h, hws2, T.c_World, T.is_World, kitOne_dif T.df_World_Code ?_ T.c_Code.ic T.ty_Code, ?_⟩
      · exact T.dn_World_Code
      exact ⟨false, rfl, q⟩
end
end Fm
namespace Fm
open PySem PySem.Spec PyProof.Rows L2 SlX
local macro_rules | `(tactic| walk_at "nn") => `(tactic| dsimp only [tC, tNil, tCons, tCB, tCall, gName, tSeq, tAsg, tPar, tDrop, tRet])
local macro_rules | `(tactic| walk_at "nc") => `(tactic| dsimp only [tC, tNil, tCons, tCB, tCall])
def sp_quiet (K : PySem.W.Frag) : Sp := fun vs H Q _ => ∃ (b c d : Addr) (many given : Int) (sts : List Sta) (rs : List ActR), vs = [.ref b, .ref c] ∧ Bag H b ∧ LCode K H c d many given sts ∧ 0 < sts.length ∧ sts.length ≤ 1000 ∧ (∀ st ∈ sts, st.raw rs many sts.length) ∧
  ∀ c' l sts' H', LCodeL K H' c' d l many given sts' → H c' = none → H l = none → sts'.length = sts.length → (∀ st ∈ sts', st.raw rs many sts.length) → Dr b H H' → Q (.ref c') H'
section
variable {P : Program} {w : World} {K : PySem.W.Frag} {mg : Str → Option Value} {base : Heap}
end
end Fm
namespace Fm
open PySem PySem.Spec PyProof.Rows L2 SlX
local macro_rules | `(tactic| walk_at "nn") => `(tactic| dsimp only [tC, tNil, tCons, tCB, tCall, gName, tSeq, tAsg, tPar, tDrop, tRet])
local macro_rules | `(tactic| walk_at "nc") => `(tactic| dsimp only [tC, tNil, tCons, tCB, tCall])
def sp_lshow (K : PySem.W.Frag) : Sp := fun vs H Q _ => ∃ (c d : Addr) (many given : Int) (sts : List Sta) (i : Int), vs = [.ref c, .int i] ∧ LCode K H c d many given sts ∧ sts.length ≤ 1000 ∧ (∀ chs g, Sta.set chs g ∈ sts → 0 ≤ g ∧ g < sts.length) ∧ 0 ≤ i ∧ i < sts.length ∧
  ∀ r, Shows sts i r → Q (optV r) H
end Fm
namespace Fm
open PySem PySem.Spec PyProof.Rows L2 SlX
local macro_rules | `(tactic| walk_at "nn") => `(tactic| dsimp only [tC, tNil, tCons, tCB, tCall, gName, tSeq, tAsg, tPar, tDrop, tRet])
local macro_rules | `(tactic| walk_at "nc") => `(tactic| dsimp only [tC, tNil, tCons, tCB, tCall])
theorem Ims.perm {α : Type} {K : PySem.W.Frag} {H : Hp} {D : α → PyData} {rows : List α} {xs ys : List V} (h : Ims K H xs (rows.map D)) (p : ys.Perm xs) : ∃ rows' : List α, rows'.Perm rows ∧ Ims K H ys (rows'.map D) := by
  have hl : rows.length = xs.length := by
    have := h.length
    rw [List.length_map] at this
    exact this.symm
  have e : xs = (rows.zip xs).map (·.2) := (List.map_snd_zip (by omega)).symm
  rw [e] at p
  obtain ⟨zs, hz, rfl⟩ := perm_lift p
  refine ⟨zs.map (·.1), ?_, Ims.ofPairs zs fun z hz' => h.pairs z (hz.mem_iff.mp hz')⟩
  have := hz.map (fun z : α × V => z.1)
  rwa [List.map_fst_zip (by omega)] at this
theorem ask_norm {r : ActR} {many places : Int} {ts : List Tm} {ways : List (Str × List Int × Int)} (h : AskOk r many places ts ways) : AskOk r.norm many places ts ways :=
  ⟨h.len, h.ts, h.pm.trans ((srt_perm r.outs).map _).symm, fun w hw => by
    obtain ⟨i, h1, h2⟩ := h.ways w hw
    exact ⟨i, srt_mem.mpr h1, h2⟩⟩
theorem sta_norm {rs : List ActR} {many places : Int} : ∀ {st : Sta}, st.ok rs many places → st.ok (normW rs) many places
  | .set _ _, h => h
  | .ask _ _ _, ⟨r, hr, h1, h2⟩ => ⟨r.norm, srt_mem.mpr (List.mem_map.mpr ⟨r, hr, rfl⟩), h1, ask_norm h2⟩
  | .fin _ _, h => h
theorem wok_norm {rs : List ActR} (hok : ∀ r ∈ rs, r.ok) (hnd : (rs.map (·.nm)).Nodup) (hf : rs.length < 60) (hond : ∀ r ∈ rs, (r.outs.map (·.1)).Nodup) : WOk (normW rs) := by
  have hm : ∀ r ∈ normW rs, ∃ q ∈ rs, r = q.norm := fun r hr => by
    obtain ⟨q, hq, e⟩ := List.mem_map.mp (srt_mem.mp hr)
    exact ⟨q, hq, e.symm⟩
  refine ⟨fun r hr => ?_, ?_, ?_, fun r hr => ?_, fun r hr => ?_⟩
  · obtain ⟨q, hq, rfl⟩ := hm r hr
    exact ActR.ok_norm (hok q hq)
  · refine srt_nd ?_
    rw [List.map_map]
    exact hnd
  · unfold normW
    rw [srt_len, List.length_map]
    exact hf
  · obtain ⟨q, hq, rfl⟩ := hm r hr
    exact srt_nd (hond q hq)
  · obtain ⟨q, hq, rfl⟩ := hm r hr
    exact List.pairwise_map.mpr (srt_pw totS q.outs)
def sp_codeOf (K : PySem.W.Frag) (C CW : Addr) : Sp := fun vs H Q _ => ∃ (b wx c d : Addr) (rs : List ActR) (many given : Int) (sts : List Sta), vs = [.ref b, .ref wx, .ref c] ∧ Bag H b ∧ WldAt K H CW wx (normW rs) ∧ WOk (normW rs) ∧ LCode K H c d many given sts ∧ 0 < sts.length ∧ sts.length ≤ 1000 ∧ (∀ st ∈ sts, st.rw rs many sts.length) ∧
  0 ≤ given ∧ given ≤ many ∧ many ≤ 24 ∧ ∀ l x H', CodL K H' C CW l x wx (normW rs) many given sts → H l = none → Dr b H H' → Q (.ref x) H'
section
variable {P : Program} {w : World} {K : PySem.W.Frag} {mg : Str → Option Value} {base : Heap}
end
end Fm
namespace Fm
open PySem PySem.Spec PyProof.Rows L2 SlX
theorem stF_ok {rs : List ActR} {many places : Int} (hW : WOk rs) (hm : many ≤ 1000000) (hp : places ≤ 1000000) {sts : List Sta} (h : ∀ st ∈ sts, st.ok rs many places) : StF sts := fun st hst => sta_fine hW hm hp (h st hst)
theorem sts_refl {sts : List Sta} (h : StF sts) : stsEq sts sts = true := by
  unfold stsEq
  exact SeqAt.eqv_refl _ (shaped_lay (list_shaped h).1)
theorem WOk.wfr {rs : List ActR} (h : WOk rs) : WfR rs := ⟨h.nd, h.ond⟩
theorem codeEq_same {rs : List ActR} (hr : WOk rs) (many given : Int) {sts : List Sta} (h : StF sts) : codeEq rs rs many many given given sts sts = true := by
  unfold codeEq
  rw [rsEq_refl hr.wfr, sts_refl h]
  simp
end Fm
namespace Fm
open PySem PySem.Spec PyProof.Rows L2 SlX
def moreR : ActR := ⟨"more", 2, [("one", 2), ("two", 0), ("zero", 1)]⟩
def lawW (mr : Bool) (ar : Int) (told : List (Str × Int)) : List ActR := richW ar told ++ if mr = true then [moreR] else []
def lots : List (List (Str × Str)) := [[("check", "ok")], [("check", "bad")], [("go", "no")], [("go", "no"), ("check", "ok")], []]
section
variable {many given ar : Int} {told : List (Str × Int)} {sts : List Sta} {mr : Bool}
end
def prD (pr : List (Str × Str)) : PyData := .dict (pr.map fun e => (.str e.1, .str e.2))
def tot (rs : List ActR) : Nat := (rs.map fun r => r.outs.length).sum
end Fm
namespace Fm
open PySem PySem.Spec PyProof.Rows L2 SlX
open PySem.SeqAt MeetsSeq MeetsSeq2 MeetsSeq3 SeqRoads2
open AutoSeq1 (wpAny_loadPart')
section
variable {prog : Program} {w : PySem.World} {A : Around} {R : Result → Shared → Prop}
theorem neLoop (p q : Addr) (m : Nat) (J : Nat → Shared → Prop) (hJ : GQ.ListI prog w A (fun e s' => R (.error e) s') p q m J) (fin : ∀ s, J m s → R (.ok (.ret (.bool false))) s) (left : Nat) :
    ∀ at_ : Nat, m - at_ = left → at_ ≤ m → ∀ s, J at_ s → wpAny (model prog w) A.in1 (Builtin.«list.__eq__.loop» ⟨[.ref p, .ref q, rawInt at_, rawInt 3], []⟩) (GQ.FinOf prog w A R) (fun e s' => R (.error e) s') s := by
  induction left with
  | zero =>
    intro at_ hm hle s j
    obtain ⟨us, vs, n, n2, hp1, hq1, z1, z2, _⟩ := hJ _ _ j
    have e : at_ = m := by omega
    have hfin : R (.ok (.ret (.bool false))) s := fin s (e ▸ j)
    obtain ⟨hp, g, d, tk, os⟩ := s
    wp_walk using wpAny_loadPart' hp1, wpAny_loadPart' hq1
    have g1 : us[((at_ : Nat) : Int).toNat]? = none := by simp; omega
    have g2 : vs[((at_ : Nat) : Int).toNat]? = none := by simp; omega
    rw [g1, g2]
    wp_walk using wpAny_loadPart' hp1, wpAny_loadPart' hq1
    show R (.ok (.ret (.bool (us.size != vs.size)))) _
    rw [z1, z2]
    simpa using hfin
  | succ left ih =>
    intro at_ hm hle s j
    obtain ⟨us, vs, n, n2, hp1, hq1, z1, z2, one⟩ := hJ _ _ j
    have l1 : at_ < us.size := by omega
    have l2 : at_ < vs.size := by omega
    have ho := one l1 l2
    obtain ⟨hp, g, d, tk, os⟩ := s
    wp_walk using wpAny_loadPart' hp1, wpAny_loadPart' hq1
    have g1 : us[((at_ : Nat) : Int).toNat]? = some us[at_] := by simp [l1]
    have g2 : vs[((at_ : Nat) : Int).toNat]? = some vs[at_] := by simp [l2]
    have ec : ((at_ : Int) + 1) = ((at_ + 1 : Nat) : Int) := by omega
    rw [g1, g2]
    refine wpAny_bind (wpAny_mono ho (fun r s2 k => ?_) fun _ _ x => x)
    obtain ⟨er, k⟩ := k
    subst er
    have rest := ih (at_ + 1) (by omega) (by omega) s2 k
    obtain ⟨hp2, g2', d2, tk2, os2⟩ := s2
    wp_walk
    rw [ec]
    refine ⟨plainId_quiet plain_eq_loop _, codeAny_builtin entry_eq_loop ?_⟩
    rw [Around.under_plainId plain_eq_loop _]
    exact rest
theorem neBody (p q : Addr) (m : Nat) (J : Nat → Shared → Prop) (hJ : GQ.ListI prog w A (fun e s' => R (.error e) s') p q m J) (fin : ∀ s, J m s → R (.ok (.ret (.bool false))) s) {s : Shared} (j : J 0 s) :
    wpAny (model prog w) A.in1 (Builtin.«list.__ne__» ⟨[.ref p, .ref q], []⟩) (GQ.FinOf prog w A R) (fun e s' => R (.error e) s') s := by
  obtain ⟨us, vs, n, n2, hp1, hq1, z1, z2, _⟩ := hJ _ _ j
  have rest := neLoop (A := A) (R := R) p q m J hJ fin _ 0 rfl (Nat.zero_le _) s j
  obtain ⟨hp, g, d, tk, os⟩ := s
  have sub := AutoSeq1.sub_list_list
  have like : ¬ (us.size != vs.size) = true := by simp [z1, z2]
  wp_walk using wpAny_loadPart' hp1, wpAny_loadPart' hq1
  refine ⟨plainId_quiet plain_eq_loop _, codeAny_builtin entry_eq_loop ?_⟩
  rw [Around.under_plainId plain_eq_loop _]
  exact rest
theorem neLists {E : Value → Shared → Prop} {s : Shared} {p q : Addr} {m : Nat} {Q : Value → Shared → Prop} (hu : A.units < cLine) (J : Nat → Shared → Prop) (hJ : GQ.ListI prog w A E p q m J) (fin : ∀ s, J m s → Q (.bool false) s) (j : J 0 s) :
    wpAny (model prog w) A (richCompare .NotEq (.ref p) (.ref q)) Q E s := by
  obtain ⟨us, vs, n, n2, hp1, hq1, _, _, _⟩ := hJ _ _ j
  refine wpAny_richCompare_same_room (op := .NotEq) ⟨_, hp1, rfl⟩ ⟨_, hq1, rfl⟩ F.slot_list_ne (GQ.call_here F.slot_list_ne ⟨_, hp1, rfl⟩ F.entry_list_ne (F.args_list_ne_2 _ _) ?_) hu
  exact neBody (R := wants (fun v s' => v ≠ .notImplemented ∧ Q v s') E) p q m J hJ (fun s' k => ⟨(fun x => nomatch x), fin s' k⟩) j
end
section
variable {X : Cx} {CX : CXT} {C g : Addr} {n : Nat} {D : Eqv} {sp : Sp} {E : XK}
def rNeL (D : Eqv) : R2 := fun x y H Q => DList D x y H ∧ ∀ H', Ext H H' → Q (.bl false) H'
theorem op_neL (hD : Mon D) (h : EqG X n D) (hr : Room (n + 1) X.A) : OpR X (compareOp .NotEq) (rNeL D) := by
  intro pins s σ H x y v u Q I rx ry hq
  obtain ⟨d, q⟩ := hq
  obtain ⟨a, b, xs, ys, rfl, rfl, ha, hb, pr⟩ := d
  cases (show v = Value.ref a from rx)
  cases (show u = Value.ref b from ry)
  show wpAny (model X.prog X.w) X.A (richCompare .NotEq (.ref a) (.ref b)) (EP X pins σ Q) X.xe s
  refine neLists (m := xs.length) hr.units0 (fun _ s' => LoopI X pins σ H s') (fun i s' k => ?_) (fun s' k => ?_) ⟨H, I, Ext.rfl'⟩
  · obtain ⟨H1, I1, x1⟩ := id k
    obtain ⟨z, its, c, r, e⟩ := I1.hok a _ (x1 _ _ ha)
    obtain ⟨z2, its2, c2, r2, e2⟩ := I1.hok b _ (x1 _ _ hb)
    refine ⟨its.toArray, its2.toArray, c, c2, e, e2, by rw [List.size_toArray, ← r.length], by rw [List.size_toArray, ← r2.length, ← pr.1], fun h1 h2 => ?_⟩
    exact turnG hD h ⟨hr, rfl⟩ pr r r2 i h1 h2 s' k
  · obtain ⟨H1, I1, x1⟩ := k
    exact ⟨.bl false, H1, I1, rfl, q H1 x1⟩
def DSl (C : Addr) (R : Addr → Addr → Hp → Prop) : Eqv := fun x y H => ∃ a b dx dy vs ws, x = .ref a ∧ y = .ref b ∧ Slt H a C dx vs ∧ Slt H b C dy ws ∧ R a b H
theorem Slt.ext {H H' : Hp} {a dx : Addr} {vs : List (Option V)} (h : Slt H a C dx vs) (e : Ext H H') : Slt H' a C dx vs := h.imp (fun h => ⟨e _ _ h.1, h.2⟩) fun h => ⟨e _ _ h.1, e _ _ h.2⟩
theorem mon_sl {R : Addr → Addr → Hp → Prop} (hR : ∀ a b H H', Ext H H' → R a b H → R a b H') : Mon (DSl C R) := fun x y H H' e d => by
  obtain ⟨a, b, dx, dy, vs, ws, hx, hy, h1, h2, r⟩ := d
  exact ⟨a, b, dx, dy, vs, ws, hx, hy, Slt.ext h1 e, Slt.ext h2 e, hR a b H H' e r⟩
theorem eqG_sl {R : Addr → Addr → Hp → Prop} (hR : ∀ a b H, R a b H → sp [.ref a, .ref b] H (fun v H' => v = .bl true ∧ Ext H H') E) (F : FnR X.prog X.w X.K X.mg X.base CX n g sp)
    (hs : PySem.W.findIn X.K (.ref C) "__eq__" = some (some (.ref g))) (hf : PySem.W.isFn X.K (.ref g) = true) (hx : Passes CX X E) : EqG X n (DSl C R) := by
  refine RcG.eqG (fun A pins s σ H x y u v sb I rx ry d => ?_) fun _ _ _ d => let ⟨a, b, _, _, _, _, h1, h2, _⟩ := d; ⟨a, b, h1, h2⟩
  obtain ⟨a, b, dx, dy, vs, ws, rfl, rfl, ha, hb, hr⟩ := d
  cases (show u = Value.ref a from rx)
  cases (show v = Value.ref b from ry)
  obtain ⟨sl, od, _, J, _⟩ := slt_inst I ha
  obtain ⟨sl2, od2, _, J2, _⟩ := slt_inst I hb
  obtain ⟨m, hF⟩ := I.fr
  refine PySem.W.cmp_K (op := .Eq) (tb := .ref C) sb.room.units0 hF I.ok.mod.kin J J2.type (by simp [PySem.W.notFirst]) hs hf ?_
  have e0 : Env0 X.prog X.w X.K X.mg X.base A X.stack s H := by
    have e := I.env0
    exact ⟨by rw [sb.fr]; exact e.frames, e.mod, e.bs, e.bsz, e.funs, e.frf, e.hok, e.bare⟩
  refine wpAny_mono (wpAny_call (run_at (us := [.ref a, .ref b]) (ws := [.ref a, .ref b]) F sb.room e0 hx I (.cons rfl (.cons rfl .nil)) (hR a b H hr))) (fun r s' z => ?_) fun _ _ x => x
  obtain ⟨z', H', I', rz, ez, x1⟩ := z
  subst ez
  cases (show r = Value.bool true from rz)
  exact ⟨rfl, H', I', x1⟩
end
end Fm
namespace Fm
open PySem PySem.Spec PyProof.Rows L2 SlX
def RcSame (K : PySem.W.Frag) (C : Addr) (a b : Addr) (H : Hp) : Prop := ∃ (many : Int) (ts : List Tm), RecAt K H C a many ts ∧ RecAt K H C b many ts ∧ SeqAt.shaped (tsD ts) = true
theorem mv_ext {H H' : Hp} (e : Ext H H') : Mv [] H H' := .of_same e
theorem mon_rc {K : PySem.W.Frag} {C : Addr} : Mon (DSl C (RcSame K C)) := mon_sl fun a b H H' e ⟨many, ts, h1, h2, h3⟩ => ⟨many, ts, h1.mv (mv_ext e), h2.mv (mv_ext e), h3⟩
def DMv (K : PySem.W.Frag) (C : Addr) : Eqv := fun x y H => DFlat x y H ∨ DSl C (RcSame K C) x y H
def DMvs (K : PySem.W.Frag) (C : Addr) : Eqv := DList (DTup K (DMv K C))
theorem op_neMvs {X : Cx} {CX : CXT} {C g : Addr} {n : Nat} {E : XK} (F : FnR X.prog X.w X.K X.mg X.base CX n g (sp_RecipeEq X.K C)) (hs : PySem.W.findIn X.K (.ref C) "__eq__" = some (some (.ref g))) (hf : PySem.W.isFn X.K (.ref g) = true) (hx : Passes CX X E) (hr : Room (n + 3) X.A) :
    OpR X (compareOp .NotEq) (rNeL (DMvs X.K C)) := by
  refine op_neL (n := n + 2) (mon_list (mon_tup (mon_flat.or mon_rc))) (eqG_list (mon_tup (mon_flat.or mon_rc)) (eqG_tup (mon_flat.or mon_rc) ((eqG_flat.mono (Nat.zero_le n)).or (eqG_sl (E := E) (sp := sp_RecipeEq X.K C) (fun a b H h => ?_) F hs hf hx)))) hr
  obtain ⟨many, ts, h1, h2, h3⟩ := h
  refine ⟨a, many, ts, .ref b, rfl, h1, h3, .inl ⟨b, many, ts, rfl, h2, h3, ?_, Ext.rfl'⟩⟩
  unfold recEq
  rw [SeqAt.eqv_refl _ (shaped_lay h3)]
  simp
theorem rec_slt {K : PySem.W.Frag} {H : Hp} {C x : Addr} {many : Int} {ts : List Tm} (h : RecAt K H C x many ts) : ∃ dx ws, Slt H x C dx ws := by
  obtain ⟨dx, p, xs, hs, _⟩ := h
  exact ⟨dx, _, hs⟩
theorem mvs_eq {K : PySem.W.Frag} {H : Hp} {C r1 r2 l1 l2 : Addr} {many : Int} {ts : List Tm} {ps : List (Int × Int)} {xs ys : List V} (h1 : MvsAt K H ps r1 xs) (h2 : MvsAt K H ps r2 ys) (e1 : H l1 = some (.lst xs)) (e2 : H l2 = some (.lst ys)) (k1 : RecAt K H C r1 many ts) (k2 : RecAt K H C r2 many ts) (hs : SeqAt.shaped (tsD ts) = true) :
    DMvs K C (.ref l1) (.ref l2) H := by
  refine ⟨l1, l2, xs, ys, rfl, rfl, e1, e2, by rw [h1.1, h2.1], fun i x y hx hy => ?_⟩
  have hil := (List.getElem?_eq_some_iff.mp hx).1
  have hil' : i < ps.length := by rw [← h1.1]; exact hil
  have hp : ps[i]? = some ps[i] := List.getElem?_eq_getElem hil'
  obtain ⟨t, rfl, ht⟩ := h1.2 i x _ hx hp
  obtain ⟨u, rfl, hu⟩ := h2.2 i y _ hy hp
  obtain ⟨d1, w1, s1⟩ := rec_slt k1
  obtain ⟨d2, w2, s2⟩ := rec_slt k2
  exact ⟨t, u, _, _, rfl, rfl, ht, hu, Prs.cons (.inl ⟨rfl, rfl, by simp [eqV]⟩) (Prs.cons (.inl ⟨rfl, rfl, by simp [eqV]⟩) (Prs.cons (.inr ⟨r1, r2, d1, d2, w1, w2, rfl, rfl, s1, s2, many, ts, k1, k2, hs⟩) Prs.nil))⟩
theorem cod_slt82 {K : PySem.W.Frag} {H : Hp} {C CW x wx : Addr} {rs : List ActR} {many given : Int} {sts : List Sta} (h : CodAt K H C CW x wx rs many given sts) : ∃ dx ws, Slt H x C dx ws := by
  obtain ⟨dx, l, xs, hs, _⟩ := h
  exact ⟨dx, _, hs⟩
theorem rd_eqCd82 {K : PySem.W.Frag} {H : Hp} {C CW x wx x2 wx2 : Addr} {rs : List ActR} {many given : Int} {sts : List Sta} {Q : VK} {E : XK} (hw : WOk rs) (h : CodAt K H C CW x wx rs many given sts) (h2 : CodAt K H C CW x2 wx2 rs many given sts) (hF : StF sts)
    (q : ∀ H', Mv [] H H' → Q (.bl true) H') : rOwnG K C (sp_CodeEq K C CW) E (.ref x) (.ref x2) H Q := by
  obtain ⟨dx, ws, hs⟩ := cod_slt82 h
  obtain ⟨dx2, ws2, hs2⟩ := cod_slt82 h2
  refine ⟨x, dx, ws, rfl, hs, .inl ⟨x2, C, dx2, ws2, rfl, hs2, notFirst_self⟩, x, wx, rs, many, given, sts, _, rfl, h, hF, .inl ⟨x2, wx2, rs, many, given, sts, rfl, h2, hF, fun H' m => ?_⟩⟩
  rw [codeEq_same hw many given hF]
  exact q H' m
end Fm
namespace Fm
open PySem PySem.Spec PyProof.Rows L2
section
variable {prog : Program} {w : World} {A : Around} {E : Value → Shared → Prop} {s : Shared} {R : Result → Shared → Prop} {I : Addr} {fp wr : List Addr} {G : Array GenState → Array GenState → Prop} {n : Nat} {P : Nat → Value → Prop} {St : Nat → Shared → Prop}
end
def tListZip (K : PySem.W.Frag) (ta : TA) : TE := fun σ H Q => ta σ H fun vs H1 => ∃ a b xs ys, vs = [.ref a, .ref b] ∧ SqL K H1 a xs ∧ SqT K H1 b ys ∧ min xs.length ys.length = 0 ∧ ∀ p, H1 p = none → Q (.ref p) (upd H1 p (.lst []))
section
variable {X : Cx} {e e2 : Expr} {ta : TA} {p p2 pos pos2 : Pos}
end
theorem pi_seqC {X : Cx} {K : PySem.W.Frag} {tg e : Expr} {t : TE} (hK : X.K = K) (he : PE X e t) : PI X tg e (iSeq K t) := hK ▸ pi_seq he
end Fm
namespace Fm
open PySem PySem.Spec PyProof.Rows L2 SlX
local macro_rules | `(tactic| walk_at "nn") => `(tactic| dsimp only [tC, tNil, tCons, tCB, tCall, gName, tSeq, tAsg, tPar, tDrop, tRet])
local macro_rules | `(tactic| walk_at "nc") => `(tactic| dsimp only [tC, tNil, tCons, tCB, tCall])
def sp_law (K : PySem.W.Frag) : Sp := fun vs H Q _ => ∃ (a : Addr) (ns : List Int), vs = [.ref a] ∧ SqL K H a (ns.map V.int) ∧ ns.length ≤ 63 ∧ ∀ H', Q (.bl true) H'
theorem dgt82 {c d l : Addr} {many given : Int} {H H' : Hp} {f : Str} {v : V} (hc : H c = some (.dK (codeKv d l many given))) (m : Mv [] H H') (e : valV (codeKv d l many given) (.inr f) = some v) : DGet H' c (.str f) (some v) := Or.inl ⟨_, .inr f, .inl (m.same _ _ hc), rfl, e.symm⟩
theorem shw_si {x : Str} {i : Int} (hx : PyData.strOk x = true) (hl : x.length ≤ 100) (hi : i.natAbs < 10 ^ 40) : Shw (.tuple [.str x, .int i]) := by
  refine ⟨⟨hx, hi, trivial⟩, by simp [PyData.depth, PyData.depthAll], ?_⟩
  simp only [wl, wls]
  omega
structure SmOk (rs : List ActR) (many given : Int) (sts : List Sta) : Prop where
  cd : CodeOk rs many given
  m0 : 0 < many
  m2 : many ≤ 2
  rooms : Rooms sts
  ok : ∀ st ∈ sts, st.ok rs many sts.length
  ord : ∀ st ∈ sts, st.ord = st
  l0 : 0 < sts.length
  l30 : sts.length ≤ 5
  gos : ∀ st ∈ sts, (gosS st).length ≤ 10
theorem sta_gos {rs : List ActR} {many places : Int} {st : Sta} (h : st.ok rs many places) (hr : ∀ r ∈ rs, r.outs.length ≤ 6) : (gosS st).length ≤ 10 := by
  cases st with
  | set chs g => simp [gosS]
  | fin x ts => simp [gosS]
  | ask act ts ws =>
    obtain ⟨r, hr', _, hk⟩ := h
    have := hk.pm.length_eq
    rw [List.length_map, List.length_map] at this
    have := hr r hr'
    rw [gosS, List.length_map]
    omega
theorem vars_shaped {n : Nat} (h : n ≤ 20) : SeqAt.shaped (tsD (varsT n)) = true := by
  have key : Shw (tsD (varsT n)) := by
    have hh : ∀ l : List Nat, (∀ x ∈ l, x < n) → fineAll (Tm.ds (l.map fun i => Tm.var (i : Nat))) ∧ PyData.depthAll (Tm.ds (l.map fun i => Tm.var (i : Nat))) = 0 ∧ wls (Tm.ds (l.map fun i => Tm.var (i : Nat))) = 43 * l.length := fun l => by
      induction l with
      | nil => exact fun _ => ⟨trivial, rfl, rfl⟩
      | cons x l ih =>
        intro hx
        obtain ⟨i1, i2, i3⟩ := ih fun y hy => hx y (List.mem_cons_of_mem _ hy)
        have hxn := hx x List.mem_cons_self
        refine ⟨⟨?_, i1⟩, ?_, ?_⟩
        · show ((x : Int)).natAbs < 10 ^ 40
          exact Nat.lt_of_le_of_lt (show _ ≤ 20 by omega) (by decide)
        · simp only [List.map_cons, Tm.ds, Tm.d, PyData.depthAll, PyData.depth, i2]
          rfl
        · simp only [List.map_cons, Tm.ds, Tm.d, wls, wl, i3, List.length_cons]
          omega
    obtain ⟨i1, i2, i3⟩ := hh (List.range n) fun x hx => List.mem_range.mp hx
    refine ⟨i1, ?_, ?_⟩
    · show PyData.depth (.tuple (Tm.ds (varsT n))) ≤ 60
      unfold varsT
      simp only [PyData.depth, i2]
      omega
    · show wl (.tuple (Tm.ds (varsT n))) ≤ 16000000
      unfold varsT
      simp only [wl, i3, List.length_range]
      omega
  exact key.shaped
section
variable {P : Program} {w : World} {K : PySem.W.Frag} {mg : Str → Option Value} {base : Heap}
theorem ok_law (hsy : SysAt base) (T : TX K mg) (Y : TY P K mg) : FnOkG P w K mg base CX0 60 T.d_law.f T.d_law.fd P_law (sp_law K) := by
  have G__law_bag : FnOk P w K mg base CX0 1 T.d__law_bag.f T.d__law_bag.fd P__law_bag (sp_bag K) := ok__law_bag T
  have G__law_take : FnOk P w K mg base CX0 1 T.d__law_take.f T.d__law_take.fd P__law_take sp_take := ok__law_take T
  have G__law_alike : FnOkG P w K mg base CX0 1 T.d__law_alike.f T.d__law_alike.fd P__law_alike (sp_alike K) := ok__law_alike T
  have G__law_like_acts : FnOk P w K mg base CX0 2 T.d__law_like_acts.f T.d__law_like_acts.fd P__law_like_acts (sp_like82 K) := ok__law_like_acts82 (k := 0) T
  have G__law_small_code : FnOk P w K mg base CX0 4 T.d__law_small_code.f T.d__law_small_code.fd P__law_small_code (sp_smallCode82 K) := ok__law_small_code82 (k := 0) T
  have G__law_behind_place : FnOk P w K mg base CX0 2 T.d__law_behind_place.f T.d__law_behind_place.fd P__law_behind_place (sp_behind82 K) := ok__law_behind_place82 (k := 0) T
  have G__law_due : FnOk P w K mg base CX0 2 T.d__law_due.f T.d__law_due.fd P__law_due (sp_due82 K) := ok__law_due82 (k := 0) T
  have G__law_tried : FnOk P w K mg base CX0 13 T.d__law_tried.f T.d__law_tried.fd P__law_tried (sp_tried82 K T.C_Code T.C_World T.C_Recipe) := ok__law_tried82 (k := 0) T Y
  have G_World___init__ : FnOk P w K mg base CX0 5 T.d_World___init__.f T.d_World___init__.fd P_World___init__ (sp_World K T.C_World) := ok_World___init__ (k := 0) T
  have G_Code___init__ : FnOk P w K mg base CX0 7 T.d_Code___init__.f T.d_Code___init__.fd P_Code___init__ (sp_Code K T.C_Code T.C_World) := ok_Code___init__ (k := 0) T
  have G_Code___eq__ : FnOk P w K mg base CX0 3 T.d_Code___eq__.f T.d_Code___eq__.fd P_Code___eq__ (sp_CodeEq K T.C_Code T.C_World) := ok_Code___eq__ (k := 0) T
  have G_Recipe___init__ : FnOk P w K mg base (CX P w) 5 T.d_Recipe___init__.f T.d_Recipe___init__.fd P_Recipe___init__ (sp_RecT K T.C_Recipe Y.C_Wrong) := ok_Recipe___init__ (k := 0) T Y
  have G_Recipe___eq__ : FnOk P w K mg base CX0 1 T.d_Recipe___eq__.f T.d_Recipe___eq__.fd P_Recipe___eq__ (sp_RecipeEq K T.C_Recipe) := ok_Recipe___eq__ T
  refine okG T.d_law.F sc_law (fun vs H Q E h => ?_) (fun cdv A outer s H vs Q E hgd hr h => ?_)
  · obtain ⟨_, _, rfl, _⟩ := h
    rfl
  · obtain ⟨a, sns, rfl, hS, hl63, q⟩ := h
    have hu1 := hu1_of hr
    have hu64 := hr.units
    have hu65 := hu65_of hr
    refine ⟨_, (pss_cons (ps_set (i := 1) sc_law.nd rfl (Or.inl rfl) (pe_call G__law_bag (hr.mono (by omega)) rfl T.d__law_bag.g T.d__law_bag.F.kp T.d__law_bag.b .nil pass0 (pa_cons (pv 0) pa_nil))) (pss_cons (ps_for PassesOwn.never rfl (pi_range1 (by rfl) T.b_range (pa_cons pe_int pa_nil)) (pg_name (i := 2) sc_law.nd rfl (Or.inl rfl)) (pss_cons (ps_set (i := 3) sc_law.nd rfl (Or.inr rfl) (pe_call G__law_small_code (hr.mono (by omega)) rfl T.d__law_small_code.g T.d__law_small_code.F.kp T.d__law_small_code.b .nil pass0 (pa_cons (pv 1) (pa_cons (pe_call G__law_like_acts (hr.mono (by omega)) rfl T.d__law_like_acts.g T.d__law_like_acts.F.kp T.d__law_like_acts.b .nil pass0 (pa_cons (pv 1) pa_nil)) (pa_cons (pe_op (r := rAddG K) op_addG pe_int (pe_call G__law_take (hr.mono (by omega)) rfl T.d__law_take.g T.d__law_take.F.kp T.d__law_take.b .nil pass0 (pa_cons (pv 1) (pa_cons pe_int pa_nil)))) (pa_cons pe_int pa_nil)))))) (pss_cons (ps_asg (pe_tup (pa_cons (pe_make ⟨T.mk_World, T.d_World___init__.M.at_, T.d_World___init__.M.fn, T.k_World⟩ G_World___init__ (hr.mono (by omega)) rfl T.g_World T.d_World___init__.b .nil pass0 (pa_cons (pe_dget hu1 (pv 3) pe_str (fun _ _ => rfl)) pa_nil)) (pa_cons (pe_makeS ⟨T.mk_Recipe, T.d_Recipe___init__.M.at_, T.d_Recipe___init__.M.fn, T.k_Recipe⟩ G_Recipe___init__ (hr.mono (by omega)) rfl T.g_Recipe T.d_Recipe___init__.b (fun σ => passAt takes0 σ) (pa_cons (pe_dget hu1 (pv 3) pe_str (fun _ _ => rfl)) (pa_cons (pe_listRg rfl (by rfl) T.b_list (prg_1 (by rfl) T.b_range (pe_dget hu1 (pv 3) pe_str (fun _ _ => rfl)))) pa_nil))) pa_nil))) (pg_tup rfl (pgs_cons (pg_name (i := 4) sc_law.nd rfl (Or.inl rfl)) (pgs_cons (pg_name (i := 5) sc_law.nd rfl (Or.inr rfl)) pgs_nil)))) (pss_cons (ps_set (i := 6) sc_law.nd rfl (Or.inl rfl) (pe_make ⟨T.mk_Code, T.d_Code___init__.M.at_, T.d_Code___init__.M.fn, T.k_Code⟩ G_Code___init__ (hr.mono (by omega)) rfl T.g_Code T.d_Code___init__.b .nil pass0 (pa_cons (pv 4) (pa_cons (pe_dget hu1 (pv 3) pe_str (fun _ _ => rfl)) (pa_cons (pe_dget hu1 (pv 3) pe_str (fun _ _ => rfl)) (pa_cons (pe_dget hu1 (pv 3) pe_str (fun _ _ => rfl)) pa_nil)))))) (pss_cons (ps_for PassesOwn.never rfl (pi_range1 (by rfl) T.b_range (pa_cons (pe_callB (r := rLenG K) call_lenG (by rfl) T.b_len bt_len (pa_cons (pe_dget hu1 (pv 3) pe_str (fun _ _ => rfl)) pa_nil)) pa_nil)) (pg_name (i := 7) sc_law.nd rfl (Or.inr rfl)) (pss_cons (ps_setLc (i := 8) (own := [("_law_one", 16)]) (g := gName 16) (by rfl) sc_law.nd rfl rfl (sw_true rfl rfl rfl (by decide +kernel)) (pi_seq (pe_call G__law_behind_place (hr.mono (by omega)) rfl T.d__law_behind_place.g T.d__law_behind_place.F.kp T.d__law_behind_place.b .nil pass0 (pa_cons (pv 3) (pa_cons (pv 7) pa_nil)))) (blkOk_by (own := [("_law_one", 16)]) (N := N_law) (sc := defScope s_law) (by decide +kernel)) (fun _ _ _ _ _ => pg_name (i := 16) sc_law.nd rfl (Or.inl rfl)) (fun _ _ _ _ _ => (pts_one (pt_cmpR (r := rInG K) (op_inG hu65) (pv 7) (pe_call G__law_behind_place (hr.mono (by omega)) rfl T.d__law_behind_place.g T.d__law_behind_place.F.kp T.d__law_behind_place.b .nil pass0 (pa_cons (pv 3) (pa_cons (pv 16) pa_nil))) rfl))) (fun _ _ _ _ _ => (pv 16))) (pss_one (ps_for PassesOwn.never rfl (pi_range1 (by rfl) T.b_range (pa_cons pe_int pa_nil)) (pg_name (i := 9) sc_law.nd rfl (Or.inl rfl)) (pss_cons (ps_set (i := 10) sc_law.nd rfl (Or.inl rfl) (pe_call G__law_tried (hr.mono (by omega)) rfl T.d__law_tried.g T.d__law_tried.F.kp T.d__law_tried.b .nil pass0 (pa_cons (pv 6) (pa_cons (pv 7) pa_nil)))) (Evl.pss_cut (ps_if (pt_cmpR (r := rEqNil K) (op_eqNil (Nat.lt_of_le_of_lt (Nat.le_add_right _ 65) hu65)) (pv 8) (pe_lst pa_nil) (nomark _)) (pss_cons (ps_if (pt_not (pt_val (pe_callG G__law_alike hgd (hr.mono (by omega)) rfl T.d__law_alike.g T.d__law_alike.F.kp T.d__law_alike.b .nil pass0 (pa_cons (pv 10) (pa_cons (pe_tup (pa_cons pe_str (pa_cons pe_int pa_nil))) pa_nil))))) (pss_one (ps_ret pe_bl)) pss_nil) (pss_one ps_continue)) pss_nil) (pss_cons (ps_asg (pe_call G__law_due (hr.mono (by omega)) rfl T.d__law_due.g T.d__law_due.F.kp T.d__law_due.b .nil pass0 (pa_cons (pv 3) (pa_cons (pv 7) (pa_cons (pv 8) pa_nil)))) (pg_tup rfl (pgs_cons (pg_name (i := 11) sc_law.nd rfl (Or.inl rfl)) (pgs_cons (pg_name (i := 12) sc_law.nd rfl (Or.inl rfl)) pgs_nil)))) (pss_cons (ps_if (PW.pt (pw_or (pt_not (pt_val (pe_callB (r := rIsi K) call_isi (by rfl) T.b_isinstance bt_isinstance (pa_cons (pv 10) (pa_cons (pe_ty T.b_tuple bt_tuple) pa_nil))))) (pw_or1 (pt_cmpR (r := rNeG K) (op_neG hu64) (pe_callB (r := rLenG K) call_lenG (by rfl) T.b_len bt_len (pa_cons (pv 10) pa_nil)) pe_int (nomark _))))) (pss_one (ps_ret pe_bl)) pss_nil) (pss_cons (ps_if (pt_not (pt_cmpR (r := rOwnG K T.C_Code (sp_CodeEq K T.C_Code T.C_World) _) (op_ownG T.d_Code___eq__.M.at_ T.d_Code___eq__.M.fn (fnR_of G_Code___eq__ T.d_Code___eq__.b) (hr.mono (by omega)) pass0) (pe_ix (r := rIx K) ix_seq (pv 10) pe_int (fun _ _ => rfl)) (pe_make ⟨T.mk_Code, T.d_Code___init__.M.at_, T.d_Code___init__.M.fn, T.k_Code⟩ G_Code___init__ (hr.mono (by omega)) rfl T.g_Code T.d_Code___init__.b .nil pass0 (pa_cons (pv 4) (pa_cons (pe_dget hu1 (pv 3) pe_str (fun _ _ => rfl)) (pa_cons (pe_dget hu1 (pv 3) pe_str (fun _ _ => rfl)) (pa_cons (pv 11) pa_nil))))) (nomark _))) (pss_one (ps_ret pe_bl)) pss_nil) (pss_cons (ps_set (i := 13) sc_law.nd rfl (Or.inl rfl) (pe_callB (r := rSortP K) cr_sortP (by rfl) T.b_sorted bt_sorted (pa_cons (pe_lc (own := [("_law_one", 16), ("_law_to", 18)]) (g := gTup K 2 (gCons (gName 16) (gCons (gName 18) gNil))) (by rfl) sc_law.nd (pi_seq (pv 12)) (blkOk_by (own := [("_law_one", 16), ("_law_to", 18)]) (N := N_law) (sc := defScope s_law) (by decide +kernel)) (fun _ _ _ _ _ => (pg_tup rfl (pgs_cons (pg_name (i := 16) sc_law.nd rfl (Or.inl rfl)) (pgs_cons (pg_name (i := 18) sc_law.nd rfl (Or.inl rfl)) pgs_nil)))) (fun _ _ _ _ _ => pts_nil) (fun _ _ _ _ _ => (pe_tup (pa_cons (pv 18) (pa_cons (pv 16) pa_nil))))) pa_nil))) (pss_cons (ps_setLc (i := 14) (own := [("_law_some", 17)]) (g := gName 17) (by rfl) sc_law.nd rfl rfl (sw_true rfl rfl rfl (by decide +kernel)) (pi_seq (pe_tup (pa_cons (pv 12) (pa_cons (pv 13) pa_nil)))) (blkOk_by (own := [("_law_some", 17)]) (N := N_law) (sc := defScope s_law) (by decide +kernel)) (fun _ _ _ _ _ => pg_name (i := 17) sc_law.nd rfl (Or.inl rfl)) (fun _ _ _ _ _ => pts_nil) (fun _ _ _ _ _ => (pe_lc (own := [("_law_pair", 19)]) (g := gName 19) (by rfl) sc_law.nd (pi_seqC (K := K) rfl (pv 17)) (by exact blkOk_by (by rfl)) (fun _ _ _ _ _ => pg_name (i := 19) sc_law.nd rfl (Or.inl rfl)) (fun _ _ _ _ _ => pts_nil) (fun _ _ _ _ _ => (pe_op (r := rAddG K) op_addG (pv 19) (pe_tup (pa_cons (pv 5) pa_nil))))))) (pss_cons (ps_if (pt_cmpR (r := rNeL (DMvs K T.C_Recipe)) (op_neMvs (fnR_of G_Recipe___eq__ T.d_Recipe___eq__.b) T.d_Recipe___eq__.M.at_ T.d_Recipe___eq__.M.fn pass0 (hr.mono (by omega))) (pe_lst (pa_cons (pe_ix (r := rIx K) ix_seq (pv 10) pe_int (fun _ _ => rfl)) (pa_cons (pe_ix (r := rIx K) ix_seq (pv 10) pe_int (fun _ _ => rfl)) pa_nil))) (pv 14) (nomark _)) (pss_one (ps_ret pe_bl)) pss_nil) (pss_cons (ps_expr (pe_bm PySem.F.plainAttrs_list PySem.F.slot_list_append PySem.F.type_list_append mt_append (pe_ix (r := rIx K) ix_seq (pv 10) pe_int (fun _ _ => rfl)) (pa_cons pe_non pa_nil))) (pss_one (ps_expr (pe_bm0 PySem.F.plainAttrs_list PySem.F.slot_list_clear PySem.F.type_list_clear mt_clear (pe_ix (r := rIx K) ix_seq (pv 10) pe_int (fun _ _ => rfl)))))))))))))))))) (pss_cons (ps_set (i := 15) sc_law.nd rfl (Or.inl rfl) (pe_ix (r := rIx K) ix_seq (pe_lst (pa_cons (pe_un un_neg pe_int) (pa_cons (pe_callB (r := rLenG K) call_lenG (by rfl) T.b_len bt_len (pa_cons (pe_dget hu1 (pv 3) pe_str (fun _ _ => rfl)) pa_nil)) (pa_cons (pe_op op_pow pe_int pe_int) pa_nil)))) (pe_call G__law_take (hr.mono (by omega)) rfl T.d__law_take.g T.d__law_take.F.kp T.d__law_take.b .nil pass0 (pa_cons (pv 1) (pa_cons pe_int pa_nil))) (fun _ _ => rfl))) (pss_cons (ps_if (pt_not (pt_val (pe_callG G__law_alike hgd (hr.mono (by omega)) rfl T.d__law_alike.g T.d__law_alike.F.kp T.d__law_alike.b .nil pass0 (pa_cons (pe_call G__law_tried (hr.mono (by omega)) rfl T.d__law_tried.g T.d__law_tried.F.kp T.d__law_tried.b .nil pass0 (pa_cons (pv 6) (pa_cons (pv 15) pa_nil))) (pa_cons (pe_tup (pa_cons pe_str (pa_cons (pv 15) pa_nil))) pa_nil))))) (pss_one (ps_ret pe_bl)) pss_nil) (pss_one (ps_if (pt_not (pt_cmpR (r := rOwnG K T.C_Code (sp_CodeEq K T.C_Code T.C_World) _) (op_ownG T.d_Code___eq__.M.at_ T.d_Code___eq__.M.fn (fnR_of G_Code___eq__ T.d_Code___eq__.b) (hr.mono (by omega)) pass0) (pv 6) (pe_make ⟨T.mk_Code, T.d_Code___init__.M.at_, T.d_Code___init__.M.fn, T.k_Code⟩ G_Code___init__ (hr.mono (by omega)) rfl T.g_Code T.d_Code___init__.b .nil pass0 (pa_cons (pv 4) (pa_cons (pe_dget hu1 (pv 3) pe_str (fun _ _ => rfl)) (pa_cons (pe_dget hu1 (pv 3) pe_str (fun _ _ => rfl)) (pa_cons (pe_dget hu1 (pv 3) pe_str (fun _ _ => rfl)) pa_nil))))) (nomark _))) (pss_one (ps_ret pe_bl)) pss_nil))))))))) (pss_one (ps_ret pe_bl)))), ?_⟩
    refine ⟨.ref a, rfl, a, sns, rfl, hS, hl63, fun H1 b m1 nb hB1 => ?_⟩
    refine ⟨3, rfl, by decide, by decide, ?_⟩
    refine for_range (lo := 0) (n := (3 : Int).toNat) (fun i σ H3 => ∃ (y2 y3 y4 y5 y6 y7 y8 y9 y10 y11 y12 y13 y14 y15 : Option V), σ = [some (.ref a), some (.ref b), y2, y3, y4, y5, y6, y7, y8, y9, y10, y11, y12, y13, y14, y15, none, none, none, none] ∧ Bag H3 b)
      ⟨_, _, _, _, _, _, _, _, _, _, _, _, _, _, rfl, hB1⟩ (fun i σ H3 hi h3 => ?_) (fun σ H3 h3 => q H3)
    obtain ⟨y2, y3, y4, y5, y6, y7, y8, y9, y10, y11, y12, y13, y14, y15, rfl, hB3⟩ := h3
    refine ⟨.ref b, rfl, .ref b, rfl, b, rfl, hB3, fun d zs ar H4 hA4 hzr a1 a2 d4 => ?_⟩
    have hB4 := d4.bag hB3
    refine ⟨.ref b, rfl, b, 2, rfl, hB4, by decide, by decide, fun n H5 n0 n2 d5 => Or.inl ⟨1, n, rfl, rfl, ?_⟩⟩
    have hB5 := d5.bag hB4
    have hA5 := hA4.dr d5 hB4
    obtain ⟨many, hmany⟩ : ∃ many : Int, many = 1 + n := ⟨_, rfl⟩
    have hm0 : 0 < many := by omega
    have hm2 : many ≤ 2 := by omega
    have hzm : ∀ z ∈ zs, z.r ∈ richW ar toldA := fun z hz => by
      have : z.r ∈ likeW ar := by rw [← hzr]; exact List.mem_map.mpr ⟨z, hz, rfl⟩
      simp only [likeW, richW, List.mem_cons, List.not_mem_nil, or_false] at this ⊢
      rcases this with h | h
      · exact .inr (.inl h)
      · exact .inr (.inr h)
    have hro := rich_ok (ar := ar) (many := many) a1 a2 hm0 hm2 (.inl rfl)
    have hzl : zs.length = 2 := by
      have := congrArg List.length hzr
      rw [List.length_map] at this
      exact this
    have hzok : ∀ z ∈ zs, z.r.ok := fun z hz => (hro _ (hzm z hz)).1
    refine ⟨b, d, zs, many, 5, (by rw [hmany]; rfl), ⟨hB5, hA5, hzok, fun z hz e he => ((hro _ (hzm z hz)).2.2.2 e he).2, by omega, by omega, hm0, by omega⟩, by decide, by decide, fun c given sts H6 hC6 hA6 g0 g1 l0 l1 hst d6 => ?_⟩
    have hB6 := d6.bag hB5
    obtain ⟨lr, vs, ec6, el6, iv6⟩ := id hC6
    refine ⟨.ref c, rfl, c, .ref d, rfl, dgt82 ec6 .refl (code_acts d lr many given), ?_⟩
    refine fun x dx nx ndx hne => ⟨x, dx, d, zs, H6, rfl, rfl, nx, ndx, hne, hA6, hzok, by omega, fun H7 m7 hW7 => ⟨rfl, ?_⟩⟩
    have hW7 := hW7.at_
    have hWo : WOk (normW (zs.map (·.r))) := wok_norm (fun r hr => by obtain ⟨z, hz, rfl⟩ := List.mem_map.mp hr; exact hzok z hz) (by rw [List.map_map]; exact hA6.nd) (by rw [List.length_map]; omega) (fun r hr => by obtain ⟨z, hz, rfl⟩ := List.mem_map.mp hr; exact hA6.ond z hz)
    have hSm : SmOk (normW (zs.map (·.r))) many given sts := by
      have ok : ∀ st ∈ sts, st.ok (normW (zs.map (·.r))) many sts.length := fun st h => sta_norm (hst st h).1.1
      have gos : ∀ st ∈ sts, (gosS st).length ≤ 10 := fun st h => sta_gos (hst st h).1.1 fun r hr => by
        obtain ⟨z, hz, rfl⟩ := List.mem_map.mp hr
        have := (hro _ (hzm z hz)).2.2.1
        omega
      exact ⟨⟨hWo, by omega, by omega, g0, g1⟩, hm0, hm2, ⟨fun st h g hg => gos_ok (ok st h) g hg, fun st h => by have := gos st h; omega, by omega⟩, ok, fun st h => (hst st h).1.2, l0, by omega, gos⟩
    generalize normW (zs.map (·.r)) = rs at hW7 hWo hSm
    refine ⟨.ref c, rfl, c, .int many, rfl, dgt82 ec6 m7 (code_many d lr many given), .ref c, rfl, c, .int many, rfl, dgt82 ec6 m7 (code_many d lr many given), many, rfl, RgOk.of_le (by decide) (by omega) (by decide) (by omega), fun rl nrl => ?_⟩
    rw [rgv_vars]
    have e8 : upd H7 rl (.lst ((varsT many.toNat).map vv)) rl = some (.lst ((varsT many.toNat).map vv)) := upd_same
    have m8 : Mv [] H7 (upd H7 rl (.lst ((varsT many.toNat).map vv))) := .new nrl
    generalize upd H7 rl (.lst ((varsT many.toNat).map vv)) = H8 at e8 m8 ⊢
    intro z dz nz ndz hnez
    have hi8 : Ims K H8 ((varsT many.toNat).map vv) (Tm.ds (varsT many.toNat)) := ims_vars _
    have hov := vars_ok (show 0 ≤ many by omega)
    obtain ⟨hgood, hbd⟩ := rec_good (xs := (varsT many.toNat).map vv) (show 0 ≤ many by omega) hov (by rw [vars_len]; omega) (fun t ht => by
      obtain ⟨i, _, rfl⟩ := List.mem_map.mp ht
      simp [Tm.cst, Tm.lv])
    refine ⟨z, dz, .int many, .ref rl, z, .int many, _, H8, rfl, rfl, nz, ndz, hnez, rfl, .lst (fun e => by rw [e, nz] at e8; cases e8) e8 (IsAll.of_ims _ _ hov hi8), fun r hr' => ?_, fun k hk => ?_, fun many' r h1 h2 h3 p4 H9 m9 s4 e4 => ?_⟩
    · cases hr'
      exact hbd
    · rw [hgood] at hk
      cases hk
    cases h1
    cases h2
    refine ⟨rfl, ?_⟩
    have hR9 : RecAt K H9 T.C_Recipe z many (varsT many.toNat) := ⟨dz, p4, _, s4, e4, hi8.mv m9⟩
    have hsh := vars_shaped (n := many.toNat) (by omega)
    refine ⟨(by decide : 2 ≤ sizeLine), fun p10 n10 => ?_⟩
    have m69 := m7.trans (m8.trans m9)
    have k10 := Mv.new (S := []) (o := (.tup [.ref x, .ref z])) n10
    have e10 : SqT K (upd H9 p10 (.tup [.ref x, .ref z])) p10 [.ref x, .ref z] := .inl (.inl upd_same)
    generalize upd H9 p10 (.tup [.ref x, .ref z]) = H10 at k10 e10 ⊢
    have m10 := m69.trans k10
    refine ⟨p10, _, rfl, e10, rfl, _, _, rfl, _, _, rfl, rfl, ?_⟩
    have hW10 := hW7.mv (m8.trans (m9.trans k10))
    have hR10 := hR9.mv k10
    refine ⟨.ref x, rfl, .ref c, rfl, c, .int many, rfl, dgt82 ec6 m10 (code_many d lr many given), .ref c, rfl, c, .int given, rfl, dgt82 ec6 m10 (code_given d lr many given), .ref c, rfl, c, .ref lr, rfl, dgt82 ec6 m10 (code_rows d lr many given), ?_⟩
    have hords : sts.map Sta.ord = sts := by
      conv => rhs; rw [← List.map_id sts]
      exact List.map_congr_left hSm.ord
    refine fun y dy ny ndy hney => ⟨y, dy, x, lr, rs, many, given, vs, sts, H10, rfl, rfl, ny, ndy, hney, hW10, hWo, by omega, by omega, g0, g1, .inl (m10.same _ _ el6), iv6.mv m10, hSm.ok, l0, by omega, fun l11 H11 m11 _ hCd => ⟨rfl, ?_⟩⟩
    have hY11 := hCd.at_
    rw [hords] at hY11
    have m611 := m10.trans m11
    have hR11 := hR10.mv m11
    have hW11 := hW10.mv m11
    have hl5 := hSm.l30
    have hvl : vs.length = sts.length := by rw [iv6.length, List.length_map]
    refine ⟨.ref c, rfl, c, .ref lr, rfl, dgt82 ec6 m611 (code_rows d lr many given), Or.inl ⟨lr, vs, rfl, .inl (.inl (.inl (m611.same _ _ el6))), ?_⟩⟩
    rw [hvl]
    refine ⟨(sts.length : Nat), rfl, by omega, by omega, ?_⟩
    have hSF : StF sts := stF_ok (places := (sts.length : Nat)) hWo (by omega) (by omega) hSm.ok
    refine for_range (lo := 0) (n := ((sts.length : Nat) : Int).toNat) (fun j σ H12 => ∃ (y7 y8 y9 y10 y11 y12 y13 y14 : Option V), σ = [some (.ref a), some (.ref b), some (.int (0 + (i : Int))), some (.ref c), some (.ref x), some (.ref z), some (.ref y), y7, y8, y9, y10, y11, y12, y13, y14, y15, none, none, none, none] ∧ Mv [] H11 H12)
      ⟨_, _, _, _, _, _, _, _, rfl, .refl⟩ (fun j σ H12 hj h12 => ?_) (fun σ H12 h12 => ?_)
    · obtain ⟨y7, y8, y9, y10, y11, y12, y13, y14, rfl, m12⟩ := h12
      have hjl : j < sts.length := by simpa using hj
      obtain ⟨p, hp⟩ : ∃ p : Int, p = 0 + (j : Int) := ⟨_, rfl⟩
      rw [← hp]
      have p0 : 0 ≤ p := by omega
      have p1 : p < sts.length := by omega
      have m612 := m611.trans m12
      refine ⟨.ref c, rfl, .int p, rfl, c, d, many, given, sts, p, rfl, hC6.mv m612, hSm.rooms.go, hSm.gos, by omega, p0, p1, fun q1 L1 H13 n13 m13 e13 hasc hmem => ⟨q1, rfl, ?_⟩⟩
      have hL1l : L1.length ≤ sts.length := nodup_few (List.nodup_iff_pairwise_ne.mpr (hasc.imp fun h => by omega)) fun o ho => ((hmem o).mp ho).in_ hSm.rooms.go
      refine lc_fm (K := K) (as := L1) (enc := PyData.int) (fun o => if onLoop sts p o = true then some (.int o) else none) (.inl (.inl (.inl e13))) (ims_int82 L1) (by omega) (fun zv o H14 Q' R' hm him m14 k1' k2' => ?_) (fun la zs5 H14 nla ela i14 m14 => ?_)
      · cases him.intI
        have ho := ((hmem o).mp hm).in_ hSm.rooms.go
        refine ⟨rfl, .int p, rfl, .ref c, rfl, .int o, rfl, c, d, many, given, sts, o, rfl, hC6.mv (m612.trans (m13.trans m14)), hSm.rooms.go, hSm.gos, by omega, ho.1, ho.2, fun p6 F6 H15 n15 m15 e15 _ hF6 => ?_⟩
        refine rd_in82 e15 ⟨_, rfl, ?_⟩
        have hb : decide (p ∈ F6) = onLoop sts p o := by
          rw [Bool.eq_iff_iff, decide_eq_true_iff, onLoop_iff]
          exact hF6 p
        rw [hb]
        by_cases hl : onLoop sts p o = true
        · rw [hl]
          exact ⟨.int o, rfl, k1' _ (if_pos hl) _ _ m15 (.int _)⟩
        · rw [Bool.not_eq_true] at hl
          rw [hl]
          exact k2' (if_neg (by rw [hl]; decide)) _ m15
      · have e : (L1.filterMap fun o => if onLoop sts p o = true then some (PyData.int o) else none) = (L1.filter (onLoop sts p)).map PyData.int := by
          clear hasc hmem hL1l i14 e13
          induction L1 with
          | nil => rfl
          | cons o ns ih =>
            rw [List.filterMap_cons, List.filter_cons]
            by_cases h : onLoop sts p o = true
            · rw [if_pos h, if_pos h, List.map_cons, ih]
            · rw [if_neg h, if_neg h, ih]
        rw [e] at i14
        rw [ims_ints82 i14] at ela
        have hL : LoopOf sts p (L1.filter (onLoop sts p)) := ⟨hasc.filter _, fun o => by rw [List.mem_filter, hmem, onLoop_iff]⟩
        have hLl : (L1.filter (onLoop sts p)).length ≤ 5 := Nat.le_trans (List.length_filter_le _ _) (by omega)
        generalize L1.filter (onLoop sts p) = L at ela hL hLl
        have m1114 := m12.trans (m13.trans m14)
        refine ⟨2, rfl, by decide, by decide, ?_⟩
        refine for_range (lo := 0) (n := (2 : Int).toNat) (fun t σ H15 => ∃ (y9 y10 y11 y12 y13 y14 : Option V), σ = [some (.ref a), some (.ref b), some (.int (0 + (i : Int))), some (.ref c), some (.ref x), some (.ref z), some (.ref y), some (.int p), some (.ref la), y9, y10, y11, y12, y13, y14, y15, none, none, none, none] ∧ Mv [] H14 H15)
          ⟨_, _, _, _, _, _, rfl, .refl⟩ (fun t σ H15 ht h15 => ?_) (fun σ H15 h15 => ?_)
        · obtain ⟨y9, y10, y11, y12, y13, y14, rfl, m15⟩ := h15
          have m1115 := m1114.trans m15
          have m615 := m611.trans m1115
          have ela15 := m15.same _ _ ela
          refine ⟨.ref y, rfl, .int p, rfl, y, x, rs, many, given, sts, p, rfl, hY11.mv m1115, hSm.cd, hSm.rooms, hSm.ok, hSm.ord, by omega, fun hn => absurd ⟨p0, p1⟩ hn, fun _ _ hL0 r H16 m16 ir => ?_, fun _ _ L' hL' hne' r z2 rc a1 a2 xs1 xs2 ps1 ps2 H16 m16 na1 na2 ha12 er hZ hRc ea1 ea2 hM1 hM2 hP1 hP2 => ?_⟩
          · obtain rfl := loop_one hL hL0
            refine ⟨fun _ _ => False, ?_, fun _ _ h => h.elim⟩
            refine ⟨.ref la, rfl, Nat.zero_le _, fun p2 n2 => ⟨la, p2, [], rfl, rfl, .inl (.inl (same_new n2 _ _ (m16.same _ _ ela15))), .inl (.inl upd_same), _, rfl, ?_⟩⟩
            have k2 := Mv.new (S := []) (o := (.lst ([] : List V))) n2
            have e2 : upd H16 p2 (.lst ([] : List V)) p2 = some (.lst ([] : List V)) := upd_same
            generalize upd H16 p2 (.lst ([] : List V)) = H2 at k2 e2 ⊢
            have m2 := m16.trans k2
            refine ⟨r, rfl, (by decide : 2 ≤ sizeLine), fun p3 n3 => ?_⟩
            have k3 := Mv.new (S := []) (o := (.tup [.str "unfit", .int 0])) n3
            have e3 : SqT K (upd H2 p3 (.tup [.str "unfit", .int 0])) p3 [.str "unfit", .int 0] := .inl (.inl upd_same)
            generalize upd H2 p3 (.tup [.str "unfit", .int 0]) = H3 at k3 e3 ⊢
            have m3 := m2.trans k3
            refine ⟨r, .ref p3, _, rfl, (ir.mv (k2.trans k3)).dp, .tup e3 (.cons (.str _) (.cons (.int _) .nil)), shw_si (by decide +kernel) (by decide +kernel) (by decide), ?_⟩
            refine ⟨_, rfl, ?_⟩
            exact ⟨_, _, _, _, _, _, rfl, m15.trans m3⟩
          · obtain rfl := loop_one hL' hL
            refine ⟨fun σ H17 => σ = [some (.ref a), some (.ref b), some (.int (0 + (i : Int))), some (.ref c), some (.ref x), some (.ref z), some (.ref y), some (.int p), some (.ref la), some (.int (0 + (t : Int))), some (.ref r), y11, y12, y13, y14, y15, none, none, none, none] ∧ Mv [] H16 H17, ?_, ?_⟩
            · refine ⟨.ref la, rfl, Nat.zero_le _, fun p2 n2 => ⟨la, p2, L'.map V.int, rfl, rfl, .inl (.inl (same_new n2 _ _ (m16.same _ _ ela15))), .inl (.inl upd_same), _, rfl, ?_⟩⟩
              have k2 := Mv.new (S := []) (o := (.lst ([] : List V))) n2
              have e2 : upd H16 p2 (.lst ([] : List V)) p2 = some (.lst ([] : List V)) := upd_same
              generalize upd H16 p2 (.lst ([] : List V)) = H2 at k2 e2 ⊢
              have m2 := k2
              have hLe : (L'.map V.int).isEmpty = false := by
                cases L' with
                | nil => exact absurd rfl hne'
                | cons => rfl
              rw [hLe]
              exact ⟨rfl, k2⟩
            · rintro σ H17 ⟨rfl, m17⟩
              have m1517 := m16.trans m17
              have m617 := m615.trans m1517
              have m1117 := m1115.trans m1517
              refine ⟨.ref c, rfl, .int p, rfl, .ref la, rfl, c, d, la, many, given, sts, p, L', rfl, hC6.mv m617, m1517.same _ _ ela15, hSm.rooms.go, hSm.rooms.ways, by omega, hL, hne', fun r2 fl pl zs2 xs ps H18 m18 er2 efl izs epl hps hP => ?_⟩
              refine ⟨r2, _, rfl, er2, rfl, _, _, rfl, _, _, rfl, rfl, ?_⟩
              have m1618 := m17.trans m18
              have m1118 := m1117.trans m18
              have m618 := m617.trans m18
              have er18 := m1618.sqT er
              refine ⟨.ref r, rfl, .ref r, .ty "tuple", _, _, true, rfl, .ty "tuple", tyx_sqT er18, kit_ty (a := "tuple") (by decide +kernel), _, rfl, ?_⟩
              refine ⟨.ref r, rfl, Or.inl ⟨r, _, rfl, .inr er18, Or.inl ⟨rfl, _, rfl, ?_⟩⟩⟩
              refine ⟨.ref r, rfl, rd_ixT er18 (by decide) (v := .ref z2) rfl ?_⟩
              have huo := unr_ok (p := p) hSm.ok (L := L') (fun o ho => ((hL.2 o).mp ho).1.in_ hSm.rooms.go) (loop_self hL hne')
              have hul : (unrS sts p L').length = sts.length + L'.length := unr_len
              refine ⟨.ref x, rfl, .ref c, rfl, c, .int many, rfl, dgt82 ec6 m618 (code_many d lr many given), .ref c, rfl, c, .int given, rfl, dgt82 ec6 m618 (code_given d lr many given), .ref fl, rfl, ?_⟩
              refine fun y2 dy2 ny2 ndy2 hney2 => ⟨y2, dy2, x, fl, rs, many, given, zs2, unrS sts p L', H18, rfl, rfl, ny2, ndy2, hney2, hW11.mv m1118, hWo, by omega, by omega, g0, g1, .inl efl, izs, huo, by omega, by omega, fun l19 H19 m19 _ hCd2 => ⟨rfl, ?_⟩⟩
              have hU := hCd2.at_
              rw [unr_ord hWo hSm.ok hSm.ord (fun o ho => ((hL.2 o).mp ho).1.in_ hSm.rooms.go)] at hU
              refine rd_eqCd82 hWo (hZ.mv (m1618.trans m19)) hU (stF_ok (places := ((unrS sts p L').length : Nat)) hWo (by omega) (by omega) huo) fun H20 m20 => ?_
              refine ⟨true, rfl, ?_⟩
              have m1820 := m19.trans m20
              have m1620 := m1618.trans m1820
              refine ⟨.ref pl, rfl, pl, rfl, ?_⟩
              have hps20 := hps.mv m1820
              have hpsl : ps.length ≤ 200 := by
                have h1 := hP.1.length_eq
                unfold prsU at h1
                rw [List.length_append, List.length_map, List.length_map, List.length_range] at h1
                omega
              have epl20 := m1820.same _ _ epl
              refine lc_seq (xs := xs) (.inl (.inl (.inl epl20))) (fun i D H21 => ∃ ys : List V, H21 D = some (.lst ys) ∧ PlAt H21 ys ((ps.take i).map fun e => (e.2, e.1)) ∧ Mv [] H20 H21)
                (fun D nD => ⟨[], upd_same, PlAt.nil, .new nD⟩) (fun i D H21 nD h21 => let ⟨_, _, _, m⟩ := h21; m) (fun D nD i v H21 hv h21 => ?_) (fun D H21 nD h21 => ?_)
              · obtain ⟨ys, v1, v2, v3⟩ := h21
                have hil := (List.getElem?_eq_some_iff.mp hv).1
                have hil' : i < ps.length := by rw [← hps.1]; exact hil
                have hqi : ps[i]? = some ps[i] := List.getElem?_eq_getElem hil'
                obtain ⟨t, rfl, ht⟩ := (hps20.2 i v _ hv hqi).mv v3
                generalize ps[i] = e at hqi ht
                refine ⟨t, _, rfl, .inl (.inl ht), rfl, _, _, rfl, _, _, rfl, rfl, rfl, ?_⟩
                refine ⟨.int e.2, rfl, .int e.1, rfl, (by decide : 2 ≤ sizeLine), fun pt npt => ?_⟩
                have kt := Mv.new (S := []) (o := .tup [.int e.2, .int e.1]) npt
                have hyl : ys.length ≤ 200 := by
                  rw [v2.1, List.length_map, List.length_take]
                  omega
                have hta : TupAt (upd H21 pt (.tup [.int e.2, .int e.1])) (.ref pt) (e.2, e.1) := ⟨pt, rfl, upd_same⟩
                have v1' := kt.same _ _ v1
                generalize upd H21 pt (.tup [.int e.2, .int e.1]) = H22 at kt hta v1' ⊢
                refine ⟨ys, v1', line5lt (by omega), ys ++ [.ref pt], upd_same, ?_, (v3.trans kt).wr nD⟩
                rw [List.take_add_one, hqi, List.map_append]
                exact ((v2.mv kt).snoc hta).put v1'
              · obtain ⟨ys, v1, v2, v3⟩ := h21
                rw [hps.1, List.take_length] at v2
                walk_at "nc"
                refine rd_sortP (K := K) v1 v2 fun y2 q2 pb npb hq2 hperm2 hpw2 => ?_
                have hP2' : BckOf sts.length L' q2 := ⟨hperm2.trans (hP.1.map _), hpw2⟩
                obtain rfl := prs_one hP1 hP
                obtain rfl := bck_one hP2 hP2'
                have kb := Mv.new (S := []) (o := .lst y2) npb
                have eb : upd H21 pb (.lst y2) pb = some (.lst y2) := upd_same
                generalize upd H21 pb (.lst y2) = H22 at kb eb ⊢
                have hq2 := hq2.mv kb
                have m2022 := v3.trans kb
                have hq2l : ps2.length = ps1.length := by rw [hperm2.length_eq, List.length_map]
                refine ⟨.ref pl, rfl, .ref pb, rfl, (by decide : 2 ≤ sizeLine), fun p23 n23 => ⟨p23, rfl, ?_⟩⟩
                have k23 := Mv.new (S := []) (o := (.tup [.ref pl, .ref pb])) n23
                have e23 : SqT K (upd H22 p23 (.tup [.ref pl, .ref pb])) p23 [.ref pl, .ref pb] := .inl (.inl upd_same)
                generalize upd H22 p23 (.tup [.ref pl, .ref pb]) = H23 at k23 e23 ⊢
                have m23 := m2022.trans k23
                have m1623 := m1620.trans m23
                have hz23 : RecAt K H23 T.C_Recipe z many (varsT many.toNat) := hR11.mv (m1118.trans (m1820.trans m23))
                have two : ∀ (k : Nat) (v : V), [V.ref pl, V.ref pb][k]? = some v → ∃ (l : Addr) (us : List V), v = .ref l ∧ H23 l = some (.lst us) ∧ PlAt H23 us (if k = 0 then ps1 else ps2) := by
                  intro k v hk
                  match k, hk with
                  | 0, hk =>
                    cases hk
                    exact ⟨pl, xs, rfl, m23.same _ _ epl20, hps20.mv m23⟩
                  | 1, hk =>
                    cases hk
                    exact ⟨pb, y2, rfl, k23.same _ _ eb, hq2.mv k23⟩
                have hpl12 : ∀ k : Nat, (if k = 0 then ps1 else ps2).length ≤ 200 := by
                  have h1 := hP1.1.length_eq
                  unfold prsU at h1
                  rw [List.length_append, List.length_map, List.length_map, List.length_range] at h1
                  intro k
                  split <;> omega
                refine lc_seq (xs := [.ref pl, .ref pb]) (.inr e23) (fun k D H24 => ∃ Ms : List Addr, H24 D = some (.lst (Ms.map V.ref)) ∧ Ms.length = k ∧ (∀ (j : Nat) (M : Addr), Ms[j]? = some M → ∃ us, H24 M = some (.lst us) ∧ M ≠ D ∧ MvsAt K H24 (if j = 0 then ps1 else ps2) z us) ∧ Mv [] H23 H24)
                  (fun D nD => ⟨[], upd_same, rfl, fun j M h => by simp at h, .new nD⟩) (fun k D H24 nD h24 => let ⟨_, _, _, _, m⟩ := h24; m) (fun D nD k v H24 hv h24 => ?_) (fun mm H24 nmm h24 => ?_)
                · obtain ⟨Ms, f1, f2, f3, f4⟩ := h24
                  have hk2 := (List.getElem?_eq_some_iff.mp hv).1
                  obtain ⟨l, us, rfl, el, hpl⟩ := two k v hv
                  have hpk := hpl12 k
                  refine ⟨rfl, .ref l, rfl, l, rfl, ?_⟩
                  generalize hqs : (if k = 0 then ps1 else ps2) = qs at hpl hpk
                  refine lc_seq (xs := us) (.inl (.inl (.inl (f4.same _ _ el)))) (fun i D2 H25 => ∃ zs : List V, H25 D2 = some (.lst zs) ∧ MvsAt K H25 (qs.take i) z zs ∧ Mv [] H24 H25)
                    (fun D2 nD2 => ⟨[], upd_same, ⟨rfl, fun i x e h => by simp at h⟩, .new nD2⟩) (fun i D2 H25 nD2 h25 => let ⟨_, _, _, m⟩ := h25; m) (fun D2 nD2 i v H25 hv h25 => ?_) (fun D2 H25 nD2 h25 => ?_)
                  · obtain ⟨zs4, w1, w2, w3⟩ := h25
                    have hil := (List.getElem?_eq_some_iff.mp hv).1
                    have hil' : i < qs.length := by rw [← hpl.1]; exact hil
                    have hqi : qs[i]? = some qs[i] := List.getElem?_eq_getElem hil'
                    obtain ⟨t, rfl, ht⟩ := (hpl.2 i v _ hv hqi).mv (f4.trans w3)
                    generalize qs[i] = e at hqi ht
                    refine ⟨rfl, .ref t, rfl, .ref z, rfl, (by decide : 1 ≤ sizeLine), fun pt npt => ?_⟩
                    have kt := Mv.new (S := []) (o := .tup [.ref z]) npt
                    have et : SqT K (upd H25 pt (.tup [.ref z])) pt [.ref z] := .inl (.inl upd_same)
                    have w1' := kt.same _ _ w1
                    generalize upd H25 pt (.tup [.ref z]) = H26 at kt et w1' ⊢
                    refine rd_cat (.inl (.inl (kt.same _ _ ht))) et (show 2 + 1 ≤ sizeLine by decide) fun pm H27 m27 em => ?_
                    have hzl4 : zs4.length ≤ 200 := by
                      rw [w2.1, List.length_take]
                      omega
                    have w1'' := m27.same _ _ w1'
                    refine ⟨zs4, w1'', line5lt (by omega), zs4 ++ [.ref pm], upd_same, ?_, (w3.trans (kt.trans m27)).wr nD2⟩
                    rw [List.take_add_one, hqi]
                    exact ((w2.mv (kt.trans m27)).snoc ⟨pm, rfl, em⟩).mv (Mv.set (S := [D2]) w1'' (by simp))
                  · obtain ⟨zs4, w1, w2, w3⟩ := h25
                    rw [hpl.1, List.take_length] at w2
                    have f1' := w3.same _ _ f1
                    have hD2 : D2 ≠ D := (ne_of_none f1 nD2).symm
                    have ms := Mv.set (S := [D]) (o := .lst (Ms.map V.ref ++ [.ref D2])) f1' (by simp)
                    refine ⟨_, f1', ?_, Ms ++ [D2], ?_, by simp [f2], fun j M hj => ?_, (f4.trans w3).wr nD⟩
                    · rw [List.length_map, f2]
                      simp at hk2
                      exact line5lt (by omega)
                    · rw [upd_same, List.map_append]
                      rfl
                    · by_cases hjl : j < Ms.length
                      · rw [List.getElem?_append_left hjl] at hj
                        obtain ⟨us', g1, g2, g3⟩ := f3 j M hj
                        refine ⟨us', ?_, g2, (g3.mv w3).mv ms⟩
                        rw [upd_ne g2]
                        exact w3.same _ _ g1
                      · have hjk : j = Ms.length := by
                          have := (List.getElem?_eq_some_iff.mp hj).1
                          rw [List.length_append, List.length_singleton] at this
                          omega
                        subst hjk
                        rw [List.getElem?_append_right (Nat.le_refl _), Nat.sub_self] at hj
                        cases hj
                        refine ⟨zs4, ?_, hD2, ?_⟩
                        · rw [upd_ne hD2]
                          exact w1
                        · rw [f2, hqs]
                          exact w2.mv ms
                · obtain ⟨Ms, f1, f2, f3, f4⟩ := h24
                  obtain ⟨M1, M2, rfl⟩ : ∃ M1 M2, Ms = [M1, M2] := by
                    match Ms, f2 with
                    | [M1, M2], _ => exact ⟨M1, M2, rfl⟩
                  obtain ⟨us1, g1, _, k1⟩ := f3 0 M1 rfl
                  obtain ⟨us2, g2, _, k2'⟩ := f3 1 M2 rfl
                  have m1624 := m1623.trans f4
                  have er24 := m1624.sqT er
                  have ea1' := m1624.same _ _ ea1
                  have ea2' := m1624.same _ _ ea2
                  refine ⟨.ref r, rfl, rd_ixT er24 (by decide) (v := .ref a1) rfl ⟨.ref r, rfl, rd_ixT er24 (by decide) (v := .ref a2) rfl ⟨(by decide : 2 ≤ sizeLine), fun p25 n25 => ?_⟩⟩⟩
                  have k25 := Mv.new (S := []) (o := .lst [.ref a1, .ref a2]) n25
                  have e25 : upd H24 p25 (.lst [.ref a1, .ref a2]) p25 = some (.lst [.ref a1, .ref a2]) := upd_same
                  generalize upd H24 p25 (.lst [.ref a1, .ref a2]) = H25 at k25 e25 ⊢
                  have m1625 := m1624.trans k25
                  have hz25 := hz23.mv (f4.trans k25)
                  have hrc25 := hRc.mv m1625
                  refine ⟨.ref mm, rfl, ⟨p25, mm, [.ref a1, .ref a2], [.ref M1, .ref M2], rfl, rfl, e25, k25.same _ _ f1, Prs.cons ?_ (Prs.cons ?_ Prs.nil)⟩, fun H26 x26 => ?_⟩
                  · exact mvs_eq (hM1.mv m1625) (k1.mv k25) (k25.same _ _ ea1') (k25.same _ _ g1) hrc25 hz25 hsh
                  · exact mvs_eq (hM2.mv m1625) (k2'.mv k25) (k25.same _ _ ea2') (k25.same _ _ g2) hrc25 hz25 hsh
                  have m1626 := m1625.trans (mv_ext x26)
                  refine ⟨_, rfl, ?_⟩
                  have er26 := m1626.sqT er
                  have ea16 := m1626.same _ _ ea1
                  have ea26 := m1626.same _ _ ea2
                  have hx1 : xs1.length ≤ 200 := by
                    rw [hM1.1]
                    exact hpl12 0
                  refine ⟨.ref r, rfl, rd_ixT er26 (by decide) (v := .ref a1) rfl ⟨.inl ⟨rfl, _, .inl (.inl ea16)⟩, a1, xs1, _, rfl, rfl, ea16, line5lt (by omega), ?_⟩⟩
                  have hm27 : Mv [a1] H26 (upd H26 a1 (.lst (xs1 ++ [.non]))) := Mv.set ea16 (by simp)
                  have er27 := hm27.sqT er26
                  have ea27 := hm27.keep _ _ (by simpa using ha12.symm) ea26
                  have m27 : Mv [] H15 (upd H26 a1 (.lst (xs1 ++ [.non]))) := (m16.trans m1626).wr na1
                  generalize upd H26 a1 (.lst (xs1 ++ [.non])) = H27 at er27 ea27 m27 ⊢
                  refine ⟨.ref r, rfl, rd_ixT er27 (by decide) (v := .ref a2) rfl ⟨.inl ⟨rfl, _, .inl (.inl ea27)⟩, a2, xs2, rfl, rfl, ea27, ?_⟩⟩
                  exact ⟨_, _, _, _, _, _, rfl, m15.trans (m27.wr na2)⟩
        · obtain ⟨y9, y10, y11, y12, y13, y14, rfl, m15⟩ := h15
          exact ⟨_, _, _, _, _, _, _, _, rfl, m1114.trans m15⟩
    · obtain ⟨y7, y8, y9, y10, y11, y12, y13, y14, rfl, m12⟩ := h12
      have m612 := m611.trans m12
      have hB12 := hB6.mv m612
      refine ⟨1, rfl, .ref c, rfl, c, .ref lr, rfl, dgt82 ec6 m612 (code_rows d lr many given), Or.inl ⟨lr, vs, rfl, .inl (.inl (.inl (m612.same _ _ el6))), ?_⟩⟩
      rw [hvl]
      refine ⟨10, 30, rfl, rfl, ⟨by decide, by decide⟩, (by decide : 3 ≤ sizeLine), fun p13 n13 => ?_⟩
      have k13 := Mv.new (S := []) (o := .lst [(fun i => V.int (-i)) 1, .int (sts.length : Nat), (fun i j : Int => V.int (i ^ j.toNat)) 10 30]) n13
      have e13 : upd H12 p13 (.lst [(fun i => V.int (-i)) 1, .int (sts.length : Nat), (fun i j : Int => V.int (i ^ j.toNat)) 10 30]) p13 = some (.lst [.int (-1), .int (sts.length : Nat), .int (10 ^ 30)]) := upd_same
      generalize upd H12 p13 (.lst [(fun i => V.int (-i)) 1, .int (sts.length : Nat), (fun i j : Int => V.int (i ^ j.toNat)) 10 30]) = H13 at k13 e13 ⊢
      have hB13 := hB12.mv k13
      have h13b : p13 ≠ b := hB12.fneq n13
      refine ⟨.ref b, rfl, b, 3, rfl, hB13, by decide, by decide, fun nf H14 nf0 nf3 d14 => ?_⟩
      obtain ⟨far, hfar, hfo, hfs⟩ : ∃ far : Int, [V.int (-1), .int (sts.length : Nat), .int (10 ^ 30)][nf.toNat]? = some (.int far) ∧ ¬ (0 ≤ far ∧ far < sts.length) ∧ far.natAbs < 10 ^ 40 := by
        have : nf = 0 ∨ nf = 1 ∨ nf = 2 := by omega
        rcases this with rfl | rfl | rfl
        · exact ⟨-1, rfl, by omega, by decide⟩
        · exact ⟨(sts.length : Nat), rfl, by omega, Nat.lt_of_le_of_lt (show _ ≤ 10 by omega) (by decide)⟩
        · exact ⟨10 ^ 30, rfl, by omega, by decide⟩
      refine rd_ixL (.inl (.inl (d14.get h13b e13))) nf0 hfar ?_
      have hB14 := d14.bag hB13
      have m1114 : Dr b H11 H14 := (Dr.of (m12.trans k13)).trans d14
      have hB11 := hB6.mv m611
      have hY14 := hY11.dr m1114 hB11
      have hC14 := (hC6.mv m611).dr m1114 hB11
      have hW14 := hW11.dr m1114 hB11
      refine ⟨.ref y, rfl, .int far, rfl, y, x, rs, many, given, sts, far, rfl, hY14, hSm.cd, hSm.rooms, hSm.ok, hSm.ord, by omega, fun _ r H15 m15 ir => ?_, fun z0 z1 => absurd ⟨z0, z1⟩ hfo, fun z0 z1 => absurd ⟨z0, z1⟩ hfo⟩
      refine ⟨.int far, rfl, (by decide : 2 ≤ sizeLine), fun p16 n16 => ?_⟩
      have k16 := Mv.new (S := []) (o := (.tup [.str "place", .int far])) n16
      have e16 : SqT K (upd H15 p16 (.tup [.str "place", .int far])) p16 [.str "place", .int far] := .inl (.inl upd_same)
      generalize upd H15 p16 (.tup [.str "place", .int far]) = H16 at k16 e16 ⊢
      have m16 := m15.trans k16
      refine ⟨r, .ref p16, _, rfl, (ir.mv k16).dp, .tup e16 (.cons (.str _) (.cons (.int _) .nil)), shw_si (by decide +kernel) (by decide +kernel) hfs, ?_⟩
      refine ⟨_, rfl, ?_⟩
      obtain ⟨lr2, vs2, ec16, el16, iv16⟩ := id (hC14.mv m16)
      refine ⟨.ref y, rfl, .ref x, rfl, .ref c, rfl, c, .int many, rfl, dgt82 ec16 .refl (code_many d lr2 many given), .ref c, rfl, c, .int given, rfl, dgt82 ec16 .refl (code_given d lr2 many given), .ref c, rfl, c, .ref lr2, rfl, dgt82 ec16 .refl (code_rows d lr2 many given), ?_⟩
      refine fun y2 dy2 ny2 ndy2 hney2 => ⟨y2, dy2, x, lr2, rs, many, given, vs2, sts, H16, rfl, rfl, ny2, ndy2, hney2, hW14.mv m16, hWo, by omega, by omega, g0, g1, .inl el16, iv16, hSm.ok, l0, by omega, fun l17 H17 m17 _ hCd2 => ⟨rfl, ?_⟩⟩
      have hU := hCd2.at_
      rw [hords] at hU
      refine rd_eqCd82 hWo (hY14.mv (m16.trans m17)) hU hSF fun H18 m18 => ?_
      refine ⟨true, rfl, ?_⟩
      exact ⟨_, _, _, _, _, _, _, _, _, _, _, _, _, _, rfl, hB14.mv (m16.trans (m17.trans m18))⟩
end
end Fm
namespace Fm
open PySem PySem.Spec PyProof.Rows L2 SlX
section
variable {l : PySem.W.OpenLaw} {w : World} {K : PySem.W.Frag} {mg : Str → Option Value} {fa : Addr}
theorem all_mk {h : Heap} (X : K.In h) (G : h.Ns mainGlobals mg) (hfa : mg "law" = some (.ref fa))
    {f0 : Addr} {od0 an0 : Option Addr} {sl0 : Array (Option Value)} {oc0 kV0 dc0 pm0 cd0 ct0 : Value}
    (a0 : PySem.W.nsIn K mainGlobals "_wall" = some (some (.ref f0))) (l0 : K.lookup f0 = some ⟨oc0, od0, .func (PySem.W.fnOf "_wall" "_wall" (defArgs s__wall) (defBody s__wall) (defScope s__wall) .none kV0 dc0 pm0 an0 cd0 ct0), sl0⟩) (c0 : PySem.W.codeIn K cd0 "_wall" = true) (k0 : PySem.W.keepIn K (.ref f0) = true)
    {f1 : Addr} {od1 an1 : Option Addr} {sl1 : Array (Option Value)} {oc1 kV1 dc1 pm1 cd1 ct1 : Value}
    (a1 : PySem.W.nsIn K mainGlobals "is_integer" = some (some (.ref f1))) (l1 : K.lookup f1 = some ⟨oc1, od1, .func (PySem.W.fnOf "is_integer" "is_integer" (defArgs s_is_integer) (defBody s_is_integer) (defScope s_is_integer) .none kV1 dc1 pm1 an1 cd1 ct1), sl1⟩) (c1 : PySem.W.codeIn K cd1 "is_integer" = true) (k1 : PySem.W.keepIn K (.ref f1) = true)
    {f2 : Addr} {od2 an2 : Option Addr} {sl2 : Array (Option Value)} {oc2 kV2 dc2 pm2 cd2 ct2 : Value}
    (a2 : PySem.W.nsIn K mainGlobals "is_name" = some (some (.ref f2))) (l2 : K.lookup f2 = some ⟨oc2, od2, .func (PySem.W.fnOf "is_name" "is_name" (defArgs s_is_name) (defBody s_is_name) (defScope s_is_name) .none kV2 dc2 pm2 an2 cd2 ct2), sl2⟩) (c2 : PySem.W.codeIn K cd2 "is_name" = true) (k2 : PySem.W.keepIn K (.ref f2) = true)
    {f3 : Addr} {od3 an3 : Option Addr} {sl3 : Array (Option Value)} {oc3 kV3 dc3 pm3 cd3 ct3 : Value}
    (a3 : PySem.W.nsIn K mainGlobals "is_outcome" = some (some (.ref f3))) (l3 : K.lookup f3 = some ⟨oc3, od3, .func (PySem.W.fnOf "is_outcome" "is_outcome" (defArgs s_is_outcome) (defBody s_is_outcome) (defScope s_is_outcome) .none kV3 dc3 pm3 an3 cd3 ct3), sl3⟩) (c3 : PySem.W.codeIn K cd3 "is_outcome" = true) (k3 : PySem.W.keepIn K (.ref f3) = true)
    {f4 : Addr} {od4 an4 : Option Addr} {sl4 : Array (Option Value)} {oc4 kV4 dc4 pm4 cd4 ct4 : Value}
    (a4 : PySem.W.nsIn K mainGlobals "is_term" = some (some (.ref f4))) (l4 : K.lookup f4 = some ⟨oc4, od4, .func (PySem.W.fnOf "is_term" "is_term" (defArgs s_is_term) (defBody s_is_term) (defScope s_is_term) .none kV4 dc4 pm4 an4 cd4 ct4), sl4⟩) (c4 : PySem.W.codeIn K cd4 "is_term" = true) (k4 : PySem.W.keepIn K (.ref f4) = true)
    {f5 : Addr} {od5 an5 : Option Addr} {sl5 : Array (Option Value)} {oc5 kV5 dc5 pm5 cd5 ct5 : Value}
    (a5 : PySem.W.nsIn K mainGlobals "is_term_over" = some (some (.ref f5))) (l5 : K.lookup f5 = some ⟨oc5, od5, .func (PySem.W.fnOf "is_term_over" "is_term_over" (defArgs s_is_term_over) (defBody s_is_term_over) (defScope s_is_term_over) .none kV5 dc5 pm5 an5 cd5 ct5), sl5⟩) (c5 : PySem.W.codeIn K cd5 "is_term_over" = true) (k5 : PySem.W.keepIn K (.ref f5) = true)
    {f6 : Addr} {od6 an6 : Option Addr} {sl6 : Array (Option Value)} {oc6 kV6 dc6 pm6 cd6 ct6 : Value}
    (a6 : PySem.W.nsIn K mainGlobals "is_within" = some (some (.ref f6))) (l6 : K.lookup f6 = some ⟨oc6, od6, .func (PySem.W.fnOf "is_within" "is_within" (defArgs s_is_within) (defBody s_is_within) (defScope s_is_within) .none kV6 dc6 pm6 an6 cd6 ct6), sl6⟩) (c6 : PySem.W.codeIn K cd6 "is_within" = true) (k6 : PySem.W.keepIn K (.ref f6) = true)
    {f7 : Addr} {od7 an7 : Option Addr} {sl7 : Array (Option Value)} {oc7 kV7 dc7 pm7 cd7 ct7 : Value}
    (a7 : PySem.W.nsIn K mainGlobals "are_outcomes" = some (some (.ref f7))) (l7 : K.lookup f7 = some ⟨oc7, od7, .func (PySem.W.fnOf "are_outcomes" "are_outcomes" (defArgs s_are_outcomes) (defBody s_are_outcomes) (defScope s_are_outcomes) .none kV7 dc7 pm7 an7 cd7 ct7), sl7⟩) (c7 : PySem.W.codeIn K cd7 "are_outcomes" = true) (k7 : PySem.W.keepIn K (.ref f7) = true)
    {f8 : Addr} {od8 an8 : Option Addr} {sl8 : Array (Option Value)} {oc8 kV8 dc8 pm8 cd8 ct8 : Value}
    (a8 : PySem.W.nsIn K mainGlobals "is_act" = some (some (.ref f8))) (l8 : K.lookup f8 = some ⟨oc8, od8, .func (PySem.W.fnOf "is_act" "is_act" (defArgs s_is_act) (defBody s_is_act) (defScope s_is_act) .none kV8 dc8 pm8 an8 cd8 ct8), sl8⟩) (c8 : PySem.W.codeIn K cd8 "is_act" = true) (k8 : PySem.W.keepIn K (.ref f8) = true)
    {f9 : Addr} {od9 an9 : Option Addr} {sl9 : Array (Option Value)} {oc9 kV9 dc9 pm9 cd9 ct9 : Value}
    (a9 : PySem.W.nsIn K mainGlobals "are_different" = some (some (.ref f9))) (l9 : K.lookup f9 = some ⟨oc9, od9, .func (PySem.W.fnOf "are_different" "are_different" (defArgs s_are_different) (defBody s_are_different) (defScope s_are_different) .none kV9 dc9 pm9 an9 cd9 ct9), sl9⟩) (c9 : PySem.W.codeIn K cd9 "are_different" = true) (k9 : PySem.W.keepIn K (.ref f9) = true)
    {f10 : Addr} {od10 an10 : Option Addr} {sl10 : Array (Option Value)} {oc10 kV10 dc10 pm10 cd10 ct10 : Value}
    (a10 : PySem.W.nsIn K mainGlobals "are_terms_over" = some (some (.ref f10))) (l10 : K.lookup f10 = some ⟨oc10, od10, .func (PySem.W.fnOf "are_terms_over" "are_terms_over" (defArgs s_are_terms_over) (defBody s_are_terms_over) (defScope s_are_terms_over) .none kV10 dc10 pm10 an10 cd10 ct10), sl10⟩) (c10 : PySem.W.codeIn K cd10 "are_terms_over" = true) (k10 : PySem.W.keepIn K (.ref f10) = true)
    {f11 : Addr} {od11 an11 : Option Addr} {sl11 : Array (Option Value)} {oc11 kV11 dc11 pm11 cd11 ct11 : Value}
    (a11 : PySem.W.nsIn K mainGlobals "is_place" = some (some (.ref f11))) (l11 : K.lookup f11 = some ⟨oc11, od11, .func (PySem.W.fnOf "is_place" "is_place" (defArgs s_is_place) (defBody s_is_place) (defScope s_is_place) .none kV11 dc11 pm11 an11 cd11 ct11), sl11⟩) (c11 : PySem.W.codeIn K cd11 "is_place" = true) (k11 : PySem.W.keepIn K (.ref f11) = true)
    {f12 : Addr} {od12 an12 : Option Addr} {sl12 : Array (Option Value)} {oc12 kV12 dc12 pm12 cd12 ct12 : Value}
    (a12 : PySem.W.nsIn K mainGlobals "is_pair" = some (some (.ref f12))) (l12 : K.lookup f12 = some ⟨oc12, od12, .func (PySem.W.fnOf "is_pair" "is_pair" (defArgs s_is_pair) (defBody s_is_pair) (defScope s_is_pair) .none kV12 dc12 pm12 an12 cd12 ct12), sl12⟩) (c12 : PySem.W.codeIn K cd12 "is_pair" = true) (k12 : PySem.W.keepIn K (.ref f12) = true)
    {f13 : Addr} {od13 an13 : Option Addr} {sl13 : Array (Option Value)} {oc13 kV13 dc13 pm13 cd13 ct13 : Value}
    (a13 : PySem.W.nsIn K mainGlobals "is_set" = some (some (.ref f13))) (l13 : K.lookup f13 = some ⟨oc13, od13, .func (PySem.W.fnOf "is_set" "is_set" (defArgs s_is_set) (defBody s_is_set) (defScope s_is_set) .none kV13 dc13 pm13 an13 cd13 ct13), sl13⟩) (c13 : PySem.W.codeIn K cd13 "is_set" = true) (k13 : PySem.W.keepIn K (.ref f13) = true)
    {f14 : Addr} {od14 an14 : Option Addr} {sl14 : Array (Option Value)} {oc14 kV14 dc14 pm14 cd14 ct14 : Value}
    (a14 : PySem.W.nsIn K mainGlobals "is_way" = some (some (.ref f14))) (l14 : K.lookup f14 = some ⟨oc14, od14, .func (PySem.W.fnOf "is_way" "is_way" (defArgs s_is_way) (defBody s_is_way) (defScope s_is_way) .none kV14 dc14 pm14 an14 cd14 ct14), sl14⟩) (c14 : PySem.W.codeIn K cd14 "is_way" = true) (k14 : PySem.W.keepIn K (.ref f14) = true)
    {f15 : Addr} {od15 an15 : Option Addr} {sl15 : Array (Option Value)} {oc15 kV15 dc15 pm15 cd15 ct15 : Value}
    (a15 : PySem.W.nsIn K mainGlobals "is_ask" = some (some (.ref f15))) (l15 : K.lookup f15 = some ⟨oc15, od15, .func (PySem.W.fnOf "is_ask" "is_ask" (defArgs s_is_ask) (defBody s_is_ask) (defScope s_is_ask) .none kV15 dc15 pm15 an15 cd15 ct15), sl15⟩) (c15 : PySem.W.codeIn K cd15 "is_ask" = true) (k15 : PySem.W.keepIn K (.ref f15) = true)
    {f16 : Addr} {od16 an16 : Option Addr} {sl16 : Array (Option Value)} {oc16 kV16 dc16 pm16 cd16 ct16 : Value}
    (a16 : PySem.W.nsIn K mainGlobals "is_end" = some (some (.ref f16))) (l16 : K.lookup f16 = some ⟨oc16, od16, .func (PySem.W.fnOf "is_end" "is_end" (defArgs s_is_end) (defBody s_is_end) (defScope s_is_end) .none kV16 dc16 pm16 an16 cd16 ct16), sl16⟩) (c16 : PySem.W.codeIn K cd16 "is_end" = true) (k16 : PySem.W.keepIn K (.ref f16) = true)
    {f17 : Addr} {od17 an17 : Option Addr} {sl17 : Array (Option Value)} {oc17 kV17 dc17 pm17 cd17 ct17 : Value}
    (a17 : PySem.W.nsIn K mainGlobals "is_statement" = some (some (.ref f17))) (l17 : K.lookup f17 = some ⟨oc17, od17, .func (PySem.W.fnOf "is_statement" "is_statement" (defArgs s_is_statement) (defBody s_is_statement) (defScope s_is_statement) .none kV17 dc17 pm17 an17 cd17 ct17), sl17⟩) (c17 : PySem.W.codeIn K cd17 "is_statement" = true) (k17 : PySem.W.keepIn K (.ref f17) = true)
    {f18 : Addr} {od18 an18 : Option Addr} {sl18 : Array (Option Value)} {oc18 kV18 dc18 pm18 cd18 ct18 : Value}
    (a18 : PySem.W.nsIn K mainGlobals "ordered" = some (some (.ref f18))) (l18 : K.lookup f18 = some ⟨oc18, od18, .func (PySem.W.fnOf "ordered" "ordered" (defArgs s_ordered) (defBody s_ordered) (defScope s_ordered) .none kV18 dc18 pm18 an18 cd18 ct18), sl18⟩) (c18 : PySem.W.codeIn K cd18 "ordered" = true) (k18 : PySem.W.keepIn K (.ref f18) = true)
    {f19 : Addr} {od19 an19 : Option Addr} {sl19 : Array (Option Value)} {oc19 kV19 dc19 pm19 cd19 ct19 : Value}
    (a19 : PySem.W.nsIn K mainGlobals "first_of" = some (some (.ref f19))) (l19 : K.lookup f19 = some ⟨oc19, od19, .func (PySem.W.fnOf "first_of" "first_of" (defArgs s_first_of) (defBody s_first_of) (defScope s_first_of) .none kV19 dc19 pm19 an19 cd19 ct19), sl19⟩) (c19 : PySem.W.codeIn K cd19 "first_of" = true) (k19 : PySem.W.keepIn K (.ref f19) = true)
    {f20 : Addr} {od20 an20 : Option Addr} {sl20 : Array (Option Value)} {oc20 kV20 dc20 pm20 cd20 ct20 : Value}
    (a20 : PySem.W.nsIn K mainGlobals "put" = some (some (.ref f20))) (l20 : K.lookup f20 = some ⟨oc20, od20, .func (PySem.W.fnOf "put" "put" (defArgs s_put) (defBody s_put) (defScope s_put) .none kV20 dc20 pm20 an20 cd20 ct20), sl20⟩) (c20 : PySem.W.codeIn K cd20 "put" = true) (k20 : PySem.W.keepIn K (.ref f20) = true)
    {f21 : Addr} {od21 an21 : Option Addr} {sl21 : Array (Option Value)} {oc21 kV21 dc21 pm21 cd21 ct21 : Value}
    (a21 : PySem.W.nsIn K mainGlobals "put_all" = some (some (.ref f21))) (l21 : K.lookup f21 = some ⟨oc21, od21, .func (PySem.W.fnOf "put_all" "put_all" (defArgs s_put_all) (defBody s_put_all) (defScope s_put_all) .none kV21 dc21 pm21 an21 cd21 ct21), sl21⟩) (c21 : PySem.W.codeIn K cd21 "put_all" = true) (k21 : PySem.W.keepIn K (.ref f21) = true)
    {f22 : Addr} {od22 an22 : Option Addr} {sl22 : Array (Option Value)} {oc22 kV22 dc22 pm22 cd22 ct22 : Value}
    (a22 : PySem.W.nsIn K mainGlobals "copied" = some (some (.ref f22))) (l22 : K.lookup f22 = some ⟨oc22, od22, .func (PySem.W.fnOf "copied" "copied" (defArgs s_copied) (defBody s_copied) (defScope s_copied) .none kV22 dc22 pm22 an22 cd22 ct22), sl22⟩) (c22 : PySem.W.codeIn K cd22 "copied" = true) (k22 : PySem.W.keepIn K (.ref f22) = true)
    {f23 : Addr} {od23 an23 : Option Addr} {sl23 : Array (Option Value)} {oc23 kV23 dc23 pm23 cd23 ct23 : Value}
    (a23 : PySem.W.nsIn K mainGlobals "with_statements" = some (some (.ref f23))) (l23 : K.lookup f23 = some ⟨oc23, od23, .func (PySem.W.fnOf "with_statements" "with_statements" (defArgs s_with_statements) (defBody s_with_statements) (defScope s_with_statements) .none kV23 dc23 pm23 an23 cd23 ct23), sl23⟩) (c23 : PySem.W.codeIn K cd23 "with_statements" = true) (k23 : PySem.W.keepIn K (.ref f23) = true)
    {f24 : Addr} {od24 an24 : Option Addr} {sl24 : Array (Option Value)} {oc24 kV24 dc24 pm24 cd24 ct24 : Value}
    (a24 : PySem.W.nsIn K mainGlobals "ways_from" = some (some (.ref f24))) (l24 : K.lookup f24 = some ⟨oc24, od24, .func (PySem.W.fnOf "ways_from" "ways_from" (defArgs s_ways_from) (defBody s_ways_from) (defScope s_ways_from) .none kV24 dc24 pm24 an24 cd24 ct24), sl24⟩) (c24 : PySem.W.codeIn K cd24 "ways_from" = true) (k24 : PySem.W.keepIn K (.ref f24) = true)
    {f25 : Addr} {od25 an25 : Option Addr} {sl25 : Array (Option Value)} {oc25 kV25 dc25 pm25 cd25 ct25 : Value}
    (a25 : PySem.W.nsIn K mainGlobals "come_to" = some (some (.ref f25))) (l25 : K.lookup f25 = some ⟨oc25, od25, .func (PySem.W.fnOf "come_to" "come_to" (defArgs s_come_to) (defBody s_come_to) (defScope s_come_to) .none kV25 dc25 pm25 an25 cd25 ct25), sl25⟩) (c25 : PySem.W.codeIn K cd25 "come_to" = true) (k25 : PySem.W.keepIn K (.ref f25) = true)
    {f26 : Addr} {od26 an26 : Option Addr} {sl26 : Array (Option Value)} {oc26 kV26 dc26 pm26 cd26 ct26 : Value}
    (a26 : PySem.W.nsIn K mainGlobals "loop_of" = some (some (.ref f26))) (l26 : K.lookup f26 = some ⟨oc26, od26, .func (PySem.W.fnOf "loop_of" "loop_of" (defArgs s_loop_of) (defBody s_loop_of) (defScope s_loop_of) .none kV26 dc26 pm26 an26 cd26 ct26), sl26⟩) (c26 : PySem.W.codeIn K cd26 "loop_of" = true) (k26 : PySem.W.keepIn K (.ref f26) = true)
    {f27 : Addr} {od27 an27 : Option Addr} {sl27 : Array (Option Value)} {oc27 kV27 dc27 pm27 cd27 ct27 : Value}
    (a27 : PySem.W.nsIn K mainGlobals "led" = some (some (.ref f27))) (l27 : K.lookup f27 = some ⟨oc27, od27, .func (PySem.W.fnOf "led" "led" (defArgs s_led) (defBody s_led) (defScope s_led) .none kV27 dc27 pm27 an27 cd27 ct27), sl27⟩) (c27 : PySem.W.codeIn K cd27 "led" = true) (k27 : PySem.W.keepIn K (.ref f27) = true)
    {f28 : Addr} {od28 an28 : Option Addr} {sl28 : Array (Option Value)} {oc28 kV28 dc28 pm28 cd28 ct28 : Value}
    (a28 : PySem.W.nsIn K mainGlobals "unrolled" = some (some (.ref f28))) (l28 : K.lookup f28 = some ⟨oc28, od28, .func (PySem.W.fnOf "unrolled" "unrolled" (defArgs s_unrolled) (defBody s_unrolled) (defScope s_unrolled) .none kV28 dc28 pm28 an28 cd28 ct28), sl28⟩) (c28 : PySem.W.codeIn K cd28 "unrolled" = true) (k28 : PySem.W.keepIn K (.ref f28) = true)
    {f29 : Addr} {od29 an29 : Option Addr} {sl29 : Array (Option Value)} {oc29 kV29 dc29 pm29 cd29 ct29 : Value}
    (a29 : PySem.W.nsIn K mainGlobals "_law_bag" = some (some (.ref f29))) (l29 : K.lookup f29 = some ⟨oc29, od29, .func (PySem.W.fnOf "_law_bag" "_law_bag" (defArgs s__law_bag) (defBody s__law_bag) (defScope s__law_bag) .none kV29 dc29 pm29 an29 cd29 ct29), sl29⟩) (c29 : PySem.W.codeIn K cd29 "_law_bag" = true) (k29 : PySem.W.keepIn K (.ref f29) = true)
    {f30 : Addr} {od30 an30 : Option Addr} {sl30 : Array (Option Value)} {oc30 kV30 dc30 pm30 cd30 ct30 : Value}
    (a30 : PySem.W.nsIn K mainGlobals "_law_take" = some (some (.ref f30))) (l30 : K.lookup f30 = some ⟨oc30, od30, .func (PySem.W.fnOf "_law_take" "_law_take" (defArgs s__law_take) (defBody s__law_take) (defScope s__law_take) .none kV30 dc30 pm30 an30 cd30 ct30), sl30⟩) (c30 : PySem.W.codeIn K cd30 "_law_take" = true) (k30 : PySem.W.keepIn K (.ref f30) = true)
    {f31 : Addr} {od31 an31 : Option Addr} {sl31 : Array (Option Value)} {oc31 kV31 dc31 pm31 cd31 ct31 : Value}
    (a31 : PySem.W.nsIn K mainGlobals "_law_alike" = some (some (.ref f31))) (l31 : K.lookup f31 = some ⟨oc31, od31, .func (PySem.W.fnOf "_law_alike" "_law_alike" (defArgs s__law_alike) (defBody s__law_alike) (defScope s__law_alike) .none kV31 dc31 pm31 an31 cd31 ct31), sl31⟩) (c31 : PySem.W.codeIn K cd31 "_law_alike" = true) (k31 : PySem.W.keepIn K (.ref f31) = true)
    {f32 : Addr} {od32 an32 : Option Addr} {sl32 : Array (Option Value)} {oc32 kV32 dc32 pm32 cd32 ct32 : Value}
    (a32 : PySem.W.nsIn K mainGlobals "_law_mixed" = some (some (.ref f32))) (l32 : K.lookup f32 = some ⟨oc32, od32, .func (PySem.W.fnOf "_law_mixed" "_law_mixed" (defArgs s__law_mixed) (defBody s__law_mixed) (defScope s__law_mixed) .none kV32 dc32 pm32 an32 cd32 ct32), sl32⟩) (c32 : PySem.W.codeIn K cd32 "_law_mixed" = true) (k32 : PySem.W.keepIn K (.ref f32) = true)
    {f33 : Addr} {od33 an33 : Option Addr} {sl33 : Array (Option Value)} {oc33 kV33 dc33 pm33 cd33 ct33 : Value}
    (a33 : PySem.W.nsIn K mainGlobals "_law_piece" = some (some (.ref f33))) (l33 : K.lookup f33 = some ⟨oc33, od33, .func (PySem.W.fnOf "_law_piece" "_law_piece" (defArgs s__law_piece) (defBody s__law_piece) (defScope s__law_piece) .none kV33 dc33 pm33 an33 cd33 ct33), sl33⟩) (c33 : PySem.W.codeIn K cd33 "_law_piece" = true) (k33 : PySem.W.keepIn K (.ref f33) = true)
    {f34 : Addr} {od34 an34 : Option Addr} {sl34 : Array (Option Value)} {oc34 kV34 dc34 pm34 cd34 ct34 : Value}
    (a34 : PySem.W.nsIn K mainGlobals "_law_small_row" = some (some (.ref f34))) (l34 : K.lookup f34 = some ⟨oc34, od34, .func (PySem.W.fnOf "_law_small_row" "_law_small_row" (defArgs s__law_small_row) (defBody s__law_small_row) (defScope s__law_small_row) .none kV34 dc34 pm34 an34 cd34 ct34), sl34⟩) (c34 : PySem.W.codeIn K cd34 "_law_small_row" = true) (k34 : PySem.W.keepIn K (.ref f34) = true)
    {f35 : Addr} {od35 an35 : Option Addr} {sl35 : Array (Option Value)} {oc35 kV35 dc35 pm35 cd35 ct35 : Value}
    (a35 : PySem.W.nsIn K mainGlobals "_law_like_acts" = some (some (.ref f35))) (l35 : K.lookup f35 = some ⟨oc35, od35, .func (PySem.W.fnOf "_law_like_acts" "_law_like_acts" (defArgs s__law_like_acts) (defBody s__law_like_acts) (defScope s__law_like_acts) .none kV35 dc35 pm35 an35 cd35 ct35), sl35⟩) (c35 : PySem.W.codeIn K cd35 "_law_like_acts" = true) (k35 : PySem.W.keepIn K (.ref f35) = true)
    {f36 : Addr} {od36 an36 : Option Addr} {sl36 : Array (Option Value)} {oc36 kV36 dc36 pm36 cd36 ct36 : Value}
    (a36 : PySem.W.nsIn K mainGlobals "_law_small_code" = some (some (.ref f36))) (l36 : K.lookup f36 = some ⟨oc36, od36, .func (PySem.W.fnOf "_law_small_code" "_law_small_code" (defArgs s__law_small_code) (defBody s__law_small_code) (defScope s__law_small_code) .none kV36 dc36 pm36 an36 cd36 ct36), sl36⟩) (c36 : PySem.W.codeIn K cd36 "_law_small_code" = true) (k36 : PySem.W.keepIn K (.ref f36) = true)
    {f37 : Addr} {od37 an37 : Option Addr} {sl37 : Array (Option Value)} {oc37 kV37 dc37 pm37 cd37 ct37 : Value}
    (a37 : PySem.W.nsIn K mainGlobals "_law_ways" = some (some (.ref f37))) (l37 : K.lookup f37 = some ⟨oc37, od37, .func (PySem.W.fnOf "_law_ways" "_law_ways" (defArgs s__law_ways) (defBody s__law_ways) (defScope s__law_ways) .none kV37 dc37 pm37 an37 cd37 ct37), sl37⟩) (c37 : PySem.W.codeIn K cd37 "_law_ways" = true) (k37 : PySem.W.keepIn K (.ref f37) = true)
    {f38 : Addr} {od38 an38 : Option Addr} {sl38 : Array (Option Value)} {oc38 kV38 dc38 pm38 cd38 ct38 : Value}
    (a38 : PySem.W.nsIn K mainGlobals "_law_behind_place" = some (some (.ref f38))) (l38 : K.lookup f38 = some ⟨oc38, od38, .func (PySem.W.fnOf "_law_behind_place" "_law_behind_place" (defArgs s__law_behind_place) (defBody s__law_behind_place) (defScope s__law_behind_place) .none kV38 dc38 pm38 an38 cd38 ct38), sl38⟩) (c38 : PySem.W.codeIn K cd38 "_law_behind_place" = true) (k38 : PySem.W.keepIn K (.ref f38) = true)
    {f39 : Addr} {od39 an39 : Option Addr} {sl39 : Array (Option Value)} {oc39 kV39 dc39 pm39 cd39 ct39 : Value}
    (a39 : PySem.W.nsIn K mainGlobals "_law_led_on" = some (some (.ref f39))) (l39 : K.lookup f39 = some ⟨oc39, od39, .func (PySem.W.fnOf "_law_led_on" "_law_led_on" (defArgs s__law_led_on) (defBody s__law_led_on) (defScope s__law_led_on) .none kV39 dc39 pm39 an39 cd39 ct39), sl39⟩) (c39 : PySem.W.codeIn K cd39 "_law_led_on" = true) (k39 : PySem.W.keepIn K (.ref f39) = true)
    {f40 : Addr} {od40 an40 : Option Addr} {sl40 : Array (Option Value)} {oc40 kV40 dc40 pm40 cd40 ct40 : Value}
    (a40 : PySem.W.nsIn K mainGlobals "_law_due" = some (some (.ref f40))) (l40 : K.lookup f40 = some ⟨oc40, od40, .func (PySem.W.fnOf "_law_due" "_law_due" (defArgs s__law_due) (defBody s__law_due) (defScope s__law_due) .none kV40 dc40 pm40 an40 cd40 ct40), sl40⟩) (c40 : PySem.W.codeIn K cd40 "_law_due" = true) (k40 : PySem.W.keepIn K (.ref f40) = true)
    {f41 : Addr} {od41 an41 : Option Addr} {sl41 : Array (Option Value)} {oc41 kV41 dc41 pm41 cd41 ct41 : Value}
    (a41 : PySem.W.nsIn K mainGlobals "_law_tried" = some (some (.ref f41))) (l41 : K.lookup f41 = some ⟨oc41, od41, .func (PySem.W.fnOf "_law_tried" "_law_tried" (defArgs s__law_tried) (defBody s__law_tried) (defScope s__law_tried) .none kV41 dc41 pm41 an41 cd41 ct41), sl41⟩) (c41 : PySem.W.codeIn K cd41 "_law_tried" = true) (k41 : PySem.W.keepIn K (.ref f41) = true)
    {f42 : Addr} {od42 an42 : Option Addr} {sl42 : Array (Option Value)} {oc42 kV42 dc42 pm42 cd42 ct42 : Value}
    (a42 : PySem.W.nsIn K mainGlobals "law" = some (some (.ref f42))) (l42 : K.lookup f42 = some ⟨oc42, od42, .func (PySem.W.fnOf "law" "law" (defArgs s_law) (defBody s_law) (defScope s_law) .none kV42 dc42 pm42 an42 cd42 ct42), sl42⟩) (c42 : PySem.W.codeIn K cd42 "law" = true) (k42 : PySem.W.keepIn K (.ref f42) = true)
    {C_World : Addr}
    (g_World : PySem.W.nsIn K mainGlobals "World" = some (some (.ref C_World)))
    (k_World : PySem.W.keepIn K (.ref C_World) = true)
    (pg_World : PySem.W.plainGet K C_World Str.empty = true)
    (ic_World : PySem.W.isClsIn K C_World = true)
    (po_World : PySem.W.plainOver K C_World = true)
    (sa_World : PySem.W.findIn K (.ref C_World) "__setattr__" = some (some (.builtin "object.__setattr__")))
    (mk_World : PySem.W.makesIn K C_World = true)
    (ca_World : PySem.W.findIn K (.ref C_World) "__class__" = some (some (.builtin "object.__class__")))
    (cn_World : PySem.W.specialIn K (.builtin "object.__class__") "__get__" = some (some (.builtin "getset_descriptor.__get__")))
    (ct_World : PySem.W.takesIn K (.builtin "object.__class__") = some true)
    (cm_World : PySem.W.mroIn K C_World (.type "object") = some true)
    (ne_World : PySem.W.findIn K (.ref C_World) "__ne__" = some (some (.builtin "object.__ne__")))
    (tyc_World : PySem.W.typeIn K (.ref C_World) = some (.type "type"))
    {p_World_its_acts : Addr}
    (at_World_its_acts : PySem.W.findIn K (.ref C_World) "its_acts" = some (some (.ref p_World_its_acts)))
    (get_World_its_acts : PySem.W.specialIn K (.ref p_World_its_acts) "__get__" = some (some (.builtin "member_descriptor.__get__")))
    (tk_World_its_acts : PySem.W.takesIn K (.ref p_World_its_acts) = some true)
    (ty_World_its_acts : PySem.W.typeIn K (.ref p_World_its_acts) = some (.type "member_descriptor"))
    (ix_World_its_acts : PySem.W.slotIn K p_World_its_acts C_World = some 0)
    {f_World___init__ : Addr} {od_World___init__ an_World___init__ : Option Addr} {sl_World___init__ : Array (Option Value)} {oc_World___init__ kV_World___init__ dc_World___init__ pm_World___init__ cd_World___init__ cc_World___init__ : Value}
    (am_World___init__ : PySem.W.findIn K (.ref C_World) "__init__" = some (some (.ref f_World___init__)))
    (im_World___init__ : PySem.W.isFn K (.ref f_World___init__) = true)
    (lm_World___init__ : K.lookup f_World___init__ = some ⟨oc_World___init__, od_World___init__, .func (PySem.W.fnOf "__init__" "World.__init__" (defArgs s_World___init__) (defBody s_World___init__) (defScope s_World___init__) .none kV_World___init__ dc_World___init__ pm_World___init__ an_World___init__ cd_World___init__ cc_World___init__), sl_World___init__⟩)
    (co_World___init__ : PySem.W.codeIn K cd_World___init__ "World.__init__" = true)
    (km_World___init__ : PySem.W.keepIn K (.ref f_World___init__) = true)
    {f_World_acts : Addr} {od_World_acts an_World_acts : Option Addr} {sl_World_acts : Array (Option Value)} {oc_World_acts kV_World_acts dc_World_acts pm_World_acts cd_World_acts cc_World_acts : Value}
    (am_World_acts : PySem.W.findIn K (.ref C_World) "acts" = some (some (.ref f_World_acts)))
    (im_World_acts : PySem.W.isFn K (.ref f_World_acts) = true)
    (lm_World_acts : K.lookup f_World_acts = some ⟨oc_World_acts, od_World_acts, .func (PySem.W.fnOf "acts" "World.acts" (defArgs s_World_acts) (defBody s_World_acts) (defScope s_World_acts) .none kV_World_acts dc_World_acts pm_World_acts an_World_acts cd_World_acts cc_World_acts), sl_World_acts⟩)
    (co_World_acts : PySem.W.codeIn K cd_World_acts "World.acts" = true)
    (km_World_acts : PySem.W.keepIn K (.ref f_World_acts) = true)
    {f_World_arguments : Addr} {od_World_arguments an_World_arguments : Option Addr} {sl_World_arguments : Array (Option Value)} {oc_World_arguments kV_World_arguments dc_World_arguments pm_World_arguments cd_World_arguments cc_World_arguments : Value}
    (am_World_arguments : PySem.W.findIn K (.ref C_World) "arguments" = some (some (.ref f_World_arguments)))
    (im_World_arguments : PySem.W.isFn K (.ref f_World_arguments) = true)
    (lm_World_arguments : K.lookup f_World_arguments = some ⟨oc_World_arguments, od_World_arguments, .func (PySem.W.fnOf "arguments" "World.arguments" (defArgs s_World_arguments) (defBody s_World_arguments) (defScope s_World_arguments) .none kV_World_arguments dc_World_arguments pm_World_arguments an_World_arguments cd_World_arguments cc_World_arguments), sl_World_arguments⟩)
    (co_World_arguments : PySem.W.codeIn K cd_World_arguments "World.arguments" = true)
    (km_World_arguments : PySem.W.keepIn K (.ref f_World_arguments) = true)
    {f_World_outcomes : Addr} {od_World_outcomes an_World_outcomes : Option Addr} {sl_World_outcomes : Array (Option Value)} {oc_World_outcomes kV_World_outcomes dc_World_outcomes pm_World_outcomes cd_World_outcomes cc_World_outcomes : Value}
    (am_World_outcomes : PySem.W.findIn K (.ref C_World) "outcomes" = some (some (.ref f_World_outcomes)))
    (im_World_outcomes : PySem.W.isFn K (.ref f_World_outcomes) = true)
    (lm_World_outcomes : K.lookup f_World_outcomes = some ⟨oc_World_outcomes, od_World_outcomes, .func (PySem.W.fnOf "outcomes" "World.outcomes" (defArgs s_World_outcomes) (defBody s_World_outcomes) (defScope s_World_outcomes) .none kV_World_outcomes dc_World_outcomes pm_World_outcomes an_World_outcomes cd_World_outcomes cc_World_outcomes), sl_World_outcomes⟩)
    (co_World_outcomes : PySem.W.codeIn K cd_World_outcomes "World.outcomes" = true)
    (km_World_outcomes : PySem.W.keepIn K (.ref f_World_outcomes) = true)
    {f_World_brings : Addr} {od_World_brings an_World_brings : Option Addr} {sl_World_brings : Array (Option Value)} {oc_World_brings kV_World_brings dc_World_brings pm_World_brings cd_World_brings cc_World_brings : Value}
    (am_World_brings : PySem.W.findIn K (.ref C_World) "brings" = some (some (.ref f_World_brings)))
    (im_World_brings : PySem.W.isFn K (.ref f_World_brings) = true)
    (lm_World_brings : K.lookup f_World_brings = some ⟨oc_World_brings, od_World_brings, .func (PySem.W.fnOf "brings" "World.brings" (defArgs s_World_brings) (defBody s_World_brings) (defScope s_World_brings) .none kV_World_brings dc_World_brings pm_World_brings an_World_brings cd_World_brings cc_World_brings), sl_World_brings⟩)
    (co_World_brings : PySem.W.codeIn K cd_World_brings "World.brings" = true)
    (km_World_brings : PySem.W.keepIn K (.ref f_World_brings) = true)
    {f_World___eq__ : Addr} {od_World___eq__ an_World___eq__ : Option Addr} {sl_World___eq__ : Array (Option Value)} {oc_World___eq__ kV_World___eq__ dc_World___eq__ pm_World___eq__ cd_World___eq__ cc_World___eq__ : Value}
    (am_World___eq__ : PySem.W.findIn K (.ref C_World) "__eq__" = some (some (.ref f_World___eq__)))
    (im_World___eq__ : PySem.W.isFn K (.ref f_World___eq__) = true)
    (lm_World___eq__ : K.lookup f_World___eq__ = some ⟨oc_World___eq__, od_World___eq__, .func (PySem.W.fnOf "__eq__" "World.__eq__" (defArgs s_World___eq__) (defBody s_World___eq__) (defScope s_World___eq__) .none kV_World___eq__ dc_World___eq__ pm_World___eq__ an_World___eq__ cd_World___eq__ cc_World___eq__), sl_World___eq__⟩)
    (co_World___eq__ : PySem.W.codeIn K cd_World___eq__ "World.__eq__" = true)
    (km_World___eq__ : PySem.W.keepIn K (.ref f_World___eq__) = true)
    {C_Code : Addr}
    (g_Code : PySem.W.nsIn K mainGlobals "Code" = some (some (.ref C_Code)))
    (k_Code : PySem.W.keepIn K (.ref C_Code) = true)
    (pg_Code : PySem.W.plainGet K C_Code Str.empty = true)
    (ic_Code : PySem.W.isClsIn K C_Code = true)
    (po_Code : PySem.W.plainOver K C_Code = true)
    (sa_Code : PySem.W.findIn K (.ref C_Code) "__setattr__" = some (some (.builtin "object.__setattr__")))
    (mk_Code : PySem.W.makesIn K C_Code = true)
    (ca_Code : PySem.W.findIn K (.ref C_Code) "__class__" = some (some (.builtin "object.__class__")))
    (cn_Code : PySem.W.specialIn K (.builtin "object.__class__") "__get__" = some (some (.builtin "getset_descriptor.__get__")))
    (ct_Code : PySem.W.takesIn K (.builtin "object.__class__") = some true)
    (cm_Code : PySem.W.mroIn K C_Code (.type "object") = some true)
    (df_World_Code : PySem.W.subIn K (.ref C_World) (.ref C_Code) = some false)
    (dn_World_Code : C_World ≠ C_Code)
    (ne_Code : PySem.W.findIn K (.ref C_Code) "__ne__" = some (some (.builtin "object.__ne__")))
    (tyc_Code : PySem.W.typeIn K (.ref C_Code) = some (.type "type"))
    {p_Code_its_given : Addr}
    (at_Code_its_given : PySem.W.findIn K (.ref C_Code) "its_given" = some (some (.ref p_Code_its_given)))
    (get_Code_its_given : PySem.W.specialIn K (.ref p_Code_its_given) "__get__" = some (some (.builtin "member_descriptor.__get__")))
    (tk_Code_its_given : PySem.W.takesIn K (.ref p_Code_its_given) = some true)
    (ty_Code_its_given : PySem.W.typeIn K (.ref p_Code_its_given) = some (.type "member_descriptor"))
    (ix_Code_its_given : PySem.W.slotIn K p_Code_its_given C_Code = some 0)
    {p_Code_its_statements : Addr}
    (at_Code_its_statements : PySem.W.findIn K (.ref C_Code) "its_statements" = some (some (.ref p_Code_its_statements)))
    (get_Code_its_statements : PySem.W.specialIn K (.ref p_Code_its_statements) "__get__" = some (some (.builtin "member_descriptor.__get__")))
    (tk_Code_its_statements : PySem.W.takesIn K (.ref p_Code_its_statements) = some true)
    (ty_Code_its_statements : PySem.W.typeIn K (.ref p_Code_its_statements) = some (.type "member_descriptor"))
    (ix_Code_its_statements : PySem.W.slotIn K p_Code_its_statements C_Code = some 1)
    {p_Code_its_variables : Addr}
    (at_Code_its_variables : PySem.W.findIn K (.ref C_Code) "its_variables" = some (some (.ref p_Code_its_variables)))
    (get_Code_its_variables : PySem.W.specialIn K (.ref p_Code_its_variables) "__get__" = some (some (.builtin "member_descriptor.__get__")))
    (tk_Code_its_variables : PySem.W.takesIn K (.ref p_Code_its_variables) = some true)
    (ty_Code_its_variables : PySem.W.typeIn K (.ref p_Code_its_variables) = some (.type "member_descriptor"))
    (ix_Code_its_variables : PySem.W.slotIn K p_Code_its_variables C_Code = some 2)
    {p_Code_its_world : Addr}
    (at_Code_its_world : PySem.W.findIn K (.ref C_Code) "its_world" = some (some (.ref p_Code_its_world)))
    (get_Code_its_world : PySem.W.specialIn K (.ref p_Code_its_world) "__get__" = some (some (.builtin "member_descriptor.__get__")))
    (tk_Code_its_world : PySem.W.takesIn K (.ref p_Code_its_world) = some true)
    (ty_Code_its_world : PySem.W.typeIn K (.ref p_Code_its_world) = some (.type "member_descriptor"))
    (ix_Code_its_world : PySem.W.slotIn K p_Code_its_world C_Code = some 3)
    {f_Code___init__ : Addr} {od_Code___init__ an_Code___init__ : Option Addr} {sl_Code___init__ : Array (Option Value)} {oc_Code___init__ kV_Code___init__ dc_Code___init__ pm_Code___init__ cd_Code___init__ cc_Code___init__ : Value}
    (am_Code___init__ : PySem.W.findIn K (.ref C_Code) "__init__" = some (some (.ref f_Code___init__)))
    (im_Code___init__ : PySem.W.isFn K (.ref f_Code___init__) = true)
    (lm_Code___init__ : K.lookup f_Code___init__ = some ⟨oc_Code___init__, od_Code___init__, .func (PySem.W.fnOf "__init__" "Code.__init__" (defArgs s_Code___init__) (defBody s_Code___init__) (defScope s_Code___init__) .none kV_Code___init__ dc_Code___init__ pm_Code___init__ an_Code___init__ cd_Code___init__ cc_Code___init__), sl_Code___init__⟩)
    (co_Code___init__ : PySem.W.codeIn K cd_Code___init__ "Code.__init__" = true)
    (km_Code___init__ : PySem.W.keepIn K (.ref f_Code___init__) = true)
    {f_Code_world : Addr} {od_Code_world an_Code_world : Option Addr} {sl_Code_world : Array (Option Value)} {oc_Code_world kV_Code_world dc_Code_world pm_Code_world cd_Code_world cc_Code_world : Value}
    {p_Code_world : Addr} {rs_Code_world : List Value}
    (pa_Code_world : PySem.W.findIn K (.ref C_Code) "world" = some (some (.ref p_Code_world)))
    (pg_Code_world : PySem.W.specialIn K (.ref p_Code_world) "__get__" = some (some (.builtin "property.__get__")))
    (pt_Code_world : PySem.W.takesIn K (.ref p_Code_world) = some true)
    (pr_Code_world : PySem.W.recIn K p_Code_world "property" = some (.ref f_Code_world :: rs_Code_world))
    (lm_Code_world : K.lookup f_Code_world = some ⟨oc_Code_world, od_Code_world, .func (PySem.W.fnOf "world" "Code.world" (defArgs s_Code_world) (defBody s_Code_world) (defScope s_Code_world) .none kV_Code_world dc_Code_world pm_Code_world an_Code_world cd_Code_world cc_Code_world), sl_Code_world⟩)
    (co_Code_world : PySem.W.codeIn K cd_Code_world "Code.world" = true)
    (km_Code_world : PySem.W.keepIn K (.ref f_Code_world) = true)
    {f_Code_variables : Addr} {od_Code_variables an_Code_variables : Option Addr} {sl_Code_variables : Array (Option Value)} {oc_Code_variables kV_Code_variables dc_Code_variables pm_Code_variables cd_Code_variables cc_Code_variables : Value}
    {p_Code_variables : Addr} {rs_Code_variables : List Value}
    (pa_Code_variables : PySem.W.findIn K (.ref C_Code) "variables" = some (some (.ref p_Code_variables)))
    (pg_Code_variables : PySem.W.specialIn K (.ref p_Code_variables) "__get__" = some (some (.builtin "property.__get__")))
    (pt_Code_variables : PySem.W.takesIn K (.ref p_Code_variables) = some true)
    (pr_Code_variables : PySem.W.recIn K p_Code_variables "property" = some (.ref f_Code_variables :: rs_Code_variables))
    (lm_Code_variables : K.lookup f_Code_variables = some ⟨oc_Code_variables, od_Code_variables, .func (PySem.W.fnOf "variables" "Code.variables" (defArgs s_Code_variables) (defBody s_Code_variables) (defScope s_Code_variables) .none kV_Code_variables dc_Code_variables pm_Code_variables an_Code_variables cd_Code_variables cc_Code_variables), sl_Code_variables⟩)
    (co_Code_variables : PySem.W.codeIn K cd_Code_variables "Code.variables" = true)
    (km_Code_variables : PySem.W.keepIn K (.ref f_Code_variables) = true)
    {f_Code_given : Addr} {od_Code_given an_Code_given : Option Addr} {sl_Code_given : Array (Option Value)} {oc_Code_given kV_Code_given dc_Code_given pm_Code_given cd_Code_given cc_Code_given : Value}
    {p_Code_given : Addr} {rs_Code_given : List Value}
    (pa_Code_given : PySem.W.findIn K (.ref C_Code) "given" = some (some (.ref p_Code_given)))
    (pg_Code_given : PySem.W.specialIn K (.ref p_Code_given) "__get__" = some (some (.builtin "property.__get__")))
    (pt_Code_given : PySem.W.takesIn K (.ref p_Code_given) = some true)
    (pr_Code_given : PySem.W.recIn K p_Code_given "property" = some (.ref f_Code_given :: rs_Code_given))
    (lm_Code_given : K.lookup f_Code_given = some ⟨oc_Code_given, od_Code_given, .func (PySem.W.fnOf "given" "Code.given" (defArgs s_Code_given) (defBody s_Code_given) (defScope s_Code_given) .none kV_Code_given dc_Code_given pm_Code_given an_Code_given cd_Code_given cc_Code_given), sl_Code_given⟩)
    (co_Code_given : PySem.W.codeIn K cd_Code_given "Code.given" = true)
    (km_Code_given : PySem.W.keepIn K (.ref f_Code_given) = true)
    {f_Code___len__ : Addr} {od_Code___len__ an_Code___len__ : Option Addr} {sl_Code___len__ : Array (Option Value)} {oc_Code___len__ kV_Code___len__ dc_Code___len__ pm_Code___len__ cd_Code___len__ cc_Code___len__ : Value}
    (am_Code___len__ : PySem.W.findIn K (.ref C_Code) "__len__" = some (some (.ref f_Code___len__)))
    (im_Code___len__ : PySem.W.isFn K (.ref f_Code___len__) = true)
    (lm_Code___len__ : K.lookup f_Code___len__ = some ⟨oc_Code___len__, od_Code___len__, .func (PySem.W.fnOf "__len__" "Code.__len__" (defArgs s_Code___len__) (defBody s_Code___len__) (defScope s_Code___len__) .none kV_Code___len__ dc_Code___len__ pm_Code___len__ an_Code___len__ cd_Code___len__ cc_Code___len__), sl_Code___len__⟩)
    (co_Code___len__ : PySem.W.codeIn K cd_Code___len__ "Code.__len__" = true)
    (km_Code___len__ : PySem.W.keepIn K (.ref f_Code___len__) = true)
    {f_Code_statement : Addr} {od_Code_statement an_Code_statement : Option Addr} {sl_Code_statement : Array (Option Value)} {oc_Code_statement kV_Code_statement dc_Code_statement pm_Code_statement cd_Code_statement cc_Code_statement : Value}
    (am_Code_statement : PySem.W.findIn K (.ref C_Code) "statement" = some (some (.ref f_Code_statement)))
    (im_Code_statement : PySem.W.isFn K (.ref f_Code_statement) = true)
    (lm_Code_statement : K.lookup f_Code_statement = some ⟨oc_Code_statement, od_Code_statement, .func (PySem.W.fnOf "statement" "Code.statement" (defArgs s_Code_statement) (defBody s_Code_statement) (defScope s_Code_statement) .none kV_Code_statement dc_Code_statement pm_Code_statement an_Code_statement cd_Code_statement cc_Code_statement), sl_Code_statement⟩)
    (co_Code_statement : PySem.W.codeIn K cd_Code_statement "Code.statement" = true)
    (km_Code_statement : PySem.W.keepIn K (.ref f_Code_statement) = true)
    {f_Code_statements : Addr} {od_Code_statements an_Code_statements : Option Addr} {sl_Code_statements : Array (Option Value)} {oc_Code_statements kV_Code_statements dc_Code_statements pm_Code_statements cd_Code_statements cc_Code_statements : Value}
    (am_Code_statements : PySem.W.findIn K (.ref C_Code) "statements" = some (some (.ref f_Code_statements)))
    (im_Code_statements : PySem.W.isFn K (.ref f_Code_statements) = true)
    (lm_Code_statements : K.lookup f_Code_statements = some ⟨oc_Code_statements, od_Code_statements, .func (PySem.W.fnOf "statements" "Code.statements" (defArgs s_Code_statements) (defBody s_Code_statements) (defScope s_Code_statements) .none kV_Code_statements dc_Code_statements pm_Code_statements an_Code_statements cd_Code_statements cc_Code_statements), sl_Code_statements⟩)
    (co_Code_statements : PySem.W.codeIn K cd_Code_statements "Code.statements" = true)
    (km_Code_statements : PySem.W.keepIn K (.ref f_Code_statements) = true)
    {f_Code_first : Addr} {od_Code_first an_Code_first : Option Addr} {sl_Code_first : Array (Option Value)} {oc_Code_first kV_Code_first dc_Code_first pm_Code_first cd_Code_first cc_Code_first : Value}
    (am_Code_first : PySem.W.findIn K (.ref C_Code) "first" = some (some (.ref f_Code_first)))
    (im_Code_first : PySem.W.isFn K (.ref f_Code_first) = true)
    (lm_Code_first : K.lookup f_Code_first = some ⟨oc_Code_first, od_Code_first, .func (PySem.W.fnOf "first" "Code.first" (defArgs s_Code_first) (defBody s_Code_first) (defScope s_Code_first) .none kV_Code_first dc_Code_first pm_Code_first an_Code_first cd_Code_first cc_Code_first), sl_Code_first⟩)
    (co_Code_first : PySem.W.codeIn K cd_Code_first "Code.first" = true)
    (km_Code_first : PySem.W.keepIn K (.ref f_Code_first) = true)
    {f_Code_showing : Addr} {od_Code_showing an_Code_showing : Option Addr} {sl_Code_showing : Array (Option Value)} {oc_Code_showing kV_Code_showing dc_Code_showing pm_Code_showing cd_Code_showing cc_Code_showing : Value}
    (am_Code_showing : PySem.W.findIn K (.ref C_Code) "showing" = some (some (.ref f_Code_showing)))
    (im_Code_showing : PySem.W.isFn K (.ref f_Code_showing) = true)
    (lm_Code_showing : K.lookup f_Code_showing = some ⟨oc_Code_showing, od_Code_showing, .func (PySem.W.fnOf "showing" "Code.showing" (defArgs s_Code_showing) (defBody s_Code_showing) (defScope s_Code_showing) .none kV_Code_showing dc_Code_showing pm_Code_showing an_Code_showing cd_Code_showing cc_Code_showing), sl_Code_showing⟩)
    (co_Code_showing : PySem.W.codeIn K cd_Code_showing "Code.showing" = true)
    (km_Code_showing : PySem.W.keepIn K (.ref f_Code_showing) = true)
    {f_Code_parts : Addr} {od_Code_parts an_Code_parts : Option Addr} {sl_Code_parts : Array (Option Value)} {oc_Code_parts kV_Code_parts dc_Code_parts pm_Code_parts cd_Code_parts cc_Code_parts : Value}
    (am_Code_parts : PySem.W.findIn K (.ref C_Code) "parts" = some (some (.ref f_Code_parts)))
    (im_Code_parts : PySem.W.isFn K (.ref f_Code_parts) = true)
    (lm_Code_parts : K.lookup f_Code_parts = some ⟨oc_Code_parts, od_Code_parts, .func (PySem.W.fnOf "parts" "Code.parts" (defArgs s_Code_parts) (defBody s_Code_parts) (defScope s_Code_parts) .none kV_Code_parts dc_Code_parts pm_Code_parts an_Code_parts cd_Code_parts cc_Code_parts), sl_Code_parts⟩)
    (co_Code_parts : PySem.W.codeIn K cd_Code_parts "Code.parts" = true)
    (km_Code_parts : PySem.W.keepIn K (.ref f_Code_parts) = true)
    {f_Code___eq__ : Addr} {od_Code___eq__ an_Code___eq__ : Option Addr} {sl_Code___eq__ : Array (Option Value)} {oc_Code___eq__ kV_Code___eq__ dc_Code___eq__ pm_Code___eq__ cd_Code___eq__ cc_Code___eq__ : Value}
    (am_Code___eq__ : PySem.W.findIn K (.ref C_Code) "__eq__" = some (some (.ref f_Code___eq__)))
    (im_Code___eq__ : PySem.W.isFn K (.ref f_Code___eq__) = true)
    (lm_Code___eq__ : K.lookup f_Code___eq__ = some ⟨oc_Code___eq__, od_Code___eq__, .func (PySem.W.fnOf "__eq__" "Code.__eq__" (defArgs s_Code___eq__) (defBody s_Code___eq__) (defScope s_Code___eq__) .none kV_Code___eq__ dc_Code___eq__ pm_Code___eq__ an_Code___eq__ cd_Code___eq__ cc_Code___eq__), sl_Code___eq__⟩)
    (co_Code___eq__ : PySem.W.codeIn K cd_Code___eq__ "Code.__eq__" = true)
    (km_Code___eq__ : PySem.W.keepIn K (.ref f_Code___eq__) = true)
    {C_Recipe : Addr}
    (g_Recipe : PySem.W.nsIn K mainGlobals "Recipe" = some (some (.ref C_Recipe)))
    (k_Recipe : PySem.W.keepIn K (.ref C_Recipe) = true)
    (pg_Recipe : PySem.W.plainGet K C_Recipe Str.empty = true)
    (ic_Recipe : PySem.W.isClsIn K C_Recipe = true)
    (po_Recipe : PySem.W.plainOver K C_Recipe = true)
    (sa_Recipe : PySem.W.findIn K (.ref C_Recipe) "__setattr__" = some (some (.builtin "object.__setattr__")))
    (mk_Recipe : PySem.W.makesIn K C_Recipe = true)
    (ca_Recipe : PySem.W.findIn K (.ref C_Recipe) "__class__" = some (some (.builtin "object.__class__")))
    (cn_Recipe : PySem.W.specialIn K (.builtin "object.__class__") "__get__" = some (some (.builtin "getset_descriptor.__get__")))
    (ct_Recipe : PySem.W.takesIn K (.builtin "object.__class__") = some true)
    (cm_Recipe : PySem.W.mroIn K C_Recipe (.type "object") = some true)
    (ne_Recipe : PySem.W.findIn K (.ref C_Recipe) "__ne__" = some (some (.builtin "object.__ne__")))
    (tyc_Recipe : PySem.W.typeIn K (.ref C_Recipe) = some (.type "type"))
    (mul_Recipe : PySem.W.selfFirst K C_Recipe = true)
    (nl_Recipe : PySem.W.subIn K (.ref C_Recipe) (.type "list") = some false)
    (nt_Recipe : PySem.W.subIn K (.ref C_Recipe) (.type "tuple") = some false)
    {p_Recipe_its_terms : Addr}
    (at_Recipe_its_terms : PySem.W.findIn K (.ref C_Recipe) "its_terms" = some (some (.ref p_Recipe_its_terms)))
    (get_Recipe_its_terms : PySem.W.specialIn K (.ref p_Recipe_its_terms) "__get__" = some (some (.builtin "member_descriptor.__get__")))
    (tk_Recipe_its_terms : PySem.W.takesIn K (.ref p_Recipe_its_terms) = some true)
    (ty_Recipe_its_terms : PySem.W.typeIn K (.ref p_Recipe_its_terms) = some (.type "member_descriptor"))
    (ix_Recipe_its_terms : PySem.W.slotIn K p_Recipe_its_terms C_Recipe = some 0)
    {p_Recipe_its_variables : Addr}
    (at_Recipe_its_variables : PySem.W.findIn K (.ref C_Recipe) "its_variables" = some (some (.ref p_Recipe_its_variables)))
    (get_Recipe_its_variables : PySem.W.specialIn K (.ref p_Recipe_its_variables) "__get__" = some (some (.builtin "member_descriptor.__get__")))
    (tk_Recipe_its_variables : PySem.W.takesIn K (.ref p_Recipe_its_variables) = some true)
    (ty_Recipe_its_variables : PySem.W.typeIn K (.ref p_Recipe_its_variables) = some (.type "member_descriptor"))
    (ix_Recipe_its_variables : PySem.W.slotIn K p_Recipe_its_variables C_Recipe = some 1)
    {f_Recipe___init__ : Addr} {od_Recipe___init__ an_Recipe___init__ : Option Addr} {sl_Recipe___init__ : Array (Option Value)} {oc_Recipe___init__ kV_Recipe___init__ dc_Recipe___init__ pm_Recipe___init__ cd_Recipe___init__ cc_Recipe___init__ : Value}
    (am_Recipe___init__ : PySem.W.findIn K (.ref C_Recipe) "__init__" = some (some (.ref f_Recipe___init__)))
    (im_Recipe___init__ : PySem.W.isFn K (.ref f_Recipe___init__) = true)
    (lm_Recipe___init__ : K.lookup f_Recipe___init__ = some ⟨oc_Recipe___init__, od_Recipe___init__, .func (PySem.W.fnOf "__init__" "Recipe.__init__" (defArgs s_Recipe___init__) (defBody s_Recipe___init__) (defScope s_Recipe___init__) .none kV_Recipe___init__ dc_Recipe___init__ pm_Recipe___init__ an_Recipe___init__ cd_Recipe___init__ cc_Recipe___init__), sl_Recipe___init__⟩)
    (co_Recipe___init__ : PySem.W.codeIn K cd_Recipe___init__ "Recipe.__init__" = true)
    (km_Recipe___init__ : PySem.W.keepIn K (.ref f_Recipe___init__) = true)
    {f_Recipe_variables : Addr} {od_Recipe_variables an_Recipe_variables : Option Addr} {sl_Recipe_variables : Array (Option Value)} {oc_Recipe_variables kV_Recipe_variables dc_Recipe_variables pm_Recipe_variables cd_Recipe_variables cc_Recipe_variables : Value}
    {p_Recipe_variables : Addr} {rs_Recipe_variables : List Value}
    (pa_Recipe_variables : PySem.W.findIn K (.ref C_Recipe) "variables" = some (some (.ref p_Recipe_variables)))
    (pg_Recipe_variables : PySem.W.specialIn K (.ref p_Recipe_variables) "__get__" = some (some (.builtin "property.__get__")))
    (pt_Recipe_variables : PySem.W.takesIn K (.ref p_Recipe_variables) = some true)
    (pr_Recipe_variables : PySem.W.recIn K p_Recipe_variables "property" = some (.ref f_Recipe_variables :: rs_Recipe_variables))
    (lm_Recipe_variables : K.lookup f_Recipe_variables = some ⟨oc_Recipe_variables, od_Recipe_variables, .func (PySem.W.fnOf "variables" "Recipe.variables" (defArgs s_Recipe_variables) (defBody s_Recipe_variables) (defScope s_Recipe_variables) .none kV_Recipe_variables dc_Recipe_variables pm_Recipe_variables an_Recipe_variables cd_Recipe_variables cc_Recipe_variables), sl_Recipe_variables⟩)
    (co_Recipe_variables : PySem.W.codeIn K cd_Recipe_variables "Recipe.variables" = true)
    (km_Recipe_variables : PySem.W.keepIn K (.ref f_Recipe_variables) = true)
    {f_Recipe_terms : Addr} {od_Recipe_terms an_Recipe_terms : Option Addr} {sl_Recipe_terms : Array (Option Value)} {oc_Recipe_terms kV_Recipe_terms dc_Recipe_terms pm_Recipe_terms cd_Recipe_terms cc_Recipe_terms : Value}
    {p_Recipe_terms : Addr} {rs_Recipe_terms : List Value}
    (pa_Recipe_terms : PySem.W.findIn K (.ref C_Recipe) "terms" = some (some (.ref p_Recipe_terms)))
    (pg_Recipe_terms : PySem.W.specialIn K (.ref p_Recipe_terms) "__get__" = some (some (.builtin "property.__get__")))
    (pt_Recipe_terms : PySem.W.takesIn K (.ref p_Recipe_terms) = some true)
    (pr_Recipe_terms : PySem.W.recIn K p_Recipe_terms "property" = some (.ref f_Recipe_terms :: rs_Recipe_terms))
    (lm_Recipe_terms : K.lookup f_Recipe_terms = some ⟨oc_Recipe_terms, od_Recipe_terms, .func (PySem.W.fnOf "terms" "Recipe.terms" (defArgs s_Recipe_terms) (defBody s_Recipe_terms) (defScope s_Recipe_terms) .none kV_Recipe_terms dc_Recipe_terms pm_Recipe_terms an_Recipe_terms cd_Recipe_terms cc_Recipe_terms), sl_Recipe_terms⟩)
    (co_Recipe_terms : PySem.W.codeIn K cd_Recipe_terms "Recipe.terms" = true)
    (km_Recipe_terms : PySem.W.keepIn K (.ref f_Recipe_terms) = true)
    {f_Recipe_keeping : Addr} {od_Recipe_keeping an_Recipe_keeping : Option Addr} {sl_Recipe_keeping : Array (Option Value)} {oc_Recipe_keeping kV_Recipe_keeping dc_Recipe_keeping pm_Recipe_keeping cd_Recipe_keeping cc_Recipe_keeping : Value}
    {p_Recipe_keeping : Addr} {rs_Recipe_keeping : List Value}
    (sf_Recipe_keeping : PySem.W.findCls K (.ref C_Recipe) (.type "type") "keeping" = some (.get (.builtin "staticmethod.__get__") (.ref p_Recipe_keeping) .none (.ref C_Recipe)))
    (sr_Recipe_keeping : PySem.W.recIn K p_Recipe_keeping "staticmethod" = some (.ref f_Recipe_keeping :: rs_Recipe_keeping))
    (sd_Recipe_keeping : PySem.W.readsIn K C_Recipe (.type "type") = true)
    (sg_Recipe_keeping : PySem.W.specialIn K (.ref C_Recipe) "__getattribute__" = some (some (.builtin "type.__getattribute__")))
    (st_Recipe_keeping : PySem.W.typeIn K (.ref C_Recipe) = some (.type "type"))
    (lm_Recipe_keeping : K.lookup f_Recipe_keeping = some ⟨oc_Recipe_keeping, od_Recipe_keeping, .func (PySem.W.fnOf "keeping" "Recipe.keeping" (defArgs s_Recipe_keeping) (defBody s_Recipe_keeping) (defScope s_Recipe_keeping) .none kV_Recipe_keeping dc_Recipe_keeping pm_Recipe_keeping an_Recipe_keeping cd_Recipe_keeping cc_Recipe_keeping), sl_Recipe_keeping⟩)
    (co_Recipe_keeping : PySem.W.codeIn K cd_Recipe_keeping "Recipe.keeping" = true)
    (km_Recipe_keeping : PySem.W.keepIn K (.ref f_Recipe_keeping) = true)
    {f_Recipe___call__ : Addr} {od_Recipe___call__ an_Recipe___call__ : Option Addr} {sl_Recipe___call__ : Array (Option Value)} {oc_Recipe___call__ kV_Recipe___call__ dc_Recipe___call__ pm_Recipe___call__ cd_Recipe___call__ cc_Recipe___call__ : Value}
    (am_Recipe___call__ : PySem.W.findIn K (.ref C_Recipe) "__call__" = some (some (.ref f_Recipe___call__)))
    (im_Recipe___call__ : PySem.W.isFn K (.ref f_Recipe___call__) = true)
    (lm_Recipe___call__ : K.lookup f_Recipe___call__ = some ⟨oc_Recipe___call__, od_Recipe___call__, .func (PySem.W.fnOf "__call__" "Recipe.__call__" (defArgs s_Recipe___call__) (defBody s_Recipe___call__) (defScope s_Recipe___call__) .none kV_Recipe___call__ dc_Recipe___call__ pm_Recipe___call__ an_Recipe___call__ cd_Recipe___call__ cc_Recipe___call__), sl_Recipe___call__⟩)
    (co_Recipe___call__ : PySem.W.codeIn K cd_Recipe___call__ "Recipe.__call__" = true)
    (km_Recipe___call__ : PySem.W.keepIn K (.ref f_Recipe___call__) = true)
    {f_Recipe___mul__ : Addr} {od_Recipe___mul__ an_Recipe___mul__ : Option Addr} {sl_Recipe___mul__ : Array (Option Value)} {oc_Recipe___mul__ kV_Recipe___mul__ dc_Recipe___mul__ pm_Recipe___mul__ cd_Recipe___mul__ cc_Recipe___mul__ : Value}
    (am_Recipe___mul__ : PySem.W.findIn K (.ref C_Recipe) "__mul__" = some (some (.ref f_Recipe___mul__)))
    (im_Recipe___mul__ : PySem.W.isFn K (.ref f_Recipe___mul__) = true)
    (lm_Recipe___mul__ : K.lookup f_Recipe___mul__ = some ⟨oc_Recipe___mul__, od_Recipe___mul__, .func (PySem.W.fnOf "__mul__" "Recipe.__mul__" (defArgs s_Recipe___mul__) (defBody s_Recipe___mul__) (defScope s_Recipe___mul__) .none kV_Recipe___mul__ dc_Recipe___mul__ pm_Recipe___mul__ an_Recipe___mul__ cd_Recipe___mul__ cc_Recipe___mul__), sl_Recipe___mul__⟩)
    (co_Recipe___mul__ : PySem.W.codeIn K cd_Recipe___mul__ "Recipe.__mul__" = true)
    (km_Recipe___mul__ : PySem.W.keepIn K (.ref f_Recipe___mul__) = true)
    {f_Recipe___eq__ : Addr} {od_Recipe___eq__ an_Recipe___eq__ : Option Addr} {sl_Recipe___eq__ : Array (Option Value)} {oc_Recipe___eq__ kV_Recipe___eq__ dc_Recipe___eq__ pm_Recipe___eq__ cd_Recipe___eq__ cc_Recipe___eq__ : Value}
    (am_Recipe___eq__ : PySem.W.findIn K (.ref C_Recipe) "__eq__" = some (some (.ref f_Recipe___eq__)))
    (im_Recipe___eq__ : PySem.W.isFn K (.ref f_Recipe___eq__) = true)
    (lm_Recipe___eq__ : K.lookup f_Recipe___eq__ = some ⟨oc_Recipe___eq__, od_Recipe___eq__, .func (PySem.W.fnOf "__eq__" "Recipe.__eq__" (defArgs s_Recipe___eq__) (defBody s_Recipe___eq__) (defScope s_Recipe___eq__) .none kV_Recipe___eq__ dc_Recipe___eq__ pm_Recipe___eq__ an_Recipe___eq__ cd_Recipe___eq__ cc_Recipe___eq__), sl_Recipe___eq__⟩)
    (co_Recipe___eq__ : PySem.W.codeIn K cd_Recipe___eq__ "Recipe.__eq__" = true)
    (km_Recipe___eq__ : PySem.W.keepIn K (.ref f_Recipe___eq__) = true)
    {f_Recipe___len__ : Addr} {od_Recipe___len__ an_Recipe___len__ : Option Addr} {sl_Recipe___len__ : Array (Option Value)} {oc_Recipe___len__ kV_Recipe___len__ dc_Recipe___len__ pm_Recipe___len__ cd_Recipe___len__ cc_Recipe___len__ : Value}
    (am_Recipe___len__ : PySem.W.findIn K (.ref C_Recipe) "__len__" = some (some (.ref f_Recipe___len__)))
    (im_Recipe___len__ : PySem.W.isFn K (.ref f_Recipe___len__) = true)
    (lm_Recipe___len__ : K.lookup f_Recipe___len__ = some ⟨oc_Recipe___len__, od_Recipe___len__, .func (PySem.W.fnOf "__len__" "Recipe.__len__" (defArgs s_Recipe___len__) (defBody s_Recipe___len__) (defScope s_Recipe___len__) .none kV_Recipe___len__ dc_Recipe___len__ pm_Recipe___len__ an_Recipe___len__ cd_Recipe___len__ cc_Recipe___len__), sl_Recipe___len__⟩)
    (co_Recipe___len__ : PySem.W.codeIn K cd_Recipe___len__ "Recipe.__len__" = true)
    (km_Recipe___len__ : PySem.W.keepIn K (.ref f_Recipe___len__) = true)
    {f_Recipe___repr__ : Addr} {od_Recipe___repr__ an_Recipe___repr__ : Option Addr} {sl_Recipe___repr__ : Array (Option Value)} {oc_Recipe___repr__ kV_Recipe___repr__ dc_Recipe___repr__ pm_Recipe___repr__ cd_Recipe___repr__ cc_Recipe___repr__ : Value}
    (am_Recipe___repr__ : PySem.W.findIn K (.ref C_Recipe) "__repr__" = some (some (.ref f_Recipe___repr__)))
    (im_Recipe___repr__ : PySem.W.isFn K (.ref f_Recipe___repr__) = true)
    (lm_Recipe___repr__ : K.lookup f_Recipe___repr__ = some ⟨oc_Recipe___repr__, od_Recipe___repr__, .func (PySem.W.fnOf "__repr__" "Recipe.__repr__" (defArgs s_Recipe___repr__) (defBody s_Recipe___repr__) (defScope s_Recipe___repr__) .none kV_Recipe___repr__ dc_Recipe___repr__ pm_Recipe___repr__ an_Recipe___repr__ cd_Recipe___repr__ cc_Recipe___repr__), sl_Recipe___repr__⟩)
    (co_Recipe___repr__ : PySem.W.codeIn K cd_Recipe___repr__ "Recipe.__repr__" = true)
    (km_Recipe___repr__ : PySem.W.keepIn K (.ref f_Recipe___repr__) = true)
    (topS_ : (l.prog.main.scope.names.lookup ("super" : Str)).isSome = false)
    (sup_ : PySem.W.nsIn K mainGlobals "super" = some none)
    (opq_ : PySem.W.nsIn K PySem.cStatics "thirdparty.any" = some none)
    {C_MoveError : Addr}
    (g_MoveError : PySem.W.nsIn K mainGlobals "MoveError" = some (some (.ref C_MoveError)))
    (ex_MoveError : PySem.W.subIn K (.ref C_MoveError) (.type "BaseException") = some true)
    (hd_MoveError : PySem.W.hasDictIn K C_MoveError = true)
    (ty_MoveError : PySem.W.typeIn K (.ref C_MoveError) = some (.type "type"))
    {C_Wrong : Addr}
    (g_Wrong : PySem.W.nsIn K mainGlobals "Wrong" = some (some (.ref C_Wrong)))
    (ex_Wrong : PySem.W.subIn K (.ref C_Wrong) (.type "BaseException") = some true)
    (hd_Wrong : PySem.W.hasDictIn K C_Wrong = true)
    (ty_Wrong : PySem.W.typeIn K (.ref C_Wrong) = some (.type "type"))
    {nm_Wrong q_Wrong : Str} {N_Wrong : Addr} {bs_Wrong bm_Wrong sub_Wrong : List Value} {sn_Wrong : List Str} {ab_Wrong : Bool} {col_Wrong : Option Bool} {dd_Wrong : Option Addr} {k0_Wrong k1_Wrong k2_Wrong k3_Wrong k5_Wrong : Option Value}
    (cls_Wrong : K.lookup C_Wrong = some (excClassObj nm_Wrong q_Wrong C_Wrong N_Wrong bs_Wrong bm_Wrong true sn_Wrong sub_Wrong ab_Wrong col_Wrong dd_Wrong k0_Wrong k1_Wrong k2_Wrong k3_Wrong k5_Wrong "ValueError.__new__"))
    (ve_Wrong : PySem.HandSPX.refsVE bm_Wrong = true)
    (sa_Wrong : PySem.W.findIn K (.ref C_Wrong) "__setattr__" = some (some (.builtin "object.__setattr__")))
    (no_Wrong : PySem.W.findIn K (.ref C_Wrong) "place" = some none)
    (k_Wrong : PySem.W.keepIn K (.ref C_Wrong) = true)
    (vs_Wrong : PySem.W.subIn K (.ref C_Wrong) (.type "ValueError") = some true)
    (up_Wrong : PySem.W.ks_superIn K C_Wrong C_Wrong "__init__" = some (some (.builtin "ValueError.__init__")))
    (self_Wrong : PySem.W.mroIn K C_Wrong (.ref C_Wrong) = some true)
    {fI_Wrong cda_Wrong cc_Wrong : Addr} {oc_Wrong kV_Wrong doc_Wrong pm_Wrong ct_Wrong cl_Wrong ccl_Wrong : Value} {od_Wrong an_Wrong cld_Wrong cdd_Wrong : Option Addr} {osl_Wrong csl_Wrong ccs_Wrong : Array (Option Value)} {ql_Wrong file_Wrong : Str} {vv_Wrong : Array Value} {tf_Wrong : Tok} {p1_Wrong p2_Wrong q1_Wrong q2_Wrong q3_Wrong q4_Wrong q5_Wrong q6_Wrong q7_Wrong q8_Wrong q9_Wrong q10_Wrong : Pos}
    (fi_Wrong : PySem.W.findIn K (.ref C_Wrong) "__init__" = some (some (.ref fI_Wrong)))
    (tI_Wrong : PySem.W.typeIn K (.ref fI_Wrong) = some (.type "function"))
    (lI_Wrong : K.lookup fI_Wrong = some ⟨oc_Wrong, od_Wrong, .func (PySem.W.ksFn "__init__" ql_Wrong (xA "place" p1_Wrong p2_Wrong) (xB "place" q1_Wrong q2_Wrong q3_Wrong q4_Wrong q5_Wrong q6_Wrong q7_Wrong q8_Wrong q9_Wrong q10_Wrong) (xS "place") .none kV_Wrong doc_Wrong pm_Wrong an_Wrong (.ref cda_Wrong) ct_Wrong cc_Wrong), osl_Wrong⟩)
    (cd_Wrong : PySem.W.codeIn K (.ref cda_Wrong) ql_Wrong = true)
    (ce_Wrong : K.lookup cc_Wrong = some ⟨cl_Wrong, cld_Wrong, .cell (some (.ref C_Wrong)), csl_Wrong⟩)
    (co_Wrong : K.lookup cda_Wrong = some ⟨ccl_Wrong, cdd_Wrong, .fields vv_Wrong, ccs_Wrong⟩)
    (cv_Wrong : vv_Wrong[2]? = some (.str file_Wrong tf_Wrong))
    (cf_Wrong : ((l.prog.main.file : Str) == file_Wrong) = true)
    (bi_Wrong : ∀ e v, bindArgs (PySem.W.ksFn "__init__" ql_Wrong (xA "place" p1_Wrong p2_Wrong) (xB "place" q1_Wrong q2_Wrong q3_Wrong q4_Wrong q5_Wrong q6_Wrong q7_Wrong q8_Wrong q9_Wrong q10_Wrong) (xS "place") .none kV_Wrong doc_Wrong pm_Wrong an_Wrong (.ref cda_Wrong) ct_Wrong cc_Wrong) ⟨[.ref e, v], []⟩ = pure [((PySem.Str.ofString "self" : Str), .ref e), ("place", v)])
    (ev_Wrong : ∀ L : Addr, ∃ pl, eval (xCall "place" q1_Wrong q2_Wrong q3_Wrong q4_Wrong q5_Wrong) (PySem.W.ksEnv ql_Wrong (xS "place") L fI_Wrong (.ref cda_Wrong) cc_Wrong) = (do
      let ov ← attributeBase (.Call (.Name "super" q1_Wrong) [] [] q2_Wrong) "__init__" (PySem.W.ksEnv ql_Wrong (xS "place") L fI_Wrong (.ref cda_Wrong) cc_Wrong) (eval (.Call (.Name "super" q1_Wrong) [] [] q2_Wrong) (PySem.W.ksEnv ql_Wrong (xS "place") L fI_Wrong (.ref cda_Wrong) cc_Wrong))
      standAt q3_Wrong.atName
      let (g, first) ← holding [ov] (getMethod ov "__init__" pl)
      callWith q5_Wrong g first (backTo q5_Wrong (starEach [.Name "place" q4_Wrong] (PySem.W.ksEnv ql_Wrong (xS "place") L fI_Wrong (.ref cda_Wrong) cc_Wrong))) []))
    {C_BadAct : Addr}
    (g_BadAct : PySem.W.nsIn K mainGlobals "BadAct" = some (some (.ref C_BadAct)))
    (ex_BadAct : PySem.W.subIn K (.ref C_BadAct) (.type "BaseException") = some true)
    (hd_BadAct : PySem.W.hasDictIn K C_BadAct = true)
    (ty_BadAct : PySem.W.typeIn K (.ref C_BadAct) = some (.type "type"))
    {nm_BadAct q_BadAct : Str} {N_BadAct : Addr} {bs_BadAct bm_BadAct sub_BadAct : List Value} {sn_BadAct : List Str} {ab_BadAct : Bool} {col_BadAct : Option Bool} {dd_BadAct : Option Addr} {k0_BadAct k1_BadAct k2_BadAct k3_BadAct k5_BadAct : Option Value}
    (cls_BadAct : K.lookup C_BadAct = some (excClassObj nm_BadAct q_BadAct C_BadAct N_BadAct bs_BadAct bm_BadAct true sn_BadAct sub_BadAct ab_BadAct col_BadAct dd_BadAct k0_BadAct k1_BadAct k2_BadAct k3_BadAct k5_BadAct "ValueError.__new__"))
    (ve_BadAct : PySem.HandSPX.refsVE bm_BadAct = true)
    (sa_BadAct : PySem.W.findIn K (.ref C_BadAct) "__setattr__" = some (some (.builtin "object.__setattr__")))
    (no_BadAct : PySem.W.findIn K (.ref C_BadAct) "name" = some none)
    (k_BadAct : PySem.W.keepIn K (.ref C_BadAct) = true)
    (vs_BadAct : PySem.W.subIn K (.ref C_BadAct) (.type "ValueError") = some true)
    (up_BadAct : PySem.W.ks_superIn K C_BadAct C_BadAct "__init__" = some (some (.builtin "ValueError.__init__")))
    (self_BadAct : PySem.W.mroIn K C_BadAct (.ref C_BadAct) = some true)
    {fI_BadAct cda_BadAct cc_BadAct : Addr} {oc_BadAct kV_BadAct doc_BadAct pm_BadAct ct_BadAct cl_BadAct ccl_BadAct : Value} {od_BadAct an_BadAct cld_BadAct cdd_BadAct : Option Addr} {osl_BadAct csl_BadAct ccs_BadAct : Array (Option Value)} {ql_BadAct file_BadAct : Str} {vv_BadAct : Array Value} {tf_BadAct : Tok} {p1_BadAct p2_BadAct q1_BadAct q2_BadAct q3_BadAct q4_BadAct q5_BadAct q6_BadAct q7_BadAct q8_BadAct q9_BadAct q10_BadAct : Pos}
    (fi_BadAct : PySem.W.findIn K (.ref C_BadAct) "__init__" = some (some (.ref fI_BadAct)))
    (tI_BadAct : PySem.W.typeIn K (.ref fI_BadAct) = some (.type "function"))
    (lI_BadAct : K.lookup fI_BadAct = some ⟨oc_BadAct, od_BadAct, .func (PySem.W.ksFn "__init__" ql_BadAct (xA "name" p1_BadAct p2_BadAct) (xB "name" q1_BadAct q2_BadAct q3_BadAct q4_BadAct q5_BadAct q6_BadAct q7_BadAct q8_BadAct q9_BadAct q10_BadAct) (xS "name") .none kV_BadAct doc_BadAct pm_BadAct an_BadAct (.ref cda_BadAct) ct_BadAct cc_BadAct), osl_BadAct⟩)
    (cd_BadAct : PySem.W.codeIn K (.ref cda_BadAct) ql_BadAct = true)
    (ce_BadAct : K.lookup cc_BadAct = some ⟨cl_BadAct, cld_BadAct, .cell (some (.ref C_BadAct)), csl_BadAct⟩)
    (co_BadAct : K.lookup cda_BadAct = some ⟨ccl_BadAct, cdd_BadAct, .fields vv_BadAct, ccs_BadAct⟩)
    (cv_BadAct : vv_BadAct[2]? = some (.str file_BadAct tf_BadAct))
    (cf_BadAct : ((l.prog.main.file : Str) == file_BadAct) = true)
    (bi_BadAct : ∀ e v, bindArgs (PySem.W.ksFn "__init__" ql_BadAct (xA "name" p1_BadAct p2_BadAct) (xB "name" q1_BadAct q2_BadAct q3_BadAct q4_BadAct q5_BadAct q6_BadAct q7_BadAct q8_BadAct q9_BadAct q10_BadAct) (xS "name") .none kV_BadAct doc_BadAct pm_BadAct an_BadAct (.ref cda_BadAct) ct_BadAct cc_BadAct) ⟨[.ref e, v], []⟩ = pure [((PySem.Str.ofString "self" : Str), .ref e), ("name", v)])
    (ev_BadAct : ∀ L : Addr, ∃ pl, eval (xCall "name" q1_BadAct q2_BadAct q3_BadAct q4_BadAct q5_BadAct) (PySem.W.ksEnv ql_BadAct (xS "name") L fI_BadAct (.ref cda_BadAct) cc_BadAct) = (do
      let ov ← attributeBase (.Call (.Name "super" q1_BadAct) [] [] q2_BadAct) "__init__" (PySem.W.ksEnv ql_BadAct (xS "name") L fI_BadAct (.ref cda_BadAct) cc_BadAct) (eval (.Call (.Name "super" q1_BadAct) [] [] q2_BadAct) (PySem.W.ksEnv ql_BadAct (xS "name") L fI_BadAct (.ref cda_BadAct) cc_BadAct))
      standAt q3_BadAct.atName
      let (g, first) ← holding [ov] (getMethod ov "__init__" pl)
      callWith q5_BadAct g first (backTo q5_BadAct (starEach [.Name "name" q4_BadAct] (PySem.W.ksEnv ql_BadAct (xS "name") L fI_BadAct (.ref cda_BadAct) cc_BadAct))) []))
    {C_BadPlace : Addr}
    (g_BadPlace : PySem.W.nsIn K mainGlobals "BadPlace" = some (some (.ref C_BadPlace)))
    (ex_BadPlace : PySem.W.subIn K (.ref C_BadPlace) (.type "BaseException") = some true)
    (hd_BadPlace : PySem.W.hasDictIn K C_BadPlace = true)
    (ty_BadPlace : PySem.W.typeIn K (.ref C_BadPlace) = some (.type "type"))
    {nm_BadPlace q_BadPlace : Str} {N_BadPlace : Addr} {bs_BadPlace bm_BadPlace sub_BadPlace : List Value} {sn_BadPlace : List Str} {ab_BadPlace : Bool} {col_BadPlace : Option Bool} {dd_BadPlace : Option Addr} {k0_BadPlace k1_BadPlace k2_BadPlace k3_BadPlace k5_BadPlace : Option Value}
    (cls_BadPlace : K.lookup C_BadPlace = some (excClassObj nm_BadPlace q_BadPlace C_BadPlace N_BadPlace bs_BadPlace bm_BadPlace true sn_BadPlace sub_BadPlace ab_BadPlace col_BadPlace dd_BadPlace k0_BadPlace k1_BadPlace k2_BadPlace k3_BadPlace k5_BadPlace "ValueError.__new__"))
    (ve_BadPlace : PySem.HandSPX.refsVE bm_BadPlace = true)
    (sa_BadPlace : PySem.W.findIn K (.ref C_BadPlace) "__setattr__" = some (some (.builtin "object.__setattr__")))
    (no_BadPlace : PySem.W.findIn K (.ref C_BadPlace) "at" = some none)
    (k_BadPlace : PySem.W.keepIn K (.ref C_BadPlace) = true)
    (vs_BadPlace : PySem.W.subIn K (.ref C_BadPlace) (.type "ValueError") = some true)
    (up_BadPlace : PySem.W.ks_superIn K C_BadPlace C_BadPlace "__init__" = some (some (.builtin "ValueError.__init__")))
    (self_BadPlace : PySem.W.mroIn K C_BadPlace (.ref C_BadPlace) = some true)
    {fI_BadPlace cda_BadPlace cc_BadPlace : Addr} {oc_BadPlace kV_BadPlace doc_BadPlace pm_BadPlace ct_BadPlace cl_BadPlace ccl_BadPlace : Value} {od_BadPlace an_BadPlace cld_BadPlace cdd_BadPlace : Option Addr} {osl_BadPlace csl_BadPlace ccs_BadPlace : Array (Option Value)} {ql_BadPlace file_BadPlace : Str} {vv_BadPlace : Array Value} {tf_BadPlace : Tok} {p1_BadPlace p2_BadPlace q1_BadPlace q2_BadPlace q3_BadPlace q4_BadPlace q5_BadPlace q6_BadPlace q7_BadPlace q8_BadPlace q9_BadPlace q10_BadPlace : Pos}
    (fi_BadPlace : PySem.W.findIn K (.ref C_BadPlace) "__init__" = some (some (.ref fI_BadPlace)))
    (tI_BadPlace : PySem.W.typeIn K (.ref fI_BadPlace) = some (.type "function"))
    (lI_BadPlace : K.lookup fI_BadPlace = some ⟨oc_BadPlace, od_BadPlace, .func (PySem.W.ksFn "__init__" ql_BadPlace (xA "at" p1_BadPlace p2_BadPlace) (xB "at" q1_BadPlace q2_BadPlace q3_BadPlace q4_BadPlace q5_BadPlace q6_BadPlace q7_BadPlace q8_BadPlace q9_BadPlace q10_BadPlace) (xS "at") .none kV_BadPlace doc_BadPlace pm_BadPlace an_BadPlace (.ref cda_BadPlace) ct_BadPlace cc_BadPlace), osl_BadPlace⟩)
    (cd_BadPlace : PySem.W.codeIn K (.ref cda_BadPlace) ql_BadPlace = true)
    (ce_BadPlace : K.lookup cc_BadPlace = some ⟨cl_BadPlace, cld_BadPlace, .cell (some (.ref C_BadPlace)), csl_BadPlace⟩)
    (co_BadPlace : K.lookup cda_BadPlace = some ⟨ccl_BadPlace, cdd_BadPlace, .fields vv_BadPlace, ccs_BadPlace⟩)
    (cv_BadPlace : vv_BadPlace[2]? = some (.str file_BadPlace tf_BadPlace))
    (cf_BadPlace : ((l.prog.main.file : Str) == file_BadPlace) = true)
    (bi_BadPlace : ∀ e v, bindArgs (PySem.W.ksFn "__init__" ql_BadPlace (xA "at" p1_BadPlace p2_BadPlace) (xB "at" q1_BadPlace q2_BadPlace q3_BadPlace q4_BadPlace q5_BadPlace q6_BadPlace q7_BadPlace q8_BadPlace q9_BadPlace q10_BadPlace) (xS "at") .none kV_BadPlace doc_BadPlace pm_BadPlace an_BadPlace (.ref cda_BadPlace) ct_BadPlace cc_BadPlace) ⟨[.ref e, v], []⟩ = pure [((PySem.Str.ofString "self" : Str), .ref e), ("at", v)])
    (ev_BadPlace : ∀ L : Addr, ∃ pl, eval (xCall "at" q1_BadPlace q2_BadPlace q3_BadPlace q4_BadPlace q5_BadPlace) (PySem.W.ksEnv ql_BadPlace (xS "at") L fI_BadPlace (.ref cda_BadPlace) cc_BadPlace) = (do
      let ov ← attributeBase (.Call (.Name "super" q1_BadPlace) [] [] q2_BadPlace) "__init__" (PySem.W.ksEnv ql_BadPlace (xS "at") L fI_BadPlace (.ref cda_BadPlace) cc_BadPlace) (eval (.Call (.Name "super" q1_BadPlace) [] [] q2_BadPlace) (PySem.W.ksEnv ql_BadPlace (xS "at") L fI_BadPlace (.ref cda_BadPlace) cc_BadPlace))
      standAt q3_BadPlace.atName
      let (g, first) ← holding [ov] (getMethod ov "__init__" pl)
      callWith q5_BadPlace g first (backTo q5_BadPlace (starEach [.Name "at" q4_BadPlace] (PySem.W.ksEnv ql_BadPlace (xS "at") L fI_BadPlace (.ref cda_BadPlace) cc_BadPlace))) []))
    {C_Unlike : Addr}
    (g_Unlike : PySem.W.nsIn K mainGlobals "Unlike" = some (some (.ref C_Unlike)))
    (ex_Unlike : PySem.W.subIn K (.ref C_Unlike) (.type "BaseException") = some true)
    (hd_Unlike : PySem.W.hasDictIn K C_Unlike = true)
    (ty_Unlike : PySem.W.typeIn K (.ref C_Unlike) = some (.type "type"))
    (k_Unlike : PySem.W.keepIn K (.ref C_Unlike) = true)
    (ei_Unlike : PySem.W.excIn K C_Unlike [.type "ValueError", .type "Exception", .type "BaseException", .type "object"] "ValueError.__new__" = true)
    {C_NoPlace : Addr}
    (g_NoPlace : PySem.W.nsIn K mainGlobals "NoPlace" = some (some (.ref C_NoPlace)))
    (ex_NoPlace : PySem.W.subIn K (.ref C_NoPlace) (.type "BaseException") = some true)
    (hd_NoPlace : PySem.W.hasDictIn K C_NoPlace = true)
    (ty_NoPlace : PySem.W.typeIn K (.ref C_NoPlace) = some (.type "type"))
    {nm_NoPlace q_NoPlace : Str} {N_NoPlace : Addr} {bs_NoPlace bm_NoPlace sub_NoPlace : List Value} {sn_NoPlace : List Str} {ab_NoPlace : Bool} {col_NoPlace : Option Bool} {dd_NoPlace : Option Addr} {k0_NoPlace k1_NoPlace k2_NoPlace k3_NoPlace k5_NoPlace : Option Value}
    (cls_NoPlace : K.lookup C_NoPlace = some (excClassObj nm_NoPlace q_NoPlace C_NoPlace N_NoPlace bs_NoPlace bm_NoPlace true sn_NoPlace sub_NoPlace ab_NoPlace col_NoPlace dd_NoPlace k0_NoPlace k1_NoPlace k2_NoPlace k3_NoPlace k5_NoPlace "ValueError.__new__"))
    (ve_NoPlace : PySem.HandSPX.refsVE bm_NoPlace = true)
    (sa_NoPlace : PySem.W.findIn K (.ref C_NoPlace) "__setattr__" = some (some (.builtin "object.__setattr__")))
    (no_NoPlace : PySem.W.findIn K (.ref C_NoPlace) "place" = some none)
    (k_NoPlace : PySem.W.keepIn K (.ref C_NoPlace) = true)
    (vs_NoPlace : PySem.W.subIn K (.ref C_NoPlace) (.type "ValueError") = some true)
    (up_NoPlace : PySem.W.ks_superIn K C_NoPlace C_NoPlace "__init__" = some (some (.builtin "ValueError.__init__")))
    (self_NoPlace : PySem.W.mroIn K C_NoPlace (.ref C_NoPlace) = some true)
    {fI_NoPlace cda_NoPlace cc_NoPlace : Addr} {oc_NoPlace kV_NoPlace doc_NoPlace pm_NoPlace ct_NoPlace cl_NoPlace ccl_NoPlace : Value} {od_NoPlace an_NoPlace cld_NoPlace cdd_NoPlace : Option Addr} {osl_NoPlace csl_NoPlace ccs_NoPlace : Array (Option Value)} {ql_NoPlace file_NoPlace : Str} {vv_NoPlace : Array Value} {tf_NoPlace : Tok} {p1_NoPlace p2_NoPlace q1_NoPlace q2_NoPlace q3_NoPlace q4_NoPlace q5_NoPlace q6_NoPlace q7_NoPlace q8_NoPlace q9_NoPlace q10_NoPlace : Pos}
    (fi_NoPlace : PySem.W.findIn K (.ref C_NoPlace) "__init__" = some (some (.ref fI_NoPlace)))
    (tI_NoPlace : PySem.W.typeIn K (.ref fI_NoPlace) = some (.type "function"))
    (lI_NoPlace : K.lookup fI_NoPlace = some ⟨oc_NoPlace, od_NoPlace, .func (PySem.W.ksFn "__init__" ql_NoPlace (xA "place" p1_NoPlace p2_NoPlace) (xB "place" q1_NoPlace q2_NoPlace q3_NoPlace q4_NoPlace q5_NoPlace q6_NoPlace q7_NoPlace q8_NoPlace q9_NoPlace q10_NoPlace) (xS "place") .none kV_NoPlace doc_NoPlace pm_NoPlace an_NoPlace (.ref cda_NoPlace) ct_NoPlace cc_NoPlace), osl_NoPlace⟩)
    (cd_NoPlace : PySem.W.codeIn K (.ref cda_NoPlace) ql_NoPlace = true)
    (ce_NoPlace : K.lookup cc_NoPlace = some ⟨cl_NoPlace, cld_NoPlace, .cell (some (.ref C_NoPlace)), csl_NoPlace⟩)
    (co_NoPlace : K.lookup cda_NoPlace = some ⟨ccl_NoPlace, cdd_NoPlace, .fields vv_NoPlace, ccs_NoPlace⟩)
    (cv_NoPlace : vv_NoPlace[2]? = some (.str file_NoPlace tf_NoPlace))
    (cf_NoPlace : ((l.prog.main.file : Str) == file_NoPlace) = true)
    (bi_NoPlace : ∀ e v, bindArgs (PySem.W.ksFn "__init__" ql_NoPlace (xA "place" p1_NoPlace p2_NoPlace) (xB "place" q1_NoPlace q2_NoPlace q3_NoPlace q4_NoPlace q5_NoPlace q6_NoPlace q7_NoPlace q8_NoPlace q9_NoPlace q10_NoPlace) (xS "place") .none kV_NoPlace doc_NoPlace pm_NoPlace an_NoPlace (.ref cda_NoPlace) ct_NoPlace cc_NoPlace) ⟨[.ref e, v], []⟩ = pure [((PySem.Str.ofString "self" : Str), .ref e), ("place", v)])
    (ev_NoPlace : ∀ L : Addr, ∃ pl, eval (xCall "place" q1_NoPlace q2_NoPlace q3_NoPlace q4_NoPlace q5_NoPlace) (PySem.W.ksEnv ql_NoPlace (xS "place") L fI_NoPlace (.ref cda_NoPlace) cc_NoPlace) = (do
      let ov ← attributeBase (.Call (.Name "super" q1_NoPlace) [] [] q2_NoPlace) "__init__" (PySem.W.ksEnv ql_NoPlace (xS "place") L fI_NoPlace (.ref cda_NoPlace) cc_NoPlace) (eval (.Call (.Name "super" q1_NoPlace) [] [] q2_NoPlace) (PySem.W.ksEnv ql_NoPlace (xS "place") L fI_NoPlace (.ref cda_NoPlace) cc_NoPlace))
      standAt q3_NoPlace.atName
      let (g, first) ← holding [ov] (getMethod ov "__init__" pl)
      callWith q5_NoPlace g first (backTo q5_NoPlace (starEach [.Name "place" q4_NoPlace] (PySem.W.ksEnv ql_NoPlace (xS "place") L fI_NoPlace (.ref cda_NoPlace) cc_NoPlace))) []))
    {C_Unfit : Addr}
    (g_Unfit : PySem.W.nsIn K mainGlobals "Unfit" = some (some (.ref C_Unfit)))
    (ex_Unfit : PySem.W.subIn K (.ref C_Unfit) (.type "BaseException") = some true)
    (hd_Unfit : PySem.W.hasDictIn K C_Unfit = true)
    (ty_Unfit : PySem.W.typeIn K (.ref C_Unfit) = some (.type "type"))
    (k_Unfit : PySem.W.keepIn K (.ref C_Unfit) = true)
    (ei_Unfit : PySem.W.excIn K C_Unfit [.type "ValueError", .type "Exception", .type "BaseException", .type "object"] "ValueError.__new__" = true)
    (z0 : PySem.W.nsIn K mainGlobals "ValueError" = some none)
    (z1 : PySem.W.nsIn K mainGlobals "abs" = some none)
    (z2 : PySem.W.nsIn K mainGlobals "all" = some none)
    (z3 : PySem.W.nsIn K mainGlobals "bool" = some none)
    (z4 : PySem.W.nsIn K mainGlobals "dict" = some none)
    (z5 : PySem.W.nsIn K mainGlobals "enumerate" = some none)
    (z6 : PySem.W.nsIn K mainGlobals "int" = some none)
    (z7 : PySem.W.nsIn K mainGlobals "isinstance" = some none)
    (z8 : PySem.W.nsIn K mainGlobals "len" = some none)
    (z9 : PySem.W.nsIn K mainGlobals "list" = some none)
    (z10 : PySem.W.nsIn K mainGlobals "range" = some none)
    (z11 : PySem.W.nsIn K mainGlobals "repr" = some none)
    (z12 : PySem.W.nsIn K mainGlobals "set" = some none)
    (z13 : PySem.W.nsIn K mainGlobals "sorted" = some none)
    (z14 : PySem.W.nsIn K mainGlobals "str" = some none)
    (z15 : PySem.W.nsIn K mainGlobals "tuple" = some none)
    {tk0 : Tok}
    (y0 : PySem.W.nsIn K mainGlobals "LETTERS" = some (some (.str "abcdefghijklmnopqrstuvwxyz" tk0)))
    {tk1 : Tok}
    (y1 : PySem.W.nsIn K mainGlobals "MOST_LETTERS" = some (some (.int 8 tk1)))
    {tk2 : Tok}
    (y2 : PySem.W.nsIn K mainGlobals "MOST_PARTS" = some (some (.int 3 tk2)))
    {tk3 : Tok}
    (y3 : PySem.W.nsIn K mainGlobals "MOST_ARGUMENTS" = some (some (.int 2 tk3)))
    {tk4 : Tok}
    (y4 : PySem.W.nsIn K mainGlobals "MOST_OUTCOMES" = some (some (.int 6 tk4)))
    {tk5 : Tok}
    (y5 : PySem.W.nsIn K mainGlobals "MOST_BROUGHT" = some (some (.int 2 tk5)))
    {at6 : Addr} {od_t6 : Option Addr} {nn_t6 : Nat} {sl_t6 : Array (Option Value)} {tk6 : Tok}
    (y6 : PySem.W.nsIn K mainGlobals "NIL" = some (some (.ref at6)))
    (yl6 : K.lookup at6 = some ⟨.type "tuple", od_t6, .seq #[.str "nil" tk6] nn_t6, sl_t6⟩)
    {tk7 : Tok}
    (y7 : PySem.W.nsIn K mainGlobals "MOST_VARIABLES" = some (some (.int 24 tk7)))
    {tk8 : Tok}
    (y8 : PySem.W.nsIn K mainGlobals "MOST_TOLD" = some (some (.int 2 tk8)))
    (xa_NoPlace : PySem.W.findIn K (.ref C_NoPlace) "__getattribute__" = some (some (.builtin "BaseException.__getattribute__")))
    (xg_NoPlace : PySem.W.findIn K (.ref C_NoPlace) "__getattr__" = some none)
    (xl_NoPlace : PySem.W.findIn K (.ref C_NoPlace) "__class__" = some (some (.builtin "object.__class__")))
    (xn_NoPlace : PySem.W.specialIn K (.builtin "object.__class__") "__get__" = some (some (.builtin "getset_descriptor.__get__")))
    (xt_NoPlace : PySem.W.takesIn K (.builtin "object.__class__") = some true)
    (xm_NoPlace : PySem.W.mroIn K C_NoPlace (.type "object") = some true)
    (xa_Unfit : PySem.W.findIn K (.ref C_Unfit) "__getattribute__" = some (some (.builtin "BaseException.__getattribute__")))
    (xg_Unfit : PySem.W.findIn K (.ref C_Unfit) "__getattr__" = some none)
    (xl_Unfit : PySem.W.findIn K (.ref C_Unfit) "__class__" = some (some (.builtin "object.__class__")))
    (xn_Unfit : PySem.W.specialIn K (.builtin "object.__class__") "__get__" = some (some (.builtin "getset_descriptor.__get__")))
    (xt_Unfit : PySem.W.takesIn K (.builtin "object.__class__") = some true)
    (xm_Unfit : PySem.W.mroIn K C_Unfit (.type "object") = some true)
    (ds_NoPlace_Unfit : PySem.W.subIn K (.ref C_NoPlace) (.ref C_Unfit) = some false)
    (dn_NoPlace_Unfit : C_NoPlace ≠ C_Unfit)
    (ds_Unlike_Wrong : PySem.W.subIn K (.ref C_Unlike) (.ref C_Wrong) = some false)
    (dn_Unlike_Wrong : C_Unlike ≠ C_Wrong)
    (ds_Unfit_NoPlace : PySem.W.subIn K (.ref C_Unfit) (.ref C_NoPlace) = some false)
    (dn_Unfit_NoPlace : C_Unfit ≠ C_NoPlace)
    (vs_Unfit : PySem.W.subIn K (.ref C_Unfit) (.type "ValueError") = some true)
    (sb_NoPlace_MoveError : PySem.W.subIn K (.ref C_NoPlace) (.ref C_MoveError) = some true)
    (sb_Unfit_MoveError : PySem.W.subIn K (.ref C_Unfit) (.ref C_MoveError) = some true)
    : ∃ fd : FuncData, (∀ (t : Shared) (u : Value), BindsTo t fd ⟨[u], []⟩ [("_law_script", u)]) ∧ ∀ base : Heap, K.In base → base.Ns mainGlobals mg → SysAt base → FnOkG l.prog w K mg base CX0 60 fa fd P_law (sp_law K) := by
  have e := hfa.symm.trans (PySem.W.mg_of X G a42)
  cases e
  exact ⟨_, fun s v => .of_eq rfl, fun base _ _ hsy => ok_law hsy (T := {
    d__wall := ⟨_, _, fun_mk l0 c0 k0, PySem.W.mg_of X G a0, (fun_mk l0 c0 k0).binds fun _ _ _ _ _ _ us hl => match us, hl with | [_], _ => rfl⟩
    d_is_integer := ⟨_, _, fun_mk l1 c1 k1, PySem.W.mg_of X G a1, (fun_mk l1 c1 k1).binds fun _ _ _ _ _ _ us hl => match us, hl with | [_], _ => rfl⟩
    d_is_name := ⟨_, _, fun_mk l2 c2 k2, PySem.W.mg_of X G a2, (fun_mk l2 c2 k2).binds fun _ _ _ _ _ _ us hl => match us, hl with | [_], _ => rfl⟩
    d_is_outcome := ⟨_, _, fun_mk l3 c3 k3, PySem.W.mg_of X G a3, (fun_mk l3 c3 k3).binds fun _ _ _ _ _ _ us hl => match us, hl with | [_], _ => rfl⟩
    d_is_term := ⟨_, _, fun_mk l4 c4 k4, PySem.W.mg_of X G a4, (fun_mk l4 c4 k4).binds fun _ _ _ _ _ _ us hl => match us, hl with | [_], _ => rfl⟩
    d_is_term_over := ⟨_, _, fun_mk l5 c5 k5, PySem.W.mg_of X G a5, (fun_mk l5 c5 k5).binds fun _ _ _ _ _ _ us hl => match us, hl with | [_, _], _ => rfl⟩
    d_is_within := ⟨_, _, fun_mk l6 c6 k6, PySem.W.mg_of X G a6, (fun_mk l6 c6 k6).binds fun _ _ _ _ _ _ us hl => match us, hl with | [_, _], _ => rfl⟩
    d_are_outcomes := ⟨_, _, fun_mk l7 c7 k7, PySem.W.mg_of X G a7, (fun_mk l7 c7 k7).binds fun _ _ _ _ _ _ us hl => match us, hl with | [_], _ => rfl⟩
    d_is_act := ⟨_, _, fun_mk l8 c8 k8, PySem.W.mg_of X G a8, (fun_mk l8 c8 k8).binds fun _ _ _ _ _ _ us hl => match us, hl with | [_], _ => rfl⟩
    d_are_different := ⟨_, _, fun_mk l9 c9 k9, PySem.W.mg_of X G a9, (fun_mk l9 c9 k9).binds fun _ _ _ _ _ _ us hl => match us, hl with | [_, _], _ => rfl⟩
    d_are_terms_over := ⟨_, _, fun_mk l10 c10 k10, PySem.W.mg_of X G a10, (fun_mk l10 c10 k10).binds fun _ _ _ _ _ _ us hl => match us, hl with | [_, _], _ => rfl⟩
    d_is_place := ⟨_, _, fun_mk l11 c11 k11, PySem.W.mg_of X G a11, (fun_mk l11 c11 k11).binds fun _ _ _ _ _ _ us hl => match us, hl with | [_, _], _ => rfl⟩
    d_is_pair := ⟨_, _, fun_mk l12 c12 k12, PySem.W.mg_of X G a12, (fun_mk l12 c12 k12).binds fun _ _ _ _ _ _ us hl => match us, hl with | [_], _ => rfl⟩
    d_is_set := ⟨_, _, fun_mk l13 c13 k13, PySem.W.mg_of X G a13, (fun_mk l13 c13 k13).binds fun _ _ _ _ _ _ us hl => match us, hl with | [_, _, _], _ => rfl⟩
    d_is_way := ⟨_, _, fun_mk l14 c14 k14, PySem.W.mg_of X G a14, (fun_mk l14 c14 k14).binds fun _ _ _ _ _ _ us hl => match us, hl with | [_, _, _, _, _], _ => rfl⟩
    d_is_ask := ⟨_, _, fun_mk l15 c15 k15, PySem.W.mg_of X G a15, (fun_mk l15 c15 k15).binds fun _ _ _ _ _ _ us hl => match us, hl with | [_, _, _, _], _ => rfl⟩
    d_is_end := ⟨_, _, fun_mk l16 c16 k16, PySem.W.mg_of X G a16, (fun_mk l16 c16 k16).binds fun _ _ _ _ _ _ us hl => match us, hl with | [_, _], _ => rfl⟩
    d_is_statement := ⟨_, _, fun_mk l17 c17 k17, PySem.W.mg_of X G a17, (fun_mk l17 c17 k17).binds fun _ _ _ _ _ _ us hl => match us, hl with | [_, _, _, _], _ => rfl⟩
    d_ordered := ⟨_, _, fun_mk l18 c18 k18, PySem.W.mg_of X G a18, (fun_mk l18 c18 k18).binds fun _ _ _ _ _ _ us hl => match us, hl with | [_], _ => rfl⟩
    d_first_of := ⟨_, _, fun_mk l19 c19 k19, PySem.W.mg_of X G a19, (fun_mk l19 c19 k19).binds fun _ _ _ _ _ _ us hl => match us, hl with | [_], _ => rfl⟩
    d_put := ⟨_, _, fun_mk l20 c20 k20, PySem.W.mg_of X G a20, (fun_mk l20 c20 k20).binds fun _ _ _ _ _ _ us hl => match us, hl with | [_, _], _ => rfl⟩
    d_put_all := ⟨_, _, fun_mk l21 c21 k21, PySem.W.mg_of X G a21, (fun_mk l21 c21 k21).binds fun _ _ _ _ _ _ us hl => match us, hl with | [_, _], _ => rfl⟩
    d_copied := ⟨_, _, fun_mk l22 c22 k22, PySem.W.mg_of X G a22, (fun_mk l22 c22 k22).binds fun _ _ _ _ _ _ us hl => match us, hl with | [_], _ => rfl⟩
    d_with_statements := ⟨_, _, fun_mk l23 c23 k23, PySem.W.mg_of X G a23, (fun_mk l23 c23 k23).binds fun _ _ _ _ _ _ us hl => match us, hl with | [_, _], _ => rfl⟩
    d_ways_from := ⟨_, _, fun_mk l24 c24 k24, PySem.W.mg_of X G a24, (fun_mk l24 c24 k24).binds fun _ _ _ _ _ _ us hl => match us, hl with | [_], _ => rfl⟩
    d_come_to := ⟨_, _, fun_mk l25 c25 k25, PySem.W.mg_of X G a25, (fun_mk l25 c25 k25).binds fun _ _ _ _ _ _ us hl => match us, hl with | [_, _], _ => rfl⟩
    d_loop_of := ⟨_, _, fun_mk l26 c26 k26, PySem.W.mg_of X G a26, (fun_mk l26 c26 k26).binds fun _ _ _ _ _ _ us hl => match us, hl with | [_, _], _ => rfl⟩
    d_led := ⟨_, _, fun_mk l27 c27 k27, PySem.W.mg_of X G a27, (fun_mk l27 c27 k27).binds fun _ _ _ _ _ _ us hl => match us, hl with | [_, _], _ => rfl⟩
    d_unrolled := ⟨_, _, fun_mk l28 c28 k28, PySem.W.mg_of X G a28, (fun_mk l28 c28 k28).binds fun _ _ _ _ _ _ us hl => match us, hl with | [_, _], _ => rfl⟩
    d__law_bag := ⟨_, _, fun_mk l29 c29 k29, PySem.W.mg_of X G a29, (fun_mk l29 c29 k29).binds fun _ _ _ _ _ _ us hl => match us, hl with | [_], _ => rfl⟩
    d__law_take := ⟨_, _, fun_mk l30 c30 k30, PySem.W.mg_of X G a30, (fun_mk l30 c30 k30).binds fun _ _ _ _ _ _ us hl => match us, hl with | [_, _], _ => rfl⟩
    d__law_alike := ⟨_, _, fun_mk l31 c31 k31, PySem.W.mg_of X G a31, (fun_mk l31 c31 k31).binds fun _ _ _ _ _ _ us hl => match us, hl with | [_, _], _ => rfl⟩
    d__law_mixed := ⟨_, _, fun_mk l32 c32 k32, PySem.W.mg_of X G a32, (fun_mk l32 c32 k32).binds fun _ _ _ _ _ _ us hl => match us, hl with | [_, _], _ => rfl⟩
    d__law_piece := ⟨_, _, fun_mk l33 c33 k33, PySem.W.mg_of X G a33, (fun_mk l33 c33 k33).binds fun _ _ _ _ _ _ us hl => match us, hl with | [_, _], _ => rfl⟩
    d__law_small_row := ⟨_, _, fun_mk l34 c34 k34, PySem.W.mg_of X G a34, (fun_mk l34 c34 k34).binds fun _ _ _ _ _ _ us hl => match us, hl with | [_, _, _, _, _], _ => rfl⟩
    d__law_like_acts := ⟨_, _, fun_mk l35 c35 k35, PySem.W.mg_of X G a35, (fun_mk l35 c35 k35).binds fun _ _ _ _ _ _ us hl => match us, hl with | [_], _ => rfl⟩
    d__law_small_code := ⟨_, _, fun_mk l36 c36 k36, PySem.W.mg_of X G a36, (fun_mk l36 c36 k36).binds fun _ _ _ _ _ _ us hl => match us, hl with | [_, _, _, _], _ => rfl⟩
    d__law_ways := ⟨_, _, fun_mk l37 c37 k37, PySem.W.mg_of X G a37, (fun_mk l37 c37 k37).binds fun _ _ _ _ _ _ us hl => match us, hl with | [_], _ => rfl⟩
    d__law_behind_place := ⟨_, _, fun_mk l38 c38 k38, PySem.W.mg_of X G a38, (fun_mk l38 c38 k38).binds fun _ _ _ _ _ _ us hl => match us, hl with | [_, _], _ => rfl⟩
    d__law_led_on := ⟨_, _, fun_mk l39 c39 k39, PySem.W.mg_of X G a39, (fun_mk l39 c39 k39).binds fun _ _ _ _ _ _ us hl => match us, hl with | [_, _], _ => rfl⟩
    d__law_due := ⟨_, _, fun_mk l40 c40 k40, PySem.W.mg_of X G a40, (fun_mk l40 c40 k40).binds fun _ _ _ _ _ _ us hl => match us, hl with | [_, _, _], _ => rfl⟩
    d__law_tried := ⟨_, _, fun_mk l41 c41 k41, PySem.W.mg_of X G a41, (fun_mk l41 c41 k41).binds fun _ _ _ _ _ _ us hl => match us, hl with | [_, _], _ => rfl⟩
    d_law := ⟨_, _, fun_mk l42 c42 k42, PySem.W.mg_of X G a42, (fun_mk l42 c42 k42).binds fun _ _ _ _ _ _ us hl => match us, hl with | [_], _ => rfl⟩
    C_World := C_World
    g_World := PySem.W.mg_of X G g_World
    k_World := k_World
    c_World := ⟨pg_World, ic_World, po_World, sa_World⟩
    mk_World := mk_World
    is_World := ⟨ca_World, cn_World, ct_World, cm_World⟩
    ne_World := ne_World
    ty_World := tyc_World
    p_World_its_acts := p_World_its_acts
    sl_World_its_acts := ⟨at_World_its_acts, get_World_its_acts, tk_World_its_acts, ty_World_its_acts, ix_World_its_acts, by decide⟩
    d_World___init__ := ⟨_, _, fun_mk lm_World___init__ co_World___init__ km_World___init__, ⟨am_World___init__, im_World___init__, km_World___init__⟩, (fun_mk lm_World___init__ co_World___init__ km_World___init__).binds fun _ _ _ _ _ _ us hl => match us, hl with | [_, _], _ => rfl⟩
    d_World_acts := ⟨_, _, fun_mk lm_World_acts co_World_acts km_World_acts, ⟨am_World_acts, im_World_acts, km_World_acts⟩, (fun_mk lm_World_acts co_World_acts km_World_acts).binds fun _ _ _ _ _ _ us hl => match us, hl with | [_], _ => rfl⟩
    d_World_arguments := ⟨_, _, fun_mk lm_World_arguments co_World_arguments km_World_arguments, ⟨am_World_arguments, im_World_arguments, km_World_arguments⟩, (fun_mk lm_World_arguments co_World_arguments km_World_arguments).binds fun _ _ _ _ _ _ us hl => match us, hl with | [_, _], _ => rfl⟩
    d_World_outcomes := ⟨_, _, fun_mk lm_World_outcomes co_World_outcomes km_World_outcomes, ⟨am_World_outcomes, im_World_outcomes, km_World_outcomes⟩, (fun_mk lm_World_outcomes co_World_outcomes km_World_outcomes).binds fun _ _ _ _ _ _ us hl => match us, hl with | [_, _], _ => rfl⟩
    d_World_brings := ⟨_, _, fun_mk lm_World_brings co_World_brings km_World_brings, ⟨am_World_brings, im_World_brings, km_World_brings⟩, (fun_mk lm_World_brings co_World_brings km_World_brings).binds fun _ _ _ _ _ _ us hl => match us, hl with | [_, _, _], _ => rfl⟩
    d_World___eq__ := ⟨_, _, fun_mk lm_World___eq__ co_World___eq__ km_World___eq__, ⟨am_World___eq__, im_World___eq__, km_World___eq__⟩, (fun_mk lm_World___eq__ co_World___eq__ km_World___eq__).binds fun _ _ _ _ _ _ us hl => match us, hl with | [_, _], _ => rfl⟩
    C_Code := C_Code
    g_Code := PySem.W.mg_of X G g_Code
    k_Code := k_Code
    c_Code := ⟨pg_Code, ic_Code, po_Code, sa_Code⟩
    mk_Code := mk_Code
    is_Code := ⟨ca_Code, cn_Code, ct_Code, cm_Code⟩
    df_World_Code := df_World_Code
    dn_World_Code := dn_World_Code
    ne_Code := ne_Code
    ty_Code := tyc_Code
    p_Code_its_world := p_Code_its_world
    sl_Code_its_world := ⟨at_Code_its_world, get_Code_its_world, tk_Code_its_world, ty_Code_its_world, ix_Code_its_world, by decide⟩
    p_Code_its_variables := p_Code_its_variables
    sl_Code_its_variables := ⟨at_Code_its_variables, get_Code_its_variables, tk_Code_its_variables, ty_Code_its_variables, ix_Code_its_variables, by decide⟩
    p_Code_its_given := p_Code_its_given
    sl_Code_its_given := ⟨at_Code_its_given, get_Code_its_given, tk_Code_its_given, ty_Code_its_given, ix_Code_its_given, by decide⟩
    p_Code_its_statements := p_Code_its_statements
    sl_Code_its_statements := ⟨at_Code_its_statements, get_Code_its_statements, tk_Code_its_statements, ty_Code_its_statements, ix_Code_its_statements, by decide⟩
    d_Code___init__ := ⟨_, _, fun_mk lm_Code___init__ co_Code___init__ km_Code___init__, ⟨am_Code___init__, im_Code___init__, km_Code___init__⟩, (fun_mk lm_Code___init__ co_Code___init__ km_Code___init__).binds fun _ _ _ _ _ _ us hl => match us, hl with | [_, _, _, _, _], _ => rfl⟩
    d_Code_world := ⟨_, _, fun_mk lm_Code_world co_Code_world km_Code_world, _, pa_Code_world, pg_Code_world, pt_Code_world, ⟨_, pr_Code_world⟩, (fun_mk lm_Code_world co_Code_world km_Code_world).binds fun _ _ _ _ _ _ us hl => match us, hl with | [_], _ => rfl⟩
    d_Code_variables := ⟨_, _, fun_mk lm_Code_variables co_Code_variables km_Code_variables, _, pa_Code_variables, pg_Code_variables, pt_Code_variables, ⟨_, pr_Code_variables⟩, (fun_mk lm_Code_variables co_Code_variables km_Code_variables).binds fun _ _ _ _ _ _ us hl => match us, hl with | [_], _ => rfl⟩
    d_Code_given := ⟨_, _, fun_mk lm_Code_given co_Code_given km_Code_given, _, pa_Code_given, pg_Code_given, pt_Code_given, ⟨_, pr_Code_given⟩, (fun_mk lm_Code_given co_Code_given km_Code_given).binds fun _ _ _ _ _ _ us hl => match us, hl with | [_], _ => rfl⟩
    d_Code___len__ := ⟨_, _, fun_mk lm_Code___len__ co_Code___len__ km_Code___len__, ⟨am_Code___len__, im_Code___len__, km_Code___len__⟩, (fun_mk lm_Code___len__ co_Code___len__ km_Code___len__).binds fun _ _ _ _ _ _ us hl => match us, hl with | [_], _ => rfl⟩
    d_Code_statement := ⟨_, _, fun_mk lm_Code_statement co_Code_statement km_Code_statement, ⟨am_Code_statement, im_Code_statement, km_Code_statement⟩, (fun_mk lm_Code_statement co_Code_statement km_Code_statement).binds fun _ _ _ _ _ _ us hl => match us, hl with | [_, _], _ => rfl⟩
    d_Code_statements := ⟨_, _, fun_mk lm_Code_statements co_Code_statements km_Code_statements, ⟨am_Code_statements, im_Code_statements, km_Code_statements⟩, (fun_mk lm_Code_statements co_Code_statements km_Code_statements).binds fun _ _ _ _ _ _ us hl => match us, hl with | [_], _ => rfl⟩
    d_Code_first := ⟨_, _, fun_mk lm_Code_first co_Code_first km_Code_first, ⟨am_Code_first, im_Code_first, km_Code_first⟩, (fun_mk lm_Code_first co_Code_first km_Code_first).binds fun _ _ _ _ _ _ us hl => match us, hl with | [_], _ => rfl⟩
    d_Code_showing := ⟨_, _, fun_mk lm_Code_showing co_Code_showing km_Code_showing, ⟨am_Code_showing, im_Code_showing, km_Code_showing⟩, (fun_mk lm_Code_showing co_Code_showing km_Code_showing).binds fun _ _ _ _ _ _ us hl => match us, hl with | [_, _], _ => rfl⟩
    d_Code_parts := ⟨_, _, fun_mk lm_Code_parts co_Code_parts km_Code_parts, ⟨am_Code_parts, im_Code_parts, km_Code_parts⟩, (fun_mk lm_Code_parts co_Code_parts km_Code_parts).binds fun _ _ _ _ _ _ us hl => match us, hl with | [_], _ => rfl⟩
    d_Code___eq__ := ⟨_, _, fun_mk lm_Code___eq__ co_Code___eq__ km_Code___eq__, ⟨am_Code___eq__, im_Code___eq__, km_Code___eq__⟩, (fun_mk lm_Code___eq__ co_Code___eq__ km_Code___eq__).binds fun _ _ _ _ _ _ us hl => match us, hl with | [_, _], _ => rfl⟩
    C_Recipe := C_Recipe
    g_Recipe := PySem.W.mg_of X G g_Recipe
    k_Recipe := k_Recipe
    c_Recipe := ⟨pg_Recipe, ic_Recipe, po_Recipe, sa_Recipe⟩
    mk_Recipe := mk_Recipe
    is_Recipe := ⟨ca_Recipe, cn_Recipe, ct_Recipe, cm_Recipe⟩
    ne_Recipe := ne_Recipe
    ty_Recipe := tyc_Recipe
    mul_Recipe := mul_Recipe
    nl_Recipe := nl_Recipe
    nt_Recipe := nt_Recipe
    p_Recipe_its_variables := p_Recipe_its_variables
    sl_Recipe_its_variables := ⟨at_Recipe_its_variables, get_Recipe_its_variables, tk_Recipe_its_variables, ty_Recipe_its_variables, ix_Recipe_its_variables, by decide⟩
    p_Recipe_its_terms := p_Recipe_its_terms
    sl_Recipe_its_terms := ⟨at_Recipe_its_terms, get_Recipe_its_terms, tk_Recipe_its_terms, ty_Recipe_its_terms, ix_Recipe_its_terms, by decide⟩
    d_Recipe___init__ := ⟨_, _, fun_mk lm_Recipe___init__ co_Recipe___init__ km_Recipe___init__, ⟨am_Recipe___init__, im_Recipe___init__, km_Recipe___init__⟩, (fun_mk lm_Recipe___init__ co_Recipe___init__ km_Recipe___init__).binds fun _ _ _ _ _ _ us hl => match us, hl with | [_, _, _], _ => rfl⟩
    d_Recipe_variables := ⟨_, _, fun_mk lm_Recipe_variables co_Recipe_variables km_Recipe_variables, _, pa_Recipe_variables, pg_Recipe_variables, pt_Recipe_variables, ⟨_, pr_Recipe_variables⟩, (fun_mk lm_Recipe_variables co_Recipe_variables km_Recipe_variables).binds fun _ _ _ _ _ _ us hl => match us, hl with | [_], _ => rfl⟩
    d_Recipe_terms := ⟨_, _, fun_mk lm_Recipe_terms co_Recipe_terms km_Recipe_terms, _, pa_Recipe_terms, pg_Recipe_terms, pt_Recipe_terms, ⟨_, pr_Recipe_terms⟩, (fun_mk lm_Recipe_terms co_Recipe_terms km_Recipe_terms).binds fun _ _ _ _ _ _ us hl => match us, hl with | [_], _ => rfl⟩
    d_Recipe_keeping := ⟨_, _, fun_mk lm_Recipe_keeping co_Recipe_keeping km_Recipe_keeping, _, ⟨⟨sd_Recipe_keeping, sg_Recipe_keeping⟩, st_Recipe_keeping, sf_Recipe_keeping, ⟨_, sr_Recipe_keeping⟩, km_Recipe_keeping⟩, (fun_mk lm_Recipe_keeping co_Recipe_keeping km_Recipe_keeping).binds fun _ _ _ _ _ _ us hl => match us, hl with | [_], _ => rfl⟩
    d_Recipe___call__ := ⟨_, _, fun_mk lm_Recipe___call__ co_Recipe___call__ km_Recipe___call__, ⟨am_Recipe___call__, im_Recipe___call__, km_Recipe___call__⟩, (fun_mk lm_Recipe___call__ co_Recipe___call__ km_Recipe___call__).binds fun _ _ _ _ _ _ us hl => match us, hl with | [_, _], _ => rfl⟩
    d_Recipe___mul__ := ⟨_, _, fun_mk lm_Recipe___mul__ co_Recipe___mul__ km_Recipe___mul__, ⟨am_Recipe___mul__, im_Recipe___mul__, km_Recipe___mul__⟩, (fun_mk lm_Recipe___mul__ co_Recipe___mul__ km_Recipe___mul__).binds fun _ _ _ _ _ _ us hl => match us, hl with | [_, _], _ => rfl⟩
    d_Recipe___eq__ := ⟨_, _, fun_mk lm_Recipe___eq__ co_Recipe___eq__ km_Recipe___eq__, ⟨am_Recipe___eq__, im_Recipe___eq__, km_Recipe___eq__⟩, (fun_mk lm_Recipe___eq__ co_Recipe___eq__ km_Recipe___eq__).binds fun _ _ _ _ _ _ us hl => match us, hl with | [_, _], _ => rfl⟩
    d_Recipe___len__ := ⟨_, _, fun_mk lm_Recipe___len__ co_Recipe___len__ km_Recipe___len__, ⟨am_Recipe___len__, im_Recipe___len__, km_Recipe___len__⟩, (fun_mk lm_Recipe___len__ co_Recipe___len__ km_Recipe___len__).binds fun _ _ _ _ _ _ us hl => match us, hl with | [_], _ => rfl⟩
    d_Recipe___repr__ := ⟨_, _, fun_mk lm_Recipe___repr__ co_Recipe___repr__ km_Recipe___repr__, ⟨am_Recipe___repr__, im_Recipe___repr__, km_Recipe___repr__⟩, (fun_mk lm_Recipe___repr__ co_Recipe___repr__ km_Recipe___repr__).binds fun _ _ _ _ _ _ us hl => match us, hl with | [_], _ => rfl⟩
    b_ValueError := PySem.W.mg_none_of X G z0
    b_abs := PySem.W.mg_none_of X G z1
    b_all := PySem.W.mg_none_of X G z2
    b_bool := PySem.W.mg_none_of X G z3
    b_dict := PySem.W.mg_none_of X G z4
    b_enumerate := PySem.W.mg_none_of X G z5
    b_int := PySem.W.mg_none_of X G z6
    b_isinstance := PySem.W.mg_none_of X G z7
    b_len := PySem.W.mg_none_of X G z8
    b_list := PySem.W.mg_none_of X G z9
    b_range := PySem.W.mg_none_of X G z10
    b_repr := PySem.W.mg_none_of X G z11
    b_set := PySem.W.mg_none_of X G z12
    b_sorted := PySem.W.mg_none_of X G z13
    b_str := PySem.W.mg_none_of X G z14
    b_tuple := PySem.W.mg_none_of X G z15
    v_LETTERS := _
    c_LETTERS := PySem.W.mg_of X G y0
    r_LETTERS := ⟨_, rfl⟩
    v_MOST_LETTERS := _
    c_MOST_LETTERS := PySem.W.mg_of X G y1
    r_MOST_LETTERS := ⟨_, rfl⟩
    v_MOST_PARTS := _
    c_MOST_PARTS := PySem.W.mg_of X G y2
    r_MOST_PARTS := ⟨_, rfl⟩
    v_MOST_ARGUMENTS := _
    c_MOST_ARGUMENTS := PySem.W.mg_of X G y3
    r_MOST_ARGUMENTS := ⟨_, rfl⟩
    v_MOST_OUTCOMES := _
    c_MOST_OUTCOMES := PySem.W.mg_of X G y4
    r_MOST_OUTCOMES := ⟨_, rfl⟩
    v_MOST_BROUGHT := _
    c_MOST_BROUGHT := PySem.W.mg_of X G y5
    r_MOST_BROUGHT := ⟨_, rfl⟩
    a_NIL := at6
    c_NIL := PySem.W.mg_of X G y6
    q_NIL := fun _ => .inr ⟨_, _, _, yl6, rfl, rfl, (show 1 ≤ sizeLine by decide), (.cons ⟨_, rfl⟩ .nil)⟩
    v_MOST_VARIABLES := _
    c_MOST_VARIABLES := PySem.W.mg_of X G y7
    r_MOST_VARIABLES := ⟨_, rfl⟩
    v_MOST_TOLD := _
    c_MOST_TOLD := PySem.W.mg_of X G y8
    r_MOST_TOLD := ⟨_, rfl⟩
  }) (Y := {
    C_MoveError := C_MoveError
    x_MoveError := ⟨PySem.W.mg_of X G g_MoveError, ex_MoveError, hd_MoveError, ty_MoveError⟩
    C_Wrong := C_Wrong
    x_Wrong := ⟨PySem.W.mg_of X G g_Wrong, ⟨_, _, _, _, _, _, _, _, _, _, _, _, _, _, _, cls_Wrong, ve_Wrong⟩, sa_Wrong, no_Wrong, k_Wrong, ex_Wrong, vs_Wrong, ty_Wrong, hd_Wrong, up_Wrong, opq_, self_Wrong, ⟨_, _, _, _, _, _, _, _, _, _, _, _, _, _, _, _, _, _, _, _, _, _, _, _, fi_Wrong, tI_Wrong, lI_Wrong, cd_Wrong, ⟨_, _, _, ce_Wrong⟩, _, _, _, _, _, _, co_Wrong, cv_Wrong, cf_Wrong, bi_Wrong, ev_Wrong⟩, topS_, PySem.W.mg_none_of X G sup_, by decide +kernel, by decide +kernel, by decide +kernel, by decide +kernel, by decide +kernel⟩
    C_BadAct := C_BadAct
    x_BadAct := ⟨PySem.W.mg_of X G g_BadAct, ⟨_, _, _, _, _, _, _, _, _, _, _, _, _, _, _, cls_BadAct, ve_BadAct⟩, sa_BadAct, no_BadAct, k_BadAct, ex_BadAct, vs_BadAct, ty_BadAct, hd_BadAct, up_BadAct, opq_, self_BadAct, ⟨_, _, _, _, _, _, _, _, _, _, _, _, _, _, _, _, _, _, _, _, _, _, _, _, fi_BadAct, tI_BadAct, lI_BadAct, cd_BadAct, ⟨_, _, _, ce_BadAct⟩, _, _, _, _, _, _, co_BadAct, cv_BadAct, cf_BadAct, bi_BadAct, ev_BadAct⟩, topS_, PySem.W.mg_none_of X G sup_, by decide +kernel, by decide +kernel, by decide +kernel, by decide +kernel, by decide +kernel⟩
    C_BadPlace := C_BadPlace
    x_BadPlace := ⟨PySem.W.mg_of X G g_BadPlace, ⟨_, _, _, _, _, _, _, _, _, _, _, _, _, _, _, cls_BadPlace, ve_BadPlace⟩, sa_BadPlace, no_BadPlace, k_BadPlace, ex_BadPlace, vs_BadPlace, ty_BadPlace, hd_BadPlace, up_BadPlace, opq_, self_BadPlace, ⟨_, _, _, _, _, _, _, _, _, _, _, _, _, _, _, _, _, _, _, _, _, _, _, _, fi_BadPlace, tI_BadPlace, lI_BadPlace, cd_BadPlace, ⟨_, _, _, ce_BadPlace⟩, _, _, _, _, _, _, co_BadPlace, cv_BadPlace, cf_BadPlace, bi_BadPlace, ev_BadPlace⟩, topS_, PySem.W.mg_none_of X G sup_, by decide +kernel, by decide +kernel, by decide +kernel, by decide +kernel, by decide +kernel⟩
    C_Unlike := C_Unlike
    x_Unlike := ⟨PySem.W.mg_of X G g_Unlike, ex_Unlike, hd_Unlike, ty_Unlike, k_Unlike, ei_Unlike⟩
    C_NoPlace := C_NoPlace
    x_NoPlace := ⟨PySem.W.mg_of X G g_NoPlace, ⟨_, _, _, _, _, _, _, _, _, _, _, _, _, _, _, cls_NoPlace, ve_NoPlace⟩, sa_NoPlace, no_NoPlace, k_NoPlace, ex_NoPlace, vs_NoPlace, ty_NoPlace, hd_NoPlace, up_NoPlace, opq_, self_NoPlace, ⟨_, _, _, _, _, _, _, _, _, _, _, _, _, _, _, _, _, _, _, _, _, _, _, _, fi_NoPlace, tI_NoPlace, lI_NoPlace, cd_NoPlace, ⟨_, _, _, ce_NoPlace⟩, _, _, _, _, _, _, co_NoPlace, cv_NoPlace, cf_NoPlace, bi_NoPlace, ev_NoPlace⟩, topS_, PySem.W.mg_none_of X G sup_, by decide +kernel, by decide +kernel, by decide +kernel, by decide +kernel, by decide +kernel⟩
    C_Unfit := C_Unfit
    x_Unfit := ⟨PySem.W.mg_of X G g_Unfit, ex_Unfit, hd_Unfit, ty_Unfit, k_Unfit, ei_Unfit⟩
    xc_NoPlace := ⟨xa_NoPlace, xg_NoPlace, ex_NoPlace, hd_NoPlace, xl_NoPlace, xn_NoPlace, xt_NoPlace, xm_NoPlace⟩
    xc_Unfit := ⟨xa_Unfit, xg_Unfit, ex_Unfit, hd_Unfit, xl_Unfit, xn_Unfit, xt_Unfit, xm_Unfit⟩
    ed_NoPlace_Unfit := kitOne_exd ds_NoPlace_Unfit dn_NoPlace_Unfit hd_Unfit ty_Unfit
    ed_Unlike_Wrong := kitOne_exd ds_Unlike_Wrong dn_Unlike_Wrong hd_Wrong ty_Wrong
    ed_Unfit_NoPlace := kitOne_exd ds_Unfit_NoPlace dn_Unfit_NoPlace hd_NoPlace ty_NoPlace
    ev_Unfit := kitOne_ve vs_Unfit
    em_NoPlace_MoveError := PySem.W.exm_ref ex_MoveError hd_MoveError ty_MoveError sb_NoPlace_MoveError
    em_Unfit_MoveError := PySem.W.exm_ref ex_MoveError hd_MoveError ty_MoveError sb_Unfit_MoveError
  })⟩
end
end Fm
open PySem PySem.W PyProof.Rows
set_option maxHeartbeats 0 in
theorem PySem.Challenge.cw_framemoves_k82_loops_unrolled_holds : PySem.Challenge.rw_framemoves_k82_loops_unrolled.Holds := by
  w_on; o_law; k_head; (case hw => w_witness2)
  k_fill
  refine Fm.walk_S (by decide +kernel) (l := PySem.Challenge.rw_framemoves_k82_loops_unrolled) (n := 63) (k := 60) (x := "_law_script") (sp := Fm.sp_law) rfl (by decide) rfl ⟨rfl, by decide, by decide⟩ (fun w h Y => PySem.W.kIn_of Y) ?F (fun K H a ns hl hS => ⟨a, ns, rfl, hS, hl, fun _ => rfl⟩)
  case F =>
    intro w mg fa h KX G hmg
    refine' Fm.all_mk KX G hmg ?a0 ?l0 ?c0 ?k0 ?a1 ?l1 ?c1 ?k1 ?a2 ?l2 ?c2 ?k2 ?a3 ?l3 ?c3 ?k3 ?a4 ?l4 ?c4 ?k4 ?a5 ?l5 ?c5 ?k5 ?a6 ?l6 ?c6 ?k6 ?a7 ?l7 ?c7 ?k7 ?a8 ?l8 ?c8 ?k8 ?a9 ?l9 ?c9 ?k9 ?a10 ?l10 ?c10 ?k10 ?a11 ?l11 ?c11 ?k11 ?a12 ?l12 ?c12 ?k12 ?a13 ?l13 ?c13 ?k13 ?a14 ?l14 ?c14 ?k14 ?a15 ?l15 ?c15 ?k15 ?a16 ?l16 ?c16 ?k16 ?a17 ?l17 ?c17 ?k17 ?a18 ?l18 ?c18 ?k18 ?a19 ?l19 ?c19 ?k19 ?a20 ?l20 ?c20 ?k20 ?a21 ?l21 ?c21 ?k21 ?a22 ?l22 ?c22 ?k22 ?a23 ?l23 ?c23 ?k23 ?a24 ?l24 ?c24 ?k24 ?a25 ?l25 ?c25 ?k25 ?a26 ?l26 ?c26 ?k26 ?a27 ?l27 ?c27 ?k27 ?a28 ?l28 ?c28 ?k28 ?a29 ?l29 ?c29 ?k29 ?a30 ?l30 ?c30 ?k30 ?a31 ?l31 ?c31 ?k31 ?a32 ?l32 ?c32 ?k32 ?a33 ?l33 ?c33 ?k33 ?a34 ?l34 ?c34 ?k34 ?a35 ?l35 ?c35 ?k35 ?a36 ?l36 ?c36 ?k36 ?a37 ?l37 ?c37 ?k37 ?a38 ?l38 ?c38 ?k38 ?a39 ?l39 ?c39 ?k39 ?a40 ?l40 ?c40 ?k40 ?a41 ?l41 ?c41 ?k41 ?a42 ?l42 ?c42 ?k42 ?g_World ?k_World ?pg_World ?ic_World ?po_World ?sa_World ?mk_World ?ca_World ?cn_World ?ct_World ?cm_World ?ne_World ?tyc_World ?at_World_its_acts ?get_World_its_acts ?tk_World_its_acts ?ty_World_its_acts ?ix_World_its_acts ?am_World___init__ ?im_World___init__ ?lm_World___init__ ?co_World___init__ ?km_World___init__ ?am_World_acts ?im_World_acts ?lm_World_acts ?co_World_acts ?km_World_acts ?am_World_arguments ?im_World_arguments ?lm_World_arguments ?co_World_arguments ?km_World_arguments ?am_World_outcomes ?im_World_outcomes ?lm_World_outcomes ?co_World_outcomes ?km_World_outcomes ?am_World_brings ?im_World_brings ?lm_World_brings ?co_World_brings ?km_World_brings ?am_World___eq__ ?im_World___eq__ ?lm_World___eq__ ?co_World___eq__ ?km_World___eq__ ?g_Code ?k_Code ?pg_Code ?ic_Code ?po_Code ?sa_Code ?mk_Code ?ca_Code ?cn_Code ?ct_Code ?cm_Code ?df_World_Code ?dn_World_Code ?ne_Code ?tyc_Code ?at_Code_its_given ?get_Code_its_given ?tk_Code_its_given ?ty_Code_its_given ?ix_Code_its_given ?at_Code_its_statements ?get_Code_its_statements ?tk_Code_its_statements ?ty_Code_its_statements ?ix_Code_its_statements ?at_Code_its_variables ?get_Code_its_variables ?tk_Code_its_variables ?ty_Code_its_variables ?ix_Code_its_variables ?at_Code_its_world ?get_Code_its_world ?tk_Code_its_world ?ty_Code_its_world ?ix_Code_its_world ?am_Code___init__ ?im_Code___init__ ?lm_Code___init__ ?co_Code___init__ ?km_Code___init__ ?pa_Code_world ?pg_Code_world ?pt_Code_world ?pr_Code_world ?lm_Code_world ?co_Code_world ?km_Code_world ?pa_Code_variables ?pg_Code_variables ?pt_Code_variables ?pr_Code_variables ?lm_Code_variables ?co_Code_variables ?km_Code_variables ?pa_Code_given ?pg_Code_given ?pt_Code_given ?pr_Code_given ?lm_Code_given ?co_Code_given ?km_Code_given ?am_Code___len__ ?im_Code___len__ ?lm_Code___len__ ?co_Code___len__ ?km_Code___len__ ?am_Code_statement ?im_Code_statement ?lm_Code_statement ?co_Code_statement ?km_Code_statement ?am_Code_statements ?im_Code_statements ?lm_Code_statements ?co_Code_statements ?km_Code_statements ?am_Code_first ?im_Code_first ?lm_Code_first ?co_Code_first ?km_Code_first ?am_Code_showing ?im_Code_showing ?lm_Code_showing ?co_Code_showing ?km_Code_showing ?am_Code_parts ?im_Code_parts ?lm_Code_parts ?co_Code_parts ?km_Code_parts ?am_Code___eq__ ?im_Code___eq__ ?lm_Code___eq__ ?co_Code___eq__ ?km_Code___eq__ ?g_Recipe ?k_Recipe ?pg_Recipe ?ic_Recipe ?po_Recipe ?sa_Recipe ?mk_Recipe ?ca_Recipe ?cn_Recipe ?ct_Recipe ?cm_Recipe ?ne_Recipe ?tyc_Recipe ?mul_Recipe ?nl_Recipe ?nt_Recipe ?at_Recipe_its_terms ?get_Recipe_its_terms ?tk_Recipe_its_terms ?ty_Recipe_its_terms ?ix_Recipe_its_terms ?at_Recipe_its_variables ?get_Recipe_its_variables ?tk_Recipe_its_variables ?ty_Recipe_its_variables ?ix_Recipe_its_variables ?am_Recipe___init__ ?im_Recipe___init__ ?lm_Recipe___init__ ?co_Recipe___init__ ?km_Recipe___init__ ?pa_Recipe_variables ?pg_Recipe_variables ?pt_Recipe_variables ?pr_Recipe_variables ?lm_Recipe_variables ?co_Recipe_variables ?km_Recipe_variables ?pa_Recipe_terms ?pg_Recipe_terms ?pt_Recipe_terms ?pr_Recipe_terms ?lm_Recipe_terms ?co_Recipe_terms ?km_Recipe_terms ?sf_Recipe_keeping ?sr_Recipe_keeping ?sd_Recipe_keeping ?sg_Recipe_keeping ?st_Recipe_keeping ?lm_Recipe_keeping ?co_Recipe_keeping ?km_Recipe_keeping ?am_Recipe___call__ ?im_Recipe___call__ ?lm_Recipe___call__ ?co_Recipe___call__ ?km_Recipe___call__ ?am_Recipe___mul__ ?im_Recipe___mul__ ?lm_Recipe___mul__ ?co_Recipe___mul__ ?km_Recipe___mul__ ?am_Recipe___eq__ ?im_Recipe___eq__ ?lm_Recipe___eq__ ?co_Recipe___eq__ ?km_Recipe___eq__ ?am_Recipe___len__ ?im_Recipe___len__ ?lm_Recipe___len__ ?co_Recipe___len__ ?km_Recipe___len__ ?am_Recipe___repr__ ?im_Recipe___repr__ ?lm_Recipe___repr__ ?co_Recipe___repr__ ?km_Recipe___repr__ ?topS_ ?sup_ ?opq_ ?g_MoveError ?ex_MoveError ?hd_MoveError ?ty_MoveError ?g_Wrong ?ex_Wrong ?hd_Wrong ?ty_Wrong ?cls_Wrong ?ve_Wrong ?sa_Wrong ?no_Wrong ?k_Wrong ?vs_Wrong ?up_Wrong ?self_Wrong ?fi_Wrong ?tI_Wrong ?lI_Wrong ?cd_Wrong ?ce_Wrong ?co_Wrong ?cv_Wrong ?cf_Wrong ?bi_Wrong ?ev_Wrong ?g_BadAct ?ex_BadAct ?hd_BadAct ?ty_BadAct ?cls_BadAct ?ve_BadAct ?sa_BadAct ?no_BadAct ?k_BadAct ?vs_BadAct ?up_BadAct ?self_BadAct ?fi_BadAct ?tI_BadAct ?lI_BadAct ?cd_BadAct ?ce_BadAct ?co_BadAct ?cv_BadAct ?cf_BadAct ?bi_BadAct ?ev_BadAct ?g_BadPlace ?ex_BadPlace ?hd_BadPlace ?ty_BadPlace ?cls_BadPlace ?ve_BadPlace ?sa_BadPlace ?no_BadPlace ?k_BadPlace ?vs_BadPlace ?up_BadPlace ?self_BadPlace ?fi_BadPlace ?tI_BadPlace ?lI_BadPlace ?cd_BadPlace ?ce_BadPlace ?co_BadPlace ?cv_BadPlace ?cf_BadPlace ?bi_BadPlace ?ev_BadPlace ?g_Unlike ?ex_Unlike ?hd_Unlike ?ty_Unlike ?k_Unlike ?ei_Unlike ?g_NoPlace ?ex_NoPlace ?hd_NoPlace ?ty_NoPlace ?cls_NoPlace ?ve_NoPlace ?sa_NoPlace ?no_NoPlace ?k_NoPlace ?vs_NoPlace ?up_NoPlace ?self_NoPlace ?fi_NoPlace ?tI_NoPlace ?lI_NoPlace ?cd_NoPlace ?ce_NoPlace ?co_NoPlace ?cv_NoPlace ?cf_NoPlace ?bi_NoPlace ?ev_NoPlace ?g_Unfit ?ex_Unfit ?hd_Unfit ?ty_Unfit ?k_Unfit ?ei_Unfit ?z0 ?z1 ?z2 ?z3 ?z4 ?z5 ?z6 ?z7 ?z8 ?z9 ?z10 ?z11 ?z12 ?z13 ?z14 ?z15 ?y0 ?y1 ?y2 ?y3 ?y4 ?y5 ?y6 ?yl6 ?y7 ?y8 ?xa_NoPlace ?xg_NoPlace ?xl_NoPlace ?xn_NoPlace ?xt_NoPlace ?xm_NoPlace ?xa_Unfit ?xg_Unfit ?xl_Unfit ?xn_Unfit ?xt_Unfit ?xm_Unfit ?ds_NoPlace_Unfit ?dn_NoPlace_Unfit ?ds_Unlike_Wrong ?dn_Unlike_Wrong ?ds_Unfit_NoPlace ?dn_Unfit_NoPlace ?vs_Unfit ?sb_NoPlace_MoveError ?sb_Unfit_MoveError
    (case a0 => k_is); (case l0 => k_is); (case c0 => k_is); (case k0 => k_is); (case a1 => k_is); (case l1 => k_is); (case c1 => k_is); (case k1 => k_is); (case a2 => k_is); (case l2 => k_is); (case c2 => k_is); (case k2 => k_is); (case a3 => k_is); (case l3 => k_is); (case c3 => k_is); (case k3 => k_is); (case a4 => k_is); (case l4 => k_is); (case c4 => k_is); (case k4 => k_is); (case a5 => k_is); (case l5 => k_is); (case c5 => k_is); (case k5 => k_is); (case a6 => k_is); (case l6 => k_is); (case c6 => k_is); (case k6 => k_is); (case a7 => k_is); (case l7 => k_is); (case c7 => k_is); (case k7 => k_is); (case a8 => k_is); (case l8 => k_is); (case c8 => k_is); (case k8 => k_is); (case a9 => k_is); (case l9 => k_is); (case c9 => k_is); (case k9 => k_is); (case a10 => k_is); (case l10 => k_is); (case c10 => k_is); (case k10 => k_is); (case a11 => k_is); (case l11 => k_is); (case c11 => k_is); (case k11 => k_is); (case a12 => k_is); (case l12 => k_is); (case c12 => k_is); (case k12 => k_is); (case a13 => k_is); (case l13 => k_is); (case c13 => k_is); (case k13 => k_is); (case a14 => k_is); (case l14 => k_is); (case c14 => k_is); (case k14 => k_is); (case a15 => k_is); (case l15 => k_is); (case c15 => k_is); (case k15 => k_is); (case a16 => k_is); (case l16 => k_is); (case c16 => k_is); (case k16 => k_is); (case a17 => k_is); (case l17 => k_is); (case c17 => k_is); (case k17 => k_is); (case a18 => k_is); (case l18 => k_is); (case c18 => k_is); (case k18 => k_is); (case a19 => k_is); (case l19 => k_is); (case c19 => k_is); (case k19 => k_is); (case a20 => k_is); (case l20 => k_is); (case c20 => k_is); (case k20 => k_is); (case a21 => k_is); (case l21 => k_is); (case c21 => k_is); (case k21 => k_is); (case a22 => k_is); (case l22 => k_is); (case c22 => k_is); (case k22 => k_is); (case a23 => k_is); (case l23 => k_is); (case c23 => k_is); (case k23 => k_is); (case a24 => k_is); (case l24 => k_is); (case c24 => k_is); (case k24 => k_is); (case a25 => k_is); (case l25 => k_is); (case c25 => k_is); (case k25 => k_is); (case a26 => k_is); (case l26 => k_is); (case c26 => k_is); (case k26 => k_is); (case a27 => k_is); (case l27 => k_is); (case c27 => k_is); (case k27 => k_is); (case a28 => k_is); (case l28 => k_is); (case c28 => k_is); (case k28 => k_is); (case a29 => k_is); (case l29 => k_is); (case c29 => k_is); (case k29 => k_is); (case a30 => k_is); (case l30 => k_is); (case c30 => k_is); (case k30 => k_is); (case a31 => k_is); (case l31 => k_is); (case c31 => k_is); (case k31 => k_is); (case a32 => k_is); (case l32 => k_is); (case c32 => k_is); (case k32 => k_is); (case a33 => k_is); (case l33 => k_is); (case c33 => k_is); (case k33 => k_is); (case a34 => k_is); (case l34 => k_is); (case c34 => k_is); (case k34 => k_is); (case a35 => k_is); (case l35 => k_is); (case c35 => k_is); (case k35 => k_is); (case a36 => k_is); (case l36 => k_is); (case c36 => k_is); (case k36 => k_is); (case a37 => k_is); (case l37 => k_is); (case c37 => k_is); (case k37 => k_is); (case a38 => k_is); (case l38 => k_is); (case c38 => k_is); (case k38 => k_is); (case a39 => k_is); (case l39 => k_is); (case c39 => k_is); (case k39 => k_is); (case a40 => k_is); (case l40 => k_is); (case c40 => k_is); (case k40 => k_is); (case a41 => k_is); (case l41 => k_is); (case c41 => k_is); (case k41 => k_is); (case a42 => k_is); (case l42 => k_is); (case c42 => k_is); (case k42 => k_is); (case g_World => k_is); (case k_World => k_is); (case pg_World => k_is); (case ic_World => k_is); (case po_World => k_is); (case sa_World => k_is); (case mk_World => k_is); (case ca_World => k_is); (case cn_World => k_is); (case ct_World => k_is); (case cm_World => k_is); (case ne_World => k_is); (case tyc_World => k_is); (case at_World_its_acts => k_is); (case get_World_its_acts => k_is); (case tk_World_its_acts => k_is); (case ty_World_its_acts => k_is); (case ix_World_its_acts => k_is); (case am_World___init__ => k_is); (case im_World___init__ => k_is); (case lm_World___init__ => k_is); (case co_World___init__ => k_is); (case km_World___init__ => k_is); (case am_World_acts => k_is); (case im_World_acts => k_is); (case lm_World_acts => k_is); (case co_World_acts => k_is); (case km_World_acts => k_is); (case am_World_arguments => k_is); (case im_World_arguments => k_is); (case lm_World_arguments => k_is); (case co_World_arguments => k_is); (case km_World_arguments => k_is); (case am_World_outcomes => k_is); (case im_World_outcomes => k_is); (case lm_World_outcomes => k_is); (case co_World_outcomes => k_is); (case km_World_outcomes => k_is); (case am_World_brings => k_is); (case im_World_brings => k_is); (case lm_World_brings => k_is); (case co_World_brings => k_is); (case km_World_brings => k_is); (case am_World___eq__ => k_is); (case im_World___eq__ => k_is); (case lm_World___eq__ => k_is); (case co_World___eq__ => k_is); (case km_World___eq__ => k_is); (case g_Code => k_is); (case k_Code => k_is); (case pg_Code => k_is); (case ic_Code => k_is); (case po_Code => k_is); (case sa_Code => k_is); (case mk_Code => k_is); (case ca_Code => k_is); (case cn_Code => k_is); (case ct_Code => k_is); (case cm_Code => k_is); (case df_World_Code => k_is); (case dn_World_Code => decide +kernel); (case ne_Code => k_is); (case tyc_Code => k_is); (case at_Code_its_given => k_is); (case get_Code_its_given => k_is); (case tk_Code_its_given => k_is); (case ty_Code_its_given => k_is); (case ix_Code_its_given => k_is); (case at_Code_its_statements => k_is); (case get_Code_its_statements => k_is); (case tk_Code_its_statements => k_is); (case ty_Code_its_statements => k_is); (case ix_Code_its_statements => k_is); (case at_Code_its_variables => k_is); (case get_Code_its_variables => k_is); (case tk_Code_its_variables => k_is); (case ty_Code_its_variables => k_is); (case ix_Code_its_variables => k_is); (case at_Code_its_world => k_is); (case get_Code_its_world => k_is); (case tk_Code_its_world => k_is); (case ty_Code_its_world => k_is); (case ix_Code_its_world => k_is); (case am_Code___init__ => k_is); (case im_Code___init__ => k_is); (case lm_Code___init__ => k_is); (case co_Code___init__ => k_is); (case km_Code___init__ => k_is); (case pa_Code_world => k_is); (case pg_Code_world => k_is); (case pt_Code_world => k_is); (case pr_Code_world => k_is); (case lm_Code_world => k_is); (case co_Code_world => k_is); (case km_Code_world => k_is); (case pa_Code_variables => k_is); (case pg_Code_variables => k_is); (case pt_Code_variables => k_is); (case pr_Code_variables => k_is); (case lm_Code_variables => k_is); (case co_Code_variables => k_is); (case km_Code_variables => k_is); (case pa_Code_given => k_is); (case pg_Code_given => k_is); (case pt_Code_given => k_is); (case pr_Code_given => k_is); (case lm_Code_given => k_is); (case co_Code_given => k_is); (case km_Code_given => k_is); (case am_Code___len__ => k_is); (case im_Code___len__ => k_is); (case lm_Code___len__ => k_is); (case co_Code___len__ => k_is); (case km_Code___len__ => k_is); (case am_Code_statement => k_is); (case im_Code_statement => k_is); (case lm_Code_statement => k_is); (case co_Code_statement => k_is); (case km_Code_statement => k_is); (case am_Code_statements => k_is); (case im_Code_statements => k_is); (case lm_Code_statements => k_is); (case co_Code_statements => k_is); (case km_Code_statements => k_is); (case am_Code_first => k_is); (case im_Code_first => k_is); (case lm_Code_first => k_is); (case co_Code_first => k_is); (case km_Code_first => k_is); (case am_Code_showing => k_is); (case im_Code_showing => k_is); (case lm_Code_showing => k_is); (case co_Code_showing => k_is); (case km_Code_showing => k_is); (case am_Code_parts => k_is); (case im_Code_parts => k_is); (case lm_Code_parts => k_is); (case co_Code_parts => k_is); (case km_Code_parts => k_is); (case am_Code___eq__ => k_is); (case im_Code___eq__ => k_is); (case lm_Code___eq__ => k_is); (case co_Code___eq__ => k_is); (case km_Code___eq__ => k_is); (case g_Recipe => k_is); (case k_Recipe => k_is); (case pg_Recipe => k_is); (case ic_Recipe => k_is); (case po_Recipe => k_is); (case sa_Recipe => k_is); (case mk_Recipe => k_is); (case ca_Recipe => k_is); (case cn_Recipe => k_is); (case ct_Recipe => k_is); (case cm_Recipe => k_is); (case ne_Recipe => k_is); (case tyc_Recipe => k_is); (case mul_Recipe => k_is); (case nl_Recipe => k_is); (case nt_Recipe => k_is); (case at_Recipe_its_terms => k_is); (case get_Recipe_its_terms => k_is); (case tk_Recipe_its_terms => k_is); (case ty_Recipe_its_terms => k_is); (case ix_Recipe_its_terms => k_is); (case at_Recipe_its_variables => k_is); (case get_Recipe_its_variables => k_is); (case tk_Recipe_its_variables => k_is); (case ty_Recipe_its_variables => k_is); (case ix_Recipe_its_variables => k_is); (case am_Recipe___init__ => k_is); (case im_Recipe___init__ => k_is); (case lm_Recipe___init__ => k_is); (case co_Recipe___init__ => k_is); (case km_Recipe___init__ => k_is); (case pa_Recipe_variables => k_is); (case pg_Recipe_variables => k_is); (case pt_Recipe_variables => k_is); (case pr_Recipe_variables => k_is); (case lm_Recipe_variables => k_is); (case co_Recipe_variables => k_is); (case km_Recipe_variables => k_is); (case pa_Recipe_terms => k_is); (case pg_Recipe_terms => k_is); (case pt_Recipe_terms => k_is); (case pr_Recipe_terms => k_is); (case lm_Recipe_terms => k_is); (case co_Recipe_terms => k_is); (case km_Recipe_terms => k_is); (case sf_Recipe_keeping => k_is); (case sr_Recipe_keeping => k_is); (case sd_Recipe_keeping => k_is); (case sg_Recipe_keeping => k_is); (case st_Recipe_keeping => k_is); (case lm_Recipe_keeping => k_is); (case co_Recipe_keeping => k_is); (case km_Recipe_keeping => k_is); (case am_Recipe___call__ => k_is); (case im_Recipe___call__ => k_is); (case lm_Recipe___call__ => k_is); (case co_Recipe___call__ => k_is); (case km_Recipe___call__ => k_is); (case am_Recipe___mul__ => k_is); (case im_Recipe___mul__ => k_is); (case lm_Recipe___mul__ => k_is); (case co_Recipe___mul__ => k_is); (case km_Recipe___mul__ => k_is); (case am_Recipe___eq__ => k_is); (case im_Recipe___eq__ => k_is); (case lm_Recipe___eq__ => k_is); (case co_Recipe___eq__ => k_is); (case km_Recipe___eq__ => k_is); (case am_Recipe___len__ => k_is); (case im_Recipe___len__ => k_is); (case lm_Recipe___len__ => k_is); (case co_Recipe___len__ => k_is); (case km_Recipe___len__ => k_is); (case am_Recipe___repr__ => k_is); (case im_Recipe___repr__ => k_is); (case lm_Recipe___repr__ => k_is); (case co_Recipe___repr__ => k_is); (case km_Recipe___repr__ => k_is); (case topS_ => rfl); (case sup_ => k_is); (case opq_ => k_is); (case g_MoveError => k_is); (case ex_MoveError => k_is); (case hd_MoveError => k_is); (case ty_MoveError => k_is); (case g_Wrong => k_is); (case ex_Wrong => k_is); (case hd_Wrong => k_is); (case ty_Wrong => k_is); (case cls_Wrong => k_is); (case ve_Wrong => decide +kernel); (case sa_Wrong => k_is); (case no_Wrong => k_is); (case k_Wrong => k_is); (case vs_Wrong => k_is); (case up_Wrong => ks_is); (case self_Wrong => k_is); (case fi_Wrong => k_is); (case tI_Wrong => k_is); (case lI_Wrong => k_is); (case cd_Wrong => k_is); (case ce_Wrong => k_is); (case co_Wrong => k_is); (case cv_Wrong => rfl); (case cf_Wrong => decide +kernel); (case bi_Wrong => exact fun _ _ => rfl); (case ev_Wrong => exact fun _ => ⟨_, rfl⟩); (case g_BadAct => k_is); (case ex_BadAct => k_is); (case hd_BadAct => k_is); (case ty_BadAct => k_is); (case cls_BadAct => k_is); (case ve_BadAct => decide +kernel); (case sa_BadAct => k_is); (case no_BadAct => k_is); (case k_BadAct => k_is); (case vs_BadAct => k_is); (case up_BadAct => ks_is); (case self_BadAct => k_is); (case fi_BadAct => k_is); (case tI_BadAct => k_is); (case lI_BadAct => k_is); (case cd_BadAct => k_is); (case ce_BadAct => k_is); (case co_BadAct => k_is); (case cv_BadAct => rfl); (case cf_BadAct => decide +kernel); (case bi_BadAct => exact fun _ _ => rfl); (case ev_BadAct => exact fun _ => ⟨_, rfl⟩); (case g_BadPlace => k_is); (case ex_BadPlace => k_is); (case hd_BadPlace => k_is); (case ty_BadPlace => k_is); (case cls_BadPlace => k_is); (case ve_BadPlace => decide +kernel); (case sa_BadPlace => k_is); (case no_BadPlace => k_is); (case k_BadPlace => k_is); (case vs_BadPlace => k_is); (case up_BadPlace => ks_is); (case self_BadPlace => k_is); (case fi_BadPlace => k_is); (case tI_BadPlace => k_is); (case lI_BadPlace => k_is); (case cd_BadPlace => k_is); (case ce_BadPlace => k_is); (case co_BadPlace => k_is); (case cv_BadPlace => rfl); (case cf_BadPlace => decide +kernel); (case bi_BadPlace => exact fun _ _ => rfl); (case ev_BadPlace => exact fun _ => ⟨_, rfl⟩); (case g_Unlike => k_is); (case ex_Unlike => k_is); (case hd_Unlike => k_is); (case ty_Unlike => k_is); (case k_Unlike => k_is); (case ei_Unlike => k_exc); (case g_NoPlace => k_is); (case ex_NoPlace => k_is); (case hd_NoPlace => k_is); (case ty_NoPlace => k_is); (case cls_NoPlace => k_is); (case ve_NoPlace => decide +kernel); (case sa_NoPlace => k_is); (case no_NoPlace => k_is); (case k_NoPlace => k_is); (case vs_NoPlace => k_is); (case up_NoPlace => ks_is); (case self_NoPlace => k_is); (case fi_NoPlace => k_is); (case tI_NoPlace => k_is); (case lI_NoPlace => k_is); (case cd_NoPlace => k_is); (case ce_NoPlace => k_is); (case co_NoPlace => k_is); (case cv_NoPlace => rfl); (case cf_NoPlace => decide +kernel); (case bi_NoPlace => exact fun _ _ => rfl); (case ev_NoPlace => exact fun _ => ⟨_, rfl⟩); (case g_Unfit => k_is); (case ex_Unfit => k_is); (case hd_Unfit => k_is); (case ty_Unfit => k_is); (case k_Unfit => k_is); (case ei_Unfit => k_exc); (case z0 => k_is); (case z1 => k_is); (case z2 => k_is); (case z3 => k_is); (case z4 => k_is); (case z5 => k_is); (case z6 => k_is); (case z7 => k_is); (case z8 => k_is); (case z9 => k_is); (case z10 => k_is); (case z11 => k_is); (case z12 => k_is); (case z13 => k_is); (case z14 => k_is); (case z15 => k_is); (case y0 => k_is); (case y1 => k_is); (case y2 => k_is); (case y3 => k_is); (case y4 => k_is); (case y5 => k_is); (case y6 => k_is); (case yl6 => k_is); (case y7 => k_is); (case y8 => k_is); (case xa_NoPlace => k_is); (case xg_NoPlace => k_is); (case xl_NoPlace => k_is); (case xn_NoPlace => k_is); (case xt_NoPlace => k_is); (case xm_NoPlace => k_is); (case xa_Unfit => k_is); (case xg_Unfit => k_is); (case xl_Unfit => k_is); (case xn_Unfit => k_is); (case xt_Unfit => k_is); (case xm_Unfit => k_is); (case ds_NoPlace_Unfit => k_is); (case dn_NoPlace_Unfit => decide +kernel); (case ds_Unlike_Wrong => k_is); (case dn_Unlike_Wrong => decide +kernel); (case ds_Unfit_NoPlace => k_is); (case dn_Unfit_NoPlace => decide +kernel); (case vs_Unfit => k_is); (case sb_NoPlace_MoveError => k_is); (case sb_Unfit_MoveError => k_is)
