import PyProof.Rows.All
import Wide.All
import OpenK.AllK
import Wide.FinOn
import HandS.ForMost
import HandS.IsInst
import HandS.TupAny
import HandS.Wide
import HandS.Deep
import HandS.SetKeys
import HandS.Style
import HandS.Conv
import PyProof.ReprRoads
import HandS.SetFor
import HandS.Strs
import HandS.Evl
import HandS.Walk
import HandS.Sort
import HandS.TupLe
import PyProof.NeKinds
import PyProof.EqAt
import PyProof.Draws
import PyProof.EnumMake
import HandS.Slots
import KE.KDictOf
import HandS.More
import HandS.ExcOwn
import HandS.SlotsOwn
import PyProof.InstNe
import OpenK.KOps
import HandS.ClsMeth
import HandS.FStr
import HandS.TupMul
import HandS.Small
import PyProof.ConsumeS
import HandS.ForExc
import HandS.ExcField
import HandS.ExcIs
import KE.KExcSuper
import HandS.ListItems
import KE.KExcIs
import HandS.DictTup
import HandS.SortOrd
import PyProof.Rows.SortKeyStr
import HandS.SortInts
import HandS.SortKw
import KE.KSortKey
import PyProof.Rows.SortStr
import PyProof.TupleOfSeq
import HandS.DictComp
import PySem.Challenge.RW_framemoves_k15_whole_least_patterns
import HandS.WordsExc
import HandS.OwnEq
import KE.KEqDict
import HandS.Zip
import KE.GoesMore
import KE.GoesEnum
import KE.GoesZip
import PyProof.ListNew
import PyProof.ListRange
import KE.KDictZip
set_option Elab.async false
set_option linter.all false
set_option maxRecDepth 100000
set_option maxHeartbeats 8000000
namespace Fm
open PySem PySem.Spec PyProof.Rows L2
theorem bt_len : bootBuiltins "len" = some (.builtin "len") := by decide +kernel
theorem bt_abs : bootBuiltins "abs" = some (.builtin "abs") := by decide +kernel
theorem bt_isinstance : bootBuiltins "isinstance" = some (.builtin "isinstance") := by decide +kernel
theorem bt_repr : bootBuiltins "repr" = some (.builtin "repr") := by decide +kernel
theorem bt_sorted : bootBuiltins "sorted" = some (.builtin "sorted") := by decide +kernel
theorem bt_all : bootBuiltins "all" = some (.builtin "all") := by decide +kernel
theorem bt_int : bootBuiltins "int" = some (.type "int") := by decide +kernel
theorem bt_tuple : bootBuiltins "tuple" = some (.type "tuple") := by decide +kernel
theorem bt_list : bootBuiltins "list" = some (.type "list") := by decide +kernel
theorem bt_str : bootBuiltins "str" = some (.type "str") := by decide +kernel
theorem bt_bool : bootBuiltins "bool" = some (.type "bool") := by decide +kernel

section
variable {X : Cx} {e l : Expr} {pos : Pos}
theorem pe_ty {x : Str} {n : String} (hm : X.mg x = none) (hv : bootBuiltins x = some (.type n)) (hg : Gl X x := by rfl)
    (h1 : x ≠ "__name__" := by decide) (h2 : (x == ("__debug__" : Str)) = false := by decide) : PE X (.Name x pos) (tC (.ty n)) :=
  pe_bltn hg hm hv rfl h1 h2
theorem pe_or2 {t u : TE} (h : PE X e t) (k : PE X e u) : PE X e (fun σ H Q => t σ H Q ∨ u σ H Q) :=
  ⟨fun pins s σ H Q I q => q.elim (h.run pins s σ H Q I) (k.run pins s σ H Q I)⟩
def iSeq (K : PySem.W.Frag) (tl : TE) : TI := fun σ H R => tl σ H fun x H1 => ∃ a, x = .ref a ∧
  (((∃ xs, SqL K H1 a xs) ∧ R (Itl K a) H1) ∨ ((∃ xs, SqT K H1 a xs) ∧ R (Itt K a) H1))
theorem pi_seq {tg : Expr} {tl : TE} (hl : PE X l tl) : PI X tg l (iSeq X.K tl) := by
  refine ⟨fun pins s σ H R I h => thn (hl.run pins s σ H _ I h) ?_⟩
  rintro v s1 ⟨x, H1, I1, r1, a, rfl, q⟩
  cases r1
  have fp : ∀ b ∈ [s1.heap.objs.size], FpOk X pins H1 b := fun b hb => by
    rw [List.mem_singleton.mp hb]
    exact I1.fpOk (Nat.le_refl _) (I1.hok.fresh (Nat.le_refl _))
  rcases q with ⟨⟨xs, hq⟩, q⟩ | ⟨⟨xs, hq⟩, q⟩
  · obtain ⟨its, rv, p, hz⟩ := I1.list hq
    exact wpAny_pyIter_list p.isList ⟨_, _, _, _, H1, rfl, I1.kept (t' := s1.toks) fun b o e => Heap.get?_push_of_some _ e, turn_list a _,
      ⟨_, Heap.get?_push_size _ rfl, rfl, rfl⟩, fp, q⟩
  · obtain ⟨its, rv, p, hz⟩ := I1.tuple hq
    exact wpAny_pyIter_tuple (show s1.heap.IsTuple a its.toArray from p) ⟨_, _, _, _, H1, rfl, I1.kept (t' := s1.toks) fun b o e => Heap.get?_push_of_some _ e, turn_tuple a _,
      ⟨_, Heap.get?_push_size _ rfl, rfl, rfl⟩, fp, q⟩
def rAddS : R2 := fun x y H Q => ∃ i j, x = .str i ∧ y = .str j ∧ i.length + j.length ≤ sizeLine ∧ Q (.str (i ++ j)) H
def rAddG (K : PySem.W.Frag) : R2 := fun x y H Q => rI0 (fun i j => .int (i + j)) x y H Q ∨ (rAddS x y H Q ∨ (rCatA K x y H Q ∨ rCat x y H Q))
theorem op_addG : OpR X (binaryOp .Add) (rAddG X.K) := OpR.or op_add (OpR.or op_add_str (OpR.or op_catA op_cat))
def rMulG : R2 := fun x y H Q => rI CMul (fun i j => .int (i * j)) x y H Q ∨ rRep x y H Q
theorem op_mulG : OpR X (binaryOp .Mult) rMulG := OpR.or op_mul op_rep
def rEqG (K : PySem.W.Frag) : R2 := fun x y H Q => rEq x y H Q ∨ rEqD K x y H Q
theorem op_eqG (hu : X.A.units + 64 < cLine) : OpR X (compareOp .Eq) (rEqG X.K) := OpR.or op_eq (op_eqD hu)
def rNeG (K : PySem.W.Frag) : R2 := fun x y H Q => rNe x y H Q ∨ rNeD K x y H Q
theorem op_neG (hu : X.A.units + 64 < cLine) : OpR X (compareOp .NotEq) (rNeG X.K) := OpR.or op_ne (op_neD hu)
def rInSig : R2 := fun x y H Q => ∃ (c : Nat) (z : Str), x = .str ⟨#[c]⟩ ∧ y = .str z ∧ Q (.bl (decide (c ∈ z.cps.toList))) H
def rInG (K : PySem.W.Frag) : R2 := fun x y H Q => rInD K x y H Q ∨ rInSig x y H Q
theorem op_inG (hu : X.A.units + 65 < cLine) : OpR X (compareOp .In) (rInG X.K) := OpR.or (op_inD hu) op_in_sign
def rNotInSig : R2 := fun x y H Q => ∃ (c : Nat) (z : Str), x = .str ⟨#[c]⟩ ∧ y = .str z ∧ Q (.bl (!decide (c ∈ z.cps.toList))) H
def rNotInG (K : PySem.W.Frag) : R2 := fun x y H Q => rNotInD K x y H Q ∨ rNotInSig x y H Q
theorem op_notInG (hu : X.A.units + 65 < cLine) : OpR X (compareOp .NotIn) (rNotInG X.K) := OpR.or (op_notInD hu) op_notIn_sign
def rLenG (K : PySem.W.Frag) : List V → Hp → VK → Prop := fun xs H Q =>
  (∃ p ys, xs = [.ref p] ∧ (SqL K H p ys ∨ SqT K H p ys) ∧ Q (.int ys.length) H) ∨ ((∃ z : Str, xs = [.str z] ∧ z.length ≤ sizeLine ∧ Q (.int z.length) H) ∨
    (∃ a kvs, xs = [V.ref a] ∧ H a = some (.dK kvs) ∧ Q (.int kvs.length) H))
theorem call_lenG : CallR X (.builtin "len") (rLenG X.K) := CallR.or call_len_seq (CallR.or call_len_str call_lenD)
def rTupOf (K : PySem.W.Frag) : List V → Hp → VK → Prop := fun xs H Q => ∃ p ys, xs = [.ref p] ∧ ((SqL K H p ys ∧ ∀ l, H l = none → Q (.ref l) (upd H l (.tup ys))) ∨ (SqT K H p ys ∧ Q (.ref p) H))
theorem call_tupG : CallR X (.type "tuple") (rTupOf X.K) := call_tuple_of
def rListOf (K : PySem.W.Frag) : List V → Hp → VK → Prop := fun xs H Q => ∃ p ys, xs = [.ref p] ∧ (SqL K H p ys ∨ SqT K H p ys) ∧ ∀ l, H l = none → Q (.ref l) (upd H l (.lst ys))
theorem call_listG : CallR X (.type "list") (rListOf X.K) := call_list_of
def rSlG (K : PySem.W.Frag) : V → Option Int → Option Int → Hp → VK → Prop := fun x lo hi H Q => rSlL K x lo hi H Q ∨ (rSlA K x lo hi H Q ∨ rSlS x lo hi H Q)
theorem sl_G : SlR X (rSlG X.K) := SlR.or sl_list (SlR.or sl_tupA sl_str)
end
end Fm
namespace Fm
open PySem PySem.Spec PyProof.Rows L2
theorem ext_tup (l b : Addr) (as bs : Array Value) (n m : Nat) (dd : Option Addr) (sl : Array (Option Value))
    (h0 : ¬(!as.isEmpty && Builtin.List.listTooLong (as.size + bs.size)) = true) (h1 : as.size ≤ sizeLine) (h2 : as.size + bs.size ≤ sizeLine + 1) :
    Meets (Builtin.«list.extend» ⟨[.ref l, .ref b], []⟩) (fun _ R s =>
      s.heap.get? l = some { cls := .type "list", dict := none, data := .seq as n, slots := #[] } ∧
      s.heap.get? b = some { cls := .type "tuple", dict := dd, data := .seq bs m, slots := sl } ∧
      R (.ok (.ret Value.none)) { s with heap := s.heap.update l (Obj.mapSeq fun x => x ++ bs), toks := s.toks }) := by
  refine .of_wp fun prog w A R s h => ?_
  obtain ⟨hp, g, d, tk, os⟩ := s
  obtain ⟨ha, hb, hr⟩ := h
  have q1 := AutoSeq1.idx_int
  have q2 := AutoSeq1.sub_tuple_tuple
  have q3 := AutoSeq1.sub_list_list
  have q4 := AutoSeq1.sub_tuple_list
  have q5 := AutoSeq1.sub_list_tuple
  have hz : (as ++ bs).size ≤ sizeLine + 1 := by
    rw [Array.size_append]
    exact h2
  wp_walk using (wpAny_updateSeq ha rfl (hz := h1) (_hz' := hz)), AutoSeq1.wpAny_loadPart' ha, AutoSeq1.wpAny_loadPart' hb
  exact ⟨_, rfl, hr⟩
section
variable {X : Cx}
def rExtT (K : PySem.W.Frag) : V → List V → Hp → VK → Prop := fun x vs H Q => ∃ l b xs zs, x = .ref l ∧ vs = [.ref b] ∧ H l = some (.lst xs) ∧ SqT K H b zs ∧
  xs.length + zs.length ≤ sizeLine ∧ Q .non (upd H l (.lst (xs ++ zs)))
theorem mt_extT : MtR X "list.extend" (rExtT X.K) := by
  intro pins s σ H x vs v us Q I rx rv h
  obtain ⟨l, b, xs, zs, rfl, rfl, hH, hB, hz, q⟩ := h
  cases rx
  obtain ⟨u, rfl, ru⟩ := rv.one
  cases ru
  obtain ⟨z, its, n, r, hl, e⟩ := I.lstM hH
  obtain ⟨its2, r2, ⟨⟨cls, dd, data, sl⟩, ho, hc, m, hd⟩, hz2⟩ := I.tuple hB
  simp only at hc hd
  subst hc hd
  have e1 := r.length
  have e2 := r2.length
  have hs : its.toArray.size + its2.toArray.size ≤ sizeLine := by
    rw [List.size_toArray, List.size_toArray]
    omega
  have hlong : ¬ (!its.toArray.isEmpty && Builtin.List.listTooLong (its.toArray.size + its2.toArray.size)) = true := by
    rw [notLongL hs, Bool.and_false]
    exact Bool.false_ne_true
  refine call_meets PySem.F.slot_list_extend ⟨_, e, rfl⟩ PySem.F.entry_list_extend (PySem.F.args_list_extend_2 _ _)
    (ext_tup l b its.toArray its2.toArray n m dd sl hlong (by rw [List.size_toArray]; omega) (by omega)) ⟨e, ho, ?_⟩
  refine ⟨.non, _, I.lset (its' := its ++ its2) hH e (by simp) (r.append r2) ?_, rfl, q⟩
  rw [List.length_append]
  omega
def rExtG (K : PySem.W.Frag) : V → List V → Hp → VK → Prop := fun x vs H Q => rExtend x vs H Q ∨ rExtT K x vs H Q
theorem mt_extendG : MtR X "list.extend" (rExtG X.K) := MtR.or mt_extend mt_extT
def rReprG (K : PySem.W.Frag) : List V → Hp → VK → Prop := fun xs H Q => ∃ (x : V) (d : PyData), xs = [x] ∧ Dp K H x d ∧ d.showable = true ∧ d.hasDict = false ∧ d.depth ≤ 60 ∧ d.shown.length ≤ sizeLine ∧ Q (.str d.shown) H
theorem call_reprG (hg : X.A.guards = some []) (hu : X.A.units + 64 < cLine) : CallR X (.builtin "repr") (rReprG X.K) := by
  intro pins s σ H xs us Q I rv h
  obtain ⟨x, d, rfl, hd, hs, hn, hdp, hz, q⟩ := h
  obtain ⟨u, rfl, ru⟩ := rv.one
  obtain ⟨as, R⟩ := Dp.reads I d x u hd ru
  have fin : ∀ h' (t : Tok) tk, (∀ b o, s.heap.get? b = some o → h'.get? b = some o) → EP X pins σ Q (.str d.shown t) { s with heap := h', toks := tk } := fun h' t tk hk =>
    ⟨.str d.shown, H, I.kept (h' := h') (t' := tk) hk, ⟨t, rfl⟩, q⟩
  cases hd with
  | non =>
    cases ru
    exact PySem.P.repr_of_none (fin s.heap _ _ fun _ _ e => e)
  | bl b =>
    cases ru
    exact PySem.P.repr_of_bool (fin s.heap _ _ fun _ _ e => e)
  | int i =>
    obtain ⟨t, rfl⟩ := ru
    exact PySem.P.repr_of_int (by simpa [PyData.showable] using hs) (fin s.heap _ _ fun _ _ e => e)
  | str y =>
    obtain ⟨t, rfl⟩ := ru
    exact PySem.P.repr_of_str (fin s.heap _ _ fun _ _ e => e) hz
  | lst h1 h2 =>
    cases ru
    exact PySem.repr_of_reads' R hs (fun c => by rw [hn] at c; cases c) hg (by omega) (fun _ _ e => e) (fun h' t tk hk => fin h' t tk hk) hz
  | tup h1 h2 =>
    cases ru
    exact PySem.repr_of_reads' R hs (fun c => by rw [hn] at c; cases c) hg (by omega) (fun _ _ e => e) (fun h' t tk hk => fin h' t tk hk) hz
end
structure FnOkG (P : Program) (w : World) (K : PySem.W.Frag) (mg : Str → Option Value) (base : Heap) (CX : CXT) (k : Nat) (f : Addr) (fd : FuncData) (ps : List Str) (sp : Sp) : Prop where
  len : ∀ vs H Q E, sp vs H Q E → vs.length = ps.length
  run : ∀ (A : Around) (outer : List Env) (s : Shared) (H : Hp) (args : Args) (us : List Value) (vs : List V) (Q : VK) (E : XK), A.guards = some [] → Room k A →
    Env0 P w K mg base A outer s H → BindsTo s fd args (ps.zip us) → Vals vs us → sp vs H Q E → codeAny (model P w) A (.call (.ref f) args) (CR CX outer P w H s Q E) s
section
variable {P : Program} {w : World} {K : PySem.W.Frag} {mg : Str → Option Value} {base : Heap} {CX : CXT}
theorem FnOkG.mono {j k : Nat} {f : Addr} {fd : FuncData} {ps : List Str} {sp : Sp} (F : FnOkG P w K mg base CX j f fd ps sp) (h : j ≤ k) : FnOkG P w K mg base CX k f fd ps sp :=
  ⟨F.len, fun A outer s H args us vs Q E hg hr => F.run A outer s H args us vs Q E hg (hr.mono h)⟩
theorem guards_deeper (A : Around) (env : Env) (h : A.guards = some []) : (A.deeper env).guards = some [] := by
  first | exact h | simpa [Around.deeper] using h
theorem okG {x qual : Str} {st : Stmt} {f : Addr} {fd : FuncData} {N ps : List Str} {k : Nat} {sp : Sp} (F : Fun K x qual st f fd) (S : FnScope N ps (defScope st))
    (len : ∀ vs H Q E, sp vs H Q E → vs.length = ps.length)
    (body : ∀ (cdv : Value) (A : Around) (outer : List Env) (s : Shared) (H : Hp) (vs : List V) (Q : VK) (E : XK),
      (A.deeper (envOfC qual (defScope st) s.heap.objs.size f cdv)).guards = some [] → Room k (A.deeper (envOfC qual (defScope st) s.heap.objs.size f cdv)) → sp vs H Q E →
      ∃ t, PSs (cxOf CX0 P w K mg base N qual (defScope st) f cdv A outer s H E).nox (defBody st) t ∧ t { nx := fun _ H' => Q .non H', rt := Q } (start N vs) H) :
    FnOkG P w K mg base CX0 (k + 1) f fd ps sp := by
  obtain ⟨oc, od, kV, doc, pm, an, cdv, ct, osl, rfl, lk, hcd⟩ := F.ex
  refine ⟨len, fun A outer s H args us vs Q E hg hr e0 hb rv hsp => ?_⟩
  have KX : K.In s.heap := e0.mod.kin.keeps fun b o e => (e0.bs b o e).1
  have lim : s.heap.NoLimit := e0.mod.nolimit.keeps fun b o e => (e0.bs b o e).1
  refine codeAny_call_function hr.depth (KX _ _ lk) rfl S.co S.gen rfl (PySem.W.codeRec_of KX hcd) (hb _ _ _ _ ?_)
  refine wpAny_newFunctionEnv_cells S.kind (fun y hy => ?_) fun env he s1 ic => ?_
  · rcases S.par y.1 (List.of_mem_zip (show (y.1, y.2) ∈ ps.zip us from hy)).1 with q | q
    · exact .inl q
    · exact .inr ⟨q, PySem.W.cellsFrom_some _ _ _ (.inl q)⟩
  · subst he
    refine ⟨lim.keeps ic.toInCall.keep, codeAny_func ?_⟩
    obtain ⟨t, ht, hq⟩ := body cdv A outer s H vs Q E (guards_deeper A _ hg) (hr.deeper _) hsp
    have I := inv_start (CX := CX0) (N := N) (E := E) S hr.hd e0 (len _ _ _ _ hsp) rv ic
    refine wpAny_mono (ht.nox.run [] s1 (start N vs) H _ I hq) (fun fl s' hs => ?_) fun e s' hs => hs
    cases fl with
    | ret u =>
      obtain ⟨v, σ', H', J, r', q⟩ := hs
      exact ⟨v, H', J.os, J.bare, J.base, J.hok, r', q⟩
    | next =>
      obtain ⟨σ', H', J, q⟩ := hs
      exact ⟨.non, H', J.os, J.bare, J.base, J.hok, rfl, q⟩
    | brk =>
      obtain ⟨_, _, _, q⟩ := hs
      exact q.elim
    | cont =>
      obtain ⟨_, _, _, q⟩ := hs
      exact q.elim
end
section
variable {X : Cx} {CX : CXT} {k : Nat} {f : Addr} {fd : FuncData} {ps : List Str} {sp : Sp} {dvs : List V} {ds : List Value} {E : XK} {x : Str} {p pos : Pos} {e : Expr} {es : List Expr} {t : TA}
theorem pe_callG (F : FnOkG X.prog X.w X.K X.mg X.base CX k f fd ps sp) (hgd : X.A.guards = some []) (hr : Room k X.A) (hg : Gl X x) (hm : X.mg x = some (.ref f))
    (hk : PySem.W.keepIn X.K (.ref f) = true) (hb : Binds X.K fd ps ds) (hd : Vals dvs ds) (hx : Passes CX X E) (ha : PA X (e :: es) t) (hdb : (x == ("__debug__" : Str)) = false := by decide)
    (he : starEach (e :: es) X.env = (false, eval e X.env) :: starEach es X.env := by rfl) (hpl : (backTo pos (starEach es X.env)).any (·.1) = false := by rfl) :
    PE X (.Call (.Name x p) (e :: es) [] pos) (tCall sp dvs E t) := by
  refine ⟨fun pins s σ H Q I h => wpAny_Call_Name_kw (ld_glob I hg hm ?_ hdb)⟩
  refine PySem.W.callWith_K (h₀ := X.base) I.ok.mod.kin hk (thn (ha.run pos pins s σ H _ I h) ?_) he hpl
  rintro us s1 ⟨vs, H1, I1, rv, q⟩
  refine ⟨I1.kIn, ?_⟩
  have r2 := rv.append hd
  have hl : (us ++ ds).length = ps.length := by
    rw [← r2.length]
    exact F.len _ _ _ _ q
  refine wpAny_call (codeAny_mono (F.run X.A X.stack s1 H1 ⟨us, []⟩ _ _ Q E hgd hr I1.env0 (hb s1 us I1.kIn hl) r2 q) fun r s' hq => ?_)
  match r, hq with
  | .error e, hq => exact hx pins σ H1 s1 e s' I1 hq
  | .ok (.ret u), hq => exact I1.after hq
end
end Fm
namespace Fm
open PySem PySem.Spec PyProof.Rows L2
structure Mv (S : List Addr) (H H' : Hp) : Prop where
  tk : ∀ a xs, Rd H a (.tup xs) → Rd H' a (.tup xs)
  keep : ∀ a o, a ∉ S → H a = some o → H' a = some o
section
variable {S T : List Addr} {H H1 H2 : Hp} {p : Addr} {o : HO}
theorem Mv.refl : Mv S H H := ⟨fun _ _ h => h, fun _ _ _ h => h⟩
theorem Mv.trans (a : Mv S H H1) (b : Mv S H1 H2) : Mv S H H2 := ⟨fun c xs h => b.tk c xs (a.tk c xs h), fun c u n h => b.keep c u n (a.keep c u n h)⟩
theorem Mv.mono (a : Mv S H H1) (h : ∀ x ∈ S, x ∈ T) : Mv T H H1 := ⟨a.tk, fun c u n e => a.keep c u (fun z => n (h c z)) e⟩
theorem Mv.of_same (h : Same H H1) : Mv S H H1 := ⟨fun a xs r => r.elim (fun r => .inl (h _ _ r)) fun ⟨o, r⟩ => .inr ⟨o, h _ _ r⟩, fun a o _ e => h a o e⟩
theorem same_new (h : H p = none) : Same H (upd H p o) := fun a u e => by
  rw [upd_ne (ne_of_none e h)]
  exact e
theorem Mv.new (h : H p = none) : Mv S H (upd H p o) := .of_same (same_new h)
theorem Mv.free (a : Mv [] H H1) (h : H1 p = none) : H p = none := by
  cases q : H p with
  | none => rfl
  | some u =>
    rw [a.keep p u (List.not_mem_nil) q] at h
    cases h
theorem Mv.same (a : Mv [] H H1) : Same H H1 := fun c u e => a.keep c u List.not_mem_nil e
theorem Mv.wr (a : Mv S H H1) (h : H p = none) : Mv S H (upd H1 p o) := by
  refine ⟨fun c xs r => ?_, fun c u n e => ?_⟩
  · have hc : c ≠ p := by
      rintro rfl
      rcases r with r | ⟨u, r⟩ <;> (rw [h] at r; cases r)
    rcases a.tk c xs r with r | ⟨u, r⟩
    · exact .inl (by rw [upd_ne hc]; exact r)
    · exact .inr ⟨u, by rw [upd_ne hc]; exact r⟩
  · rw [upd_ne (ne_of_none e h)]
    exact a.keep c u n e
theorem Mv.set {xs : List V} (h : H p = some (.lst xs)) (hp : p ∈ S) : Mv S H (upd H p o) := by
  refine ⟨fun c ys r => ?_, fun c u n e => ?_⟩
  · have hc : c ≠ p := by
      rintro rfl
      rcases r with r | ⟨u, r⟩ <;> (rw [h] at r; cases r)
    rcases r with r | ⟨u, r⟩
    · exact .inl (by rw [upd_ne hc]; exact r)
    · exact .inr ⟨u, by rw [upd_ne hc]; exact r⟩
  · have hc : c ≠ p := fun z => n (by rw [z]; exact hp)
    rw [upd_ne hc]
    exact e
theorem Mv.sqT {K : PySem.W.Frag} {a : Addr} {xs : List V} (m : Mv S H H1) (h : SqT K H a xs) : SqT K H1 a xs := h.elim (fun h => .inl (m.tk a xs h)) .inr
end
mutual
def imm : PyData → Bool
  | .none | .bool _ | .int _ | .str _ => true
  | .tuple xs => immAll xs
  | .list _ => false
  | .dict _ => false
def immAll : List PyData → Bool
  | [] => true
  | x :: xs => imm x && immAll xs
end
structure Im (K : PySem.W.Frag) (H : Hp) (v : V) (d : PyData) : Prop where
  dp : Dp K H v d
  im : imm d = true
structure Ims (K : PySem.W.Frag) (H : Hp) (vs : List V) (ds : List PyData) : Prop where
  dp : DpAll K H vs ds
  im : immAll ds = true
section
variable {K : PySem.W.Frag} {S : List Addr} {H H' : Hp}
mutual
theorem dp_mv (m : Mv S H H') : ∀ (d : PyData) (v : V), imm d = true → Dp K H v d → Dp K H' v d
  | .none, _, _, h => by cases h; exact .non
  | .bool b, _, _, h => by cases h; exact .bl b
  | .int i, _, _, h => by cases h; exact .int i
  | .str x, _, _, h => by cases h; exact .str x
  | .tuple ds, _, i, h => by
    cases h with
    | tup hs ha => exact .tup (m.sqT hs) (dps_mv m ds _ (by simpa [imm] using i) ha)
  | .list ds, _, i, _ => by simp [imm] at i
  | .dict _, _, _, h => by cases h
theorem dps_mv (m : Mv S H H') : ∀ (ds : List PyData) (vs : List V), immAll ds = true → DpAll K H vs ds → DpAll K H' vs ds
  | [], _, _, h => by cases h; exact .nil
  | d :: ds, _, i, h => by
    cases h with
    | cons h1 h2 =>
      have i' : imm d = true ∧ immAll ds = true := by simpa [immAll] using i
      exact .cons (dp_mv m d _ i'.1 h1) (dps_mv m ds _ i'.2 h2)
end
theorem Im.mv {v : V} {d : PyData} (h : Im K H v d) (m : Mv S H H') : Im K H' v d := ⟨dp_mv m d v h.im h.dp, h.im⟩
theorem Ims.mv {vs : List V} {ds : List PyData} (h : Ims K H vs ds) (m : Mv S H H') : Ims K H' vs ds := ⟨dps_mv m ds vs h.im h.dp, h.im⟩
theorem Ims.nil : Ims K H [] [] := ⟨.nil, rfl⟩
theorem Ims.cons {v : V} {vs : List V} {d : PyData} {ds : List PyData} (h : Im K H v d) (k : Ims K H vs ds) : Ims K H (v :: vs) (d :: ds) := ⟨.cons h.dp k.dp, by simp [immAll, h.im, k.im]⟩
theorem Ims.inv {v : V} {vs : List V} {ds : List PyData} (h : Ims K H (v :: vs) ds) : ∃ d ds', ds = d :: ds' ∧ Im K H v d ∧ Ims K H vs ds' := by
  obtain ⟨h, i⟩ := h
  cases h with
  | cons h1 h2 =>
    simp only [immAll, Bool.and_eq_true] at i
    exact ⟨_, _, rfl, ⟨h1, i.1⟩, h2, i.2⟩
theorem Ims.invD {vs : List V} {d : PyData} {ds : List PyData} (h : Ims K H vs (d :: ds)) : ∃ v vs', vs = v :: vs' ∧ Im K H v d ∧ Ims K H vs' ds := by
  obtain ⟨h, i⟩ := h
  cases h with
  | cons h1 h2 =>
    simp only [immAll, Bool.and_eq_true] at i
    exact ⟨_, _, rfl, ⟨h1, i.1⟩, h2, i.2⟩
theorem Ims.nilD {vs : List V} (h : Ims K H vs []) : vs = [] := by
  obtain ⟨h, i⟩ := h
  cases h
  rfl
theorem Ims.length : ∀ {ds : List PyData} {vs : List V}, Ims K H vs ds → vs.length = ds.length
  | [], _, h => by rw [h.nilD]; rfl
  | d :: ds, _, h => by
    obtain ⟨v, vs', rfl, _, k⟩ := h.invD
    simp [k.length]
theorem Ims.append : ∀ {ds es : List PyData} {vs us : List V}, Ims K H vs ds → Ims K H us es → Ims K H (vs ++ us) (ds ++ es)
  | [], _, _, _, h, k => by rw [h.nilD]; exact k
  | d :: ds, _, _, _, h, k => by
    obtain ⟨v, vs', rfl, h1, h2⟩ := h.invD
    exact .cons h1 (h2.append k)
theorem Ims.get : ∀ {ds : List PyData} {vs : List V} {i : Nat} {v : V}, Ims K H vs ds → vs[i]? = some v → ∃ d, ds[i]? = some d ∧ Im K H v d
  | [], _, _, _, h, e => by rw [h.nilD] at e; simp at e
  | d :: ds, _, 0, _, h, e => by
    obtain ⟨v, vs', rfl, h1, h2⟩ := h.invD
    simp at e
    subst e
    exact ⟨d, rfl, h1⟩
  | d :: ds, _, i + 1, _, h, e => by
    obtain ⟨v, vs', rfl, h1, h2⟩ := h.invD
    exact h2.get (i := i) (by simpa using e)
theorem Ims.getD : ∀ {ds : List PyData} {vs : List V} {i : Nat} {d : PyData}, Ims K H vs ds → ds[i]? = some d → ∃ v, vs[i]? = some v ∧ Im K H v d
  | [], _, _, _, h, e => by simp at e
  | d :: ds, _, 0, _, h, e => by
    obtain ⟨v, vs', rfl, h1, h2⟩ := h.invD
    simp at e
    subst e
    exact ⟨v, rfl, h1⟩
  | d :: ds, _, i + 1, _, h, e => by
    obtain ⟨v, vs', rfl, h1, h2⟩ := h.invD
    exact h2.getD (i := i) (by simpa using e)
theorem Im.tupI {v : V} {ds : List PyData} (h : Im K H v (.tuple ds)) : ∃ a xs, v = .ref a ∧ SqT K H a xs ∧ Ims K H xs ds := by
  obtain ⟨h, i⟩ := h
  cases h with
  | tup hs ha => exact ⟨_, _, rfl, hs, ha, by simpa [imm] using i⟩
theorem Im.tup {a : Addr} {xs : List V} {ds : List PyData} (h : SqT K H a xs) (k : Ims K H xs ds) : Im K H (.ref a) (.tuple ds) := ⟨.tup h k.dp, by simpa [imm] using k.im⟩
theorem Im.int (i : Int) : Im K H (.int i) (.int i) := ⟨.int i, rfl⟩
theorem Im.str (x : Str) : Im K H (.str x) (.str x) := ⟨.str x, rfl⟩
theorem Im.bl (b : Bool) : Im K H (.bl b) (.bool b) := ⟨.bl b, rfl⟩
theorem Im.non : Im K H .non .none := ⟨.non, rfl⟩
theorem Im.intI {v : V} {i : Int} (h : Im K H v (.int i)) : v = .int i := by
  obtain ⟨h, _⟩ := h
  cases h
  rfl
theorem Im.strI {v : V} {x : Str} (h : Im K H v (.str x)) : v = .str x := by
  obtain ⟨h, _⟩ := h
  cases h
  rfl
end
def BagC (H : Hp) (b c : Addr) : Prop := ∃ (s m k : Int) (ns : List Int), H b = some (.lst [.int s, .int m, .int k, .ref c]) ∧ H c = some (.lst (ns.map V.int)) ∧ ns.length ≤ 63 ∧
  (∀ n ∈ ns, 0 ≤ n) ∧ 0 ≤ s ∧ 0 ≤ k ∧ 0 ≤ m
def Bag (H : Hp) (b : Addr) : Prop := ∃ c, BagC H b c
theorem BagC.lst {H : Hp} {b c : Addr} (h : BagC H b c) : ∃ xs, H b = some (.lst xs) := by
  obtain ⟨s, m, k, ns, h, _⟩ := h
  exact ⟨_, h⟩
theorem Bag.lst {H : Hp} {b : Addr} (h : Bag H b) : ∃ xs, H b = some (.lst xs) := h.elim fun _ h => h.lst
theorem Bag.ne {H : Hp} {b c : Addr} {xs : List V} {ns : List Int} (h : H b = some (.lst (xs ++ [.ref c]))) (k : H c = some (.lst (ns.map V.int))) : c ≠ b := by
  rintro rfl
  rw [h] at k
  have e : xs ++ [V.ref c] = ns.map V.int := by
    have := Option.some.inj k
    injection this
  have : V.ref c ∈ ns.map V.int := by
    rw [← e]
    simp
  obtain ⟨n, _, q⟩ := List.mem_map.mp this
  cases q
theorem BagC.mv {H H' : Hp} {b c : Addr} (h : BagC H b c) (m : Mv [] H H') : BagC H' b c := by
  obtain ⟨s, m', k, ns, h1, h2, r⟩ := h
  exact ⟨s, m', k, ns, m.same _ _ h1, m.same _ _ h2, r⟩
theorem Bag.mv {H H' : Hp} {b : Addr} (h : Bag H b) (m : Mv [] H H') : Bag H' b := h.elim fun c h => ⟨c, h.mv m⟩
structure Dr (b : Addr) (H H' : Hp) : Prop where
  mv : Mv [b] H H'
  bagC : ∀ c, BagC H b c → BagC H' b c
section
variable {b p : Addr} {H H' H1 H2 : Hp} {o : HO}
theorem Dr.bag (x : Dr b H H') (h : Bag H b) : Bag H' b := h.elim fun c h => ⟨c, x.bagC c h⟩
theorem Dr.refl : Dr b H H := ⟨.refl, fun _ h => h⟩
theorem Dr.trans (x : Dr b H H1) (y : Dr b H1 H2) : Dr b H H2 := ⟨x.mv.trans y.mv, fun c h => y.bagC c (x.bagC c h)⟩
theorem Dr.of (x : Mv [] H H1) : Dr b H H1 := ⟨x.mono (by simp), fun _ h => h.mv x⟩
theorem Dr.new (h : H p = none) : Dr b H (upd H p o) := .of (.new h)
theorem Dr.free (d : Dr b H H') (hB : Bag H b) (h : H' p = none) : H p = none := by
  cases q : H p with
  | none => rfl
  | some u =>
    by_cases e : p = b
    · subst e
      obtain ⟨xs, hx⟩ := (d.bag hB).lst
      rw [hx] at h
      cases h
    · rw [d.mv.keep p u (by simpa using e) q] at h
      cases h
theorem Dr.get (d : Dr b H H') (hp : p ≠ b) (h : H p = some o) : H' p = some o := d.mv.keep p o (by simpa using hp) h
theorem Dr.wr (d : Dr b H H') (hp : H p = none) : Dr b H (upd H' p o) := by
  refine ⟨d.mv.wr hp, fun c hB => ?_⟩
  obtain ⟨s', m', k', ns', h1', h2', r'⟩ := d.bagC c hB
  obtain ⟨s, m, k, ns, h1, h2, r⟩ := hB
  exact ⟨s', m', k', ns', by rw [upd_ne (ne_of_none h1 hp)]; exact h1', by rw [upd_ne (ne_of_none h2 hp)]; exact h2', r'⟩
theorem Dr.mkc {c : Addr} (m : Mv [b] H H') (h : BagC H b c) (h' : BagC H' b c) : Dr b H H' := ⟨m, fun d k => by
  obtain ⟨_, _, _, _, h1, _⟩ := h
  obtain ⟨_, _, _, _, k1, _⟩ := k
  rw [h1] at k1
  have e := Option.some.inj k1
  injection e with e
  injection e with _ e
  injection e with _ e
  injection e with _ e
  injection e with e _
  injection e with e
  rw [← e]
  exact h'⟩
theorem Bag.fneq (h : Bag H b) (hp : H p = none) : p ≠ b := by
  rintro rfl
  obtain ⟨xs, e⟩ := h.lst
  rw [e] at hp
  cases hp
end
section
variable {X : Cx}
def rGetL (K : PySem.W.Frag) : V → V → Hp → VK → Prop := fun o i H Q => ∃ (p : Addr) (xs : List V) (j : Nat) (v : V), o = .ref p ∧ i = .int (j : Nat) ∧ SqL K H p xs ∧ xs[j]? = some v ∧ Q v H
theorem get_G : PGet X (rGetL X.K) := by
  intro pins s σ H o i ov iv Q I ro ri h
  obtain ⟨p, xs, j, v, rfl, rfl, hq, he, q⟩ := h
  cases ro
  obtain ⟨t, rfl⟩ := ri
  obtain ⟨its, r, pl, hz⟩ := I.list hq
  obtain ⟨w, ew, rw'⟩ := r.get he
  have hl := r.length
  have hn := line63
  have hj : j < its.length := (List.getElem?_eq_some_iff.mp ew).1
  exact wpAny_getItem_list pl.isList (by omega) (by omega) (by simpa using ew) ⟨v, H, I, rw', q⟩
end
end Fm
namespace Fm
open PySem PySem.Spec PyProof.Rows L2
def Nm (x : Str) : Prop := 1 ≤ x.length ∧ x.length ≤ 8 ∧ ∀ c ∈ x.cps.toList, 97 ≤ c ∧ c ≤ 122
instance (x : Str) : Decidable (Nm x) := by unfold Nm; infer_instance
inductive Tm where
  | var (i : Int)
  | op (x : Str) (ts : List Tm)
namespace Tm
mutual
def d : Tm → PyData
  | .var i => .int i
  | .op x ts => .tuple (.str x :: ds ts)
def ds : List Tm → List PyData
  | [] => []
  | t :: ts => d t :: ds ts
end
theorem ds_map : ∀ ts : List Tm, ds ts = ts.map d
  | [] => by simp [ds]
  | t :: ts => by simp [ds, ds_map ts]
mutual
def dep : Tm → Nat
  | .var _ => 0
  | .op _ ts => deps ts + 1
def deps : List Tm → Nat
  | [] => 0
  | t :: ts => max (dep t) (deps ts)
end
mutual
def lv : Tm → Nat
  | .var _ => 1
  | .op _ ts => lvs ts
def lvs : List Tm → Nat
  | [] => 0
  | t :: ts => lv t + lvs ts
end
mutual
def leaves : Tm → List Int
  | .var i => [i]
  | .op _ ts => leavesL ts
def leavesL : List Tm → List Int
  | [] => []
  | t :: ts => leaves t ++ leavesL ts
end
mutual
def size : Tm → Nat
  | .var _ => 0
  | .op _ ts => sizes ts + 1
def sizes : List Tm → Nat
  | [] => 0
  | t :: ts => size t + sizes ts
end
mutual
def put (f : Int → Tm) : Tm → Tm
  | .var i => f i
  | .op x ts => .op x (puts f ts)
def puts (f : Int → Tm) : List Tm → List Tm
  | [] => []
  | t :: ts => put f t :: puts f ts
end
mutual
def ok (P : Int → Prop) : Tm → Prop
  | .var i => P i
  | .op x ts => Nm x ∧ ts.length ≤ 3 ∧ oks P ts
def oks (P : Int → Prop) : List Tm → Prop
  | [] => True
  | t :: ts => ok P t ∧ oks P ts
end
theorem puts_map (f : Int → Tm) : ∀ ts : List Tm, puts f ts = ts.map (put f)
  | [] => by simp [puts]
  | t :: ts => by simp [puts, puts_map f ts]
theorem oks_iff {P : Int → Prop} : ∀ {ts : List Tm}, oks P ts ↔ ∀ t ∈ ts, ok P t
  | [] => by simp [oks]
  | t :: ts => by simp [oks, oks_iff]
theorem deps_le {n : Nat} : ∀ {ts : List Tm}, deps ts ≤ n ↔ ∀ t ∈ ts, dep t ≤ n
  | [] => by simp [deps]
  | t :: ts => by
    have := deps_le (n := n) (ts := ts)
    simp only [deps, List.mem_cons, forall_eq_or_imp, ← this]
    omega
theorem leavesL_append : ∀ ts us : List Tm, leavesL (ts ++ us) = leavesL ts ++ leavesL us
  | [], _ => by simp [leavesL]
  | t :: ts, us => by simp [leavesL, leavesL_append ts us]
theorem sizes_append : ∀ ts us : List Tm, sizes (ts ++ us) = sizes ts + sizes us
  | [], _ => by simp [sizes]
  | t :: ts, us => by
    simp only [List.cons_append, sizes, sizes_append ts us]
    omega
theorem lvs_append : ∀ ts us : List Tm, lvs (ts ++ us) = lvs ts + lvs us
  | [], _ => by simp [lvs]
  | t :: ts, us => by
    simp only [List.cons_append, lvs, lvs_append ts us]
    omega
mutual
theorem leaves_len : ∀ t : Tm, (leaves t).length = lv t
  | .var _ => by simp [leaves, lv]
  | .op _ ts => by simp [leaves, lv, leavesL_len ts]
theorem leavesL_len : ∀ ts : List Tm, (leavesL ts).length = lvs ts
  | [] => by simp [leavesL, lvs]
  | t :: ts => by simp [leavesL, lvs, leaves_len t, leavesL_len ts]
end
mutual
theorem ok_leaves {P : Int → Prop} : ∀ t : Tm, ok P t → ∀ i ∈ leaves t, P i
  | .var j, h, i, hi => by
    simp only [leaves, List.mem_singleton] at hi
    rw [hi]
    exact h
  | .op _ ts, h, i, hi => oks_leaves ts h.2.2 i (by simpa [leaves] using hi)
theorem oks_leaves {P : Int → Prop} : ∀ ts : List Tm, oks P ts → ∀ i ∈ leavesL ts, P i
  | [], _, i, hi => by simp [leavesL] at hi
  | t :: ts, h, i, hi => by
    rcases List.mem_append.mp (show i ∈ leaves t ++ leavesL ts by simpa [leavesL] using hi) with hi | hi
    · exact ok_leaves t h.1 i hi
    · exact oks_leaves ts h.2 i hi
end
mutual
theorem ok_mono {P R : Int → Prop} (h : ∀ i, P i → R i) : ∀ t : Tm, ok P t → ok R t
  | .var i, k => h i k
  | .op _ ts, k => ⟨k.1, k.2.1, oks_mono h ts k.2.2⟩
theorem oks_mono {P R : Int → Prop} (h : ∀ i, P i → R i) : ∀ ts : List Tm, oks P ts → oks R ts
  | [], _ => trivial
  | t :: ts, k => ⟨ok_mono h t k.1, oks_mono h ts k.2⟩
end
mutual
theorem ok_put {P R : Int → Prop} {f : Int → Tm} (h : ∀ i, P i → ok R (f i)) : ∀ t : Tm, ok P t → ok R (put f t)
  | .var i, k => h i k
  | .op _ ts, k => by
    refine ⟨k.1, ?_, oks_puts h ts k.2.2⟩
    rw [puts_map, List.length_map]
    exact k.2.1
theorem oks_puts {P R : Int → Prop} {f : Int → Tm} (h : ∀ i, P i → ok R (f i)) : ∀ ts : List Tm, oks P ts → oks R (puts f ts)
  | [], _ => trivial
  | t :: ts, k => ⟨ok_put h t k.1, oks_puts h ts k.2⟩
end
mutual
theorem dep_put {P : Int → Prop} {f : Int → Tm} {n : Nat} (h : ∀ i, P i → dep (f i) ≤ n) : ∀ t : Tm, ok P t → dep (put f t) ≤ dep t + n
  | .var i, k => by simpa [put, dep] using h i k
  | .op _ ts, k => by
    have := deps_puts h ts k.2.2
    simp only [put, dep]
    omega
theorem deps_puts {P : Int → Prop} {f : Int → Tm} {n : Nat} (h : ∀ i, P i → dep (f i) ≤ n) : ∀ ts : List Tm, oks P ts → deps (puts f ts) ≤ deps ts + n
  | [], _ => by simp [puts, deps]
  | t :: ts, k => by
    have h1 := dep_put h t k.1
    have h2 := deps_puts h ts k.2
    simp only [puts, deps]
    omega
end
mutual
def cst : Tm → Nat
  | .var _ => 0
  | .op _ ts => csts ts + 90
def csts : List Tm → Nat
  | [] => 0
  | t :: ts => cst t + 2 + csts ts
end
mutual
theorem cst_put {P : Int → Prop} {f : Int → Tm} {c : Nat} (h : ∀ i, P i → cst (f i) ≤ c) : ∀ t : Tm, ok P t → cst (put f t) ≤ cst t + lv t * c
  | .var i, k => by simpa [put, cst, lv] using h i k
  | .op _ ts, k => by
    have := csts_puts h ts k.2.2
    simp only [put, cst, lv]
    omega
theorem csts_puts {P : Int → Prop} {f : Int → Tm} {c : Nat} (h : ∀ i, P i → cst (f i) ≤ c) : ∀ ts : List Tm, oks P ts → csts (puts f ts) ≤ csts ts + lvs ts * c
  | [], _ => by simp [puts, csts]
  | t :: ts, k => by
    have h1 := cst_put h t k.1
    have h2 := csts_puts h ts k.2
    simp only [puts, csts, lvs, Nat.add_mul]
    omega
end
mutual
theorem lv_put {P : Int → Prop} {f : Int → Tm} {c : Nat} (h : ∀ i, P i → lv (f i) ≤ c) : ∀ t : Tm, ok P t → lv (put f t) ≤ lv t * c
  | .var i, k => by simpa [put, lv] using h i k
  | .op _ ts, k => by simpa [put, lv] using lvs_puts h ts k.2.2
theorem lvs_puts {P : Int → Prop} {f : Int → Tm} {c : Nat} (h : ∀ i, P i → lv (f i) ≤ c) : ∀ ts : List Tm, oks P ts → lvs (puts f ts) ≤ lvs ts * c
  | [], _ => by simp [puts, lvs]
  | t :: ts, k => by
    have h1 := lv_put h t k.1
    have h2 := lvs_puts h ts k.2
    simp only [puts, lvs, Nat.add_mul]
    omega
end
mutual
theorem put_congr {f g : Int → Tm} : ∀ t : Tm, (∀ i ∈ leaves t, f i = g i) → put f t = put g t
  | .var i, h => h i (by simp [leaves])
  | .op x ts, h => by
    show Tm.op x (puts f ts) = .op x (puts g ts)
    rw [puts_congr ts fun i hi => h i (by simpa [leaves] using hi)]
theorem puts_congr {f g : Int → Tm} : ∀ ts : List Tm, (∀ i ∈ leavesL ts, f i = g i) → puts f ts = puts g ts
  | [], _ => rfl
  | t :: ts, h => by
    show put f t :: puts f ts = put g t :: puts g ts
    rw [put_congr t fun i hi => h i (by simp [leavesL, hi]), puts_congr ts fun i hi => h i (by simp [leavesL, hi])]
end
theorem small {P : Int → Prop} : ∀ (n : Nat) (t : Tm), ok P t → dep t ≤ n → lv t ≤ 3 ^ n ∧ cst t + 48 ≤ 48 * 3 ^ n
  | 0, .var i, _, _ => by simp [lv, cst]
  | 0, .op x ts, _, h => by simp [dep] at h
  | n + 1, .var i, _, _ => by
    have := Nat.one_le_pow (n + 1) 3 (by decide)
    simp only [lv, cst]
    omega
  | n + 1, .op x ts, k, h => by
    have hd : ∀ t ∈ ts, dep t ≤ n := deps_le.mp (by simp only [dep] at h; omega)
    have ho := oks_iff.mp k.2.2
    have hl := k.2.1
    have ih : ∀ t ∈ ts, lv t ≤ 3 ^ n ∧ cst t + 48 ≤ 48 * 3 ^ n := fun t ht => small n t (ho t ht) (hd t ht)
    have h1 := Nat.one_le_pow n 3 (by decide)
    rw [Nat.pow_succ]
    simp only [lv, cst]
    match ts, hl, ih with
    | [], _, _ => simp only [lvs, csts]; omega
    | [a], _, ih =>
      have := ih a (by simp)
      simp only [lvs, csts]; omega
    | [a, b], _, ih =>
      have := ih a (by simp)
      have := ih b (by simp)
      simp only [lvs, csts]; omega
    | [a, b, c], _, ih =>
      have := ih a (by simp)
      have := ih b (by simp)
      have := ih c (by simp)
      simp only [lvs, csts]; omega
end Tm
mutual
theorem imm_d : ∀ t : Tm, imm t.d = true
  | .var _ => by simp [Tm.d, imm]
  | .op _ ts => by simp [Tm.d, imm, immAll, imm_ds ts]
theorem imm_ds : ∀ ts : List Tm, immAll (Tm.ds ts) = true
  | [] => by simp [Tm.ds, immAll]
  | t :: ts => by simp [Tm.ds, immAll, imm_d t, imm_ds ts]
end
end Fm
namespace Fm
open PySem PySem.Spec PyProof.Rows L2
structure TV (t : TE) (σ : L2.St) (H : Hp) (v : V) : Prop where
  go : ∀ Q : VK, Q v H → t σ H Q
structure TB (t : TT) (σ : L2.St) (H : Hp) (b : Bool) : Prop where
  go : ∀ Q : Bool → Hp → Prop, Q b H → t σ H Q
theorem vint_eq {i j : Int} : decide (V.int i = V.int j) = decide (i = j) := by
  by_cases e : i = j
  · rw [e, decide_eq_true rfl, decide_eq_true rfl]
  · rw [decide_eq_false e, decide_eq_false fun z => e (V.int.inj z)]
section
variable {K : PySem.W.Frag} {σ : L2.St} {H : Hp} {ta tb : TE} {t u : TT} {a b : Bool} {i j : Int} {x y v : V} {Q : VK}
theorem tv_var {m : Nat} (h : σ[m]? = some (some v)) : TV (tVar m) σ H v := ⟨fun Q q => ⟨v, h, q⟩⟩
theorem tv_c : TV (tC v) σ H v := ⟨fun Q q => q⟩
theorem tv_I {g : Int → Int → V} (ha : TV ta σ H (.int i)) (hb : TV tb σ H (.int j)) : TV (tOp (rI0 g) ta tb) σ H (g i j) := ⟨fun Q q => ha.go _ (hb.go _ ⟨i, j, rfl, rfl, q⟩)⟩
theorem tv_eq (ha : TV ta σ H x) (hb : TV tb σ H y) (hs : scal x y = true) : TV (tOp (rEqG K) ta tb) σ H (.bl (decide (x = y))) := ⟨fun Q q => ha.go _ (hb.go _ (Or.inl ⟨hs, q⟩))⟩
theorem tv_eqI (ha : TV ta σ H (.int i)) (hb : TV tb σ H (.int j)) : TV (tOp (rEqG K) ta tb) σ H (.bl (decide (i = j))) := by
  rw [← vint_eq]
  exact tv_eq ha hb rfl
theorem tb_test (h : TV ta σ H (.bl a)) : TB (tTest ta) σ H a := ⟨fun Q q => h.go _ ⟨a, rfl, q⟩⟩
theorem tb_and (h : TB t σ H a) (k : TB u σ H b) : TB (tAnd t u) σ H (a && b) := ⟨fun Q q => h.go _ (by
  cases a with
  | true => exact k.go _ q
  | false => exact q)⟩
theorem tb_or (h : TB t σ H a) (k : TB u σ H b) : TB (tOr t u) σ H (a || b) := ⟨fun Q q => h.go _ (by
  cases a with
  | true => exact q
  | false => exact k.go _ q)⟩
theorem st_if {c : TT} {t u : TS} {D : Ends} (h : TB c σ H b) (h1 : b = true → t D σ H) (h2 : b = false → u D σ H) : tIfS c t u D σ H := h.go _ (by
  cases b with
  | true => exact h1 rfl
  | false => exact h2 rfl)
def isInt : PyData → Bool
  | .int _ => true
  | .bool _ => true
  | _ => false
theorem tyx_dp {d : PyData} (h : Dp K H v d) (hd : imm d = true) : ∃ t : String, TyX K H v (.type t) ∧ (t = "int" ∧ (∃ i, d = .int i) ∨ t = "bool" ∧ (∃ b, d = .bool b) ∨ t = "str" ∧ (∃ x, d = .str x) ∨ t = "NoneType" ∧ d = .none ∨ t = "tuple" ∧ (∃ ds, d = .tuple ds)) := by
  cases h with
  | non => exact ⟨_, .base .non, .inr (.inr (.inr (.inl ⟨rfl, rfl⟩)))⟩
  | bl b => exact ⟨_, .base (.bl b), .inr (.inl ⟨rfl, b, rfl⟩)⟩
  | int i => exact ⟨_, .base (.int i), .inl ⟨rfl, i, rfl⟩⟩
  | str x => exact ⟨_, .base (.str x), .inr (.inr (.inl ⟨rfl, x, rfl⟩))⟩
  | lst h1 h2 => simp [imm] at hd
  | tup h1 h2 =>
    refine ⟨"tuple", ?_, .inr (.inr (.inr (.inr ⟨rfl, _, rfl⟩)))⟩
    rcases h1 with (h1 | ⟨o, h1⟩) | ⟨o, its, n, hk, hc, _⟩
    · exact .base (.tup h1)
    · exact .fTuple h1
    · exact .kTuple hk hc
theorem kit_i1 : kitB "int" "int" = some true := by decide +kernel
theorem kit_i2 : kitB "bool" "int" = some true := by decide +kernel
theorem kit_i3 : kitB "str" "int" = some false := by decide +kernel
theorem kit_i4 : kitB "NoneType" "int" = some false := by decide +kernel
theorem kit_i5 : kitB "tuple" "int" = some false := by decide +kernel
theorem rd_isInt {d : PyData} (h : Im K H v d) (q : Q (.bl (isInt d)) H) : rIsi K [v, .ty "int"] H Q := by
  obtain ⟨t, ht, k⟩ := tyx_dp h.dp h.im
  refine ⟨v, .ty "int", _, _, isInt d, rfl, .ty "int", ht, ?_, q⟩
  rcases k with ⟨rfl, i, rfl⟩ | ⟨rfl, i, rfl⟩ | ⟨rfl, i, rfl⟩ | ⟨rfl, rfl⟩ | ⟨rfl, i, rfl⟩
  · exact kit_ty kit_i1
  · exact kit_ty kit_i2
  · exact kit_ty kit_i3
  · exact kit_ty kit_i4
  · exact kit_ty kit_i5
theorem rd_cat {a b : Addr} {xs ys : List V} (ha : SqT K H a xs) (hb : SqT K H b ys) (hs : xs.length + ys.length ≤ sizeLine)
    (h : ∀ p H', Mv [] H H' → SqT K H' p (xs ++ ys) → Q (.ref p) H') : rAddG K (.ref a) (.ref b) H Q := by
  refine Or.inr (Or.inr (Or.inl ⟨a, b, xs, ys, rfl, rfl, ha, hb, hs, fun e => ?_, fun _ e => ?_, fun _ _ p np => ?_⟩))
  · subst e
    exact h b H .refl hb
  · subst e
    exact h a H .refl (by rw [List.append_nil]; exact ha)
  · exact h p _ (.new np) (.inl (.inl upd_same))
theorem rd_catL {a b : Addr} {xs ys : List V} (ha : H a = some (.lst xs)) (hb : H b = some (.lst ys)) (hs : xs.length + ys.length ≤ sizeLine)
    (h : ∀ p H', H p = none → Mv [] H H' → H' p = some (.lst (xs ++ ys)) → Q (.ref p) H') : rAddG K (.ref a) (.ref b) H Q :=
  Or.inr (Or.inr (Or.inr ⟨a, b, xs, ys, rfl, rfl, ha, hb, hs, fun p np => h p _ np (.new np) upd_same⟩))
theorem rd_ixL {a : Addr} {xs : List V} {i : Int} {v : V} (ha : SqL K H a xs) (h0 : 0 ≤ i) (hv : xs[i.toNat]? = some v) (h : Q v H) : rIx K (.ref a) (.int i) H Q := by
  obtain ⟨j, rfl⟩ := Int.eq_ofNat_of_zero_le h0
  exact Or.inl ⟨a, xs, j, v, rfl, rfl, ha, atI_nat hv, h⟩
theorem rd_ixT {a : Addr} {xs : List V} {i : Int} {v : V} (ha : SqT K H a xs) (h0 : 0 ≤ i) (hv : xs[i.toNat]? = some v) (h : Q v H) : rIx K (.ref a) (.int i) H Q := by
  obtain ⟨j, rfl⟩ := Int.eq_ofNat_of_zero_le h0
  exact Or.inr (Or.inl ⟨a, xs, j, v, rfl, rfl, ha, atI_nat hv, h⟩)
theorem rd_len {a : Addr} {xs : List V} (ha : SqL K H a xs ∨ SqT K H a xs) (h : Q (.int xs.length) H) : rLenG K [.ref a] H Q := Or.inl ⟨a, xs, rfl, ha, h⟩
theorem rd_tupOf {a : Addr} {xs : List V} (ha : SqL K H a xs) (h : ∀ p H', Mv [] H H' → SqT K H' p xs → Q (.ref p) H') : rTupOf K [.ref a] H Q :=
  ⟨a, xs, rfl, .inl ⟨ha, fun p np => h p _ (.new np) (.inl (.inl upd_same))⟩⟩
theorem rd_listOf {a : Addr} {xs : List V} (ha : SqL K H a xs ∨ SqT K H a xs) (h : ∀ p H', H p = none → Mv [] H H' → H' p = some (.lst xs) → Q (.ref p) H') : rListOf K [.ref a] H Q :=
  ⟨a, xs, rfl, ha, fun p np => h p _ np (.new np) upd_same⟩
theorem rd_sl1 {a : Addr} {x : V} {xs : List V} (ha : SqT K H a (x :: xs)) (h : ∀ p H', Mv [] H H' → SqT K H' p xs → Q (.ref p) H') : rSlG K (.ref a) (some 1) none H Q := by
  have e : HT.sIx (x :: xs).length 0 (some 1) = 1 := by
    rw [show HT.sIx (x :: xs).length 0 (some 1) = min 1 (x :: xs).length from HT.sIx_nat _ 0 1, List.length_cons]
    omega
  refine Or.inr (Or.inl ⟨a, x :: xs, rfl, ha, fun z => ?_, fun _ p np => h p _ (.new np) (.inl (.inl ?_))⟩)
  · rw [e] at z
    omega
  · rw [upd_same]
    unfold cutV
    rw [e, HT.sIx_none, List.length_cons, Nat.add_sub_cancel]
    show some (HO.tup (xs.take xs.length)) = _
    rw [List.take_length]
theorem rd_slA {a : Addr} {x : V} {xs : List V} (ha : SqT K H a (x :: xs)) (h : ∀ p H', Mv [] H H' → SqT K H' p [x] → Q (.ref p) H') : rSlG K (.ref a) none (some 1) H Q := by
  have e : HT.sIx (x :: xs).length (x :: xs).length (some 1) = 1 := by
    rw [show HT.sIx (x :: xs).length (x :: xs).length (some 1) = min 1 (x :: xs).length from HT.sIx_nat _ _ 1, List.length_cons]
    omega
  refine Or.inr (Or.inl ⟨a, x :: xs, rfl, ha, fun z => ?_, fun _ p np => h p _ (.new np) (.inl (.inl ?_))⟩)
  · rw [e] at z
    have e0 : xs = [] := by
      cases xs with
      | nil => rfl
      | cons y ys =>
        have := z.2
        simp at this
    subst e0
    exact h a H .refl ha
  · rw [upd_same]
    unfold cutV
    rw [e, HT.sIx_none]
    rfl
end
section
variable {K : PySem.W.Frag} {a : Addr} {xs : List V}
theorem lc_seq {g : TG} {tt : TT} {te : TE} {vs : List Nat} {σ : L2.St} {H : Hp} {Qd : Addr → Hp → Prop} (hS : SqL K H a xs ∨ SqT K H a xs) (Pv : Nat → Addr → Hp → Prop) (h0 : ∀ D, H D = none → Pv 0 D (upd H D (.lst [])))
    (hk : ∀ i D H', H D = none → Pv i D H' → Mv [] H H')
    (hs : ∀ D, H D = none → ∀ i x H', xs[i]? = some x → Pv i D H' → g x (wipe σ vs) H' fun σ2 H2 => wipe σ2 vs = wipe σ vs ∧ tt σ2 H2 fun b H3 =>
      if b = true then te σ2 H3 fun y H4 => ∃ acc, H4 D = some (.lst acc) ∧ acc.length < sizeLine ∧ Pv (i + 1) D (upd H4 D (.lst (acc ++ [y]))) else Pv (i + 1) D H3) (hd : ∀ D H', H D = none → Pv xs.length D H' → Qd D H') :
    ((∃ xs, SqL K H a xs) ∧ ∀ D, H D = none → ∃ W : Nat → Nat → Hp → Prop, (∃ m, W 0 m (upd H D (.lst []))) ∧ ∀ i m H, W i m H →
      ((Itl K a).stop i H ∧ Qd D H) ∨ ((Itl K a).go i H ∧ ∃ Nx : Hp → Prop, (∀ H', Nx H' → ∃ m', m' < m ∧ W (i + 1) m' H') ∧ ∀ x H', (Itl K a).yld i H x H' → g x (wipe σ vs) H' fun σ2 H2 => wipe σ2 vs = wipe σ vs ∧ tt σ2 H2 fun b H3 =>
        if b = true then te σ2 H3 fun y H4 => ∃ acc, H4 D = some (.lst acc) ∧ acc.length < sizeLine ∧ Nx (upd H4 D (.lst (acc ++ [y]))) else Nx H3)) ∨
    ((∃ xs, SqT K H a xs) ∧ ∀ D, H D = none → ∃ W : Nat → Nat → Hp → Prop, (∃ m, W 0 m (upd H D (.lst []))) ∧ ∀ i m H, W i m H →
      ((Itt K a).stop i H ∧ Qd D H) ∨ ((Itt K a).go i H ∧ ∃ Nx : Hp → Prop, (∀ H', Nx H' → ∃ m', m' < m ∧ W (i + 1) m' H') ∧ ∀ x H', (Itt K a).yld i H x H' → g x (wipe σ vs) H' fun σ2 H2 => wipe σ2 vs = wipe σ vs ∧ tt σ2 H2 fun b H3 =>
        if b = true then te σ2 H3 fun y H4 => ∃ acc, H4 D = some (.lst acc) ∧ acc.length < sizeLine ∧ Nx (upd H4 D (.lst (acc ++ [y]))) else Nx H3)) := by
  rcases hS with hS | hS
  · exact .inl ⟨⟨xs, hS⟩, fun D nD => lc_list (Pv · D) (h0 D nD) (fun i H' _ p => (hk i D H' nD p).same.seq hS) (hs D nD) (fun H' p => hd D H' nD p)⟩
  · exact .inr ⟨⟨xs, hS⟩, fun D nD => lc_tup (Pv · D) (h0 D nD) (fun i H' _ p => (hk i D H' nD p).sqT hS) (hs D nD) (fun H' p => hd D H' nD p)⟩
end
section
variable {K : PySem.W.Frag} {H : Hp} {Q : VK}
end
end Fm
namespace Fm
open PySem PySem.Spec PyProof.Rows L2 HT
section
variable {prog : Program} {w : World} {A : Around} {E : Value → Shared → Prop} {s : Shared}
theorem back_adjust (n : Nat) : Builtin.Slice.sliceAdjust none (some 0) (-1) (n : Int) = ((n : Int) - 1, min 0 ((n : Int) - 1)) := by
  unfold Builtin.Slice.sliceAdjust
  simp only [show ((-1 : Int) < 0) from by decide, if_true, show ¬ ((0 : Int) < 0) from by decide, if_false]
theorem back_places (n : Nat) : Builtin.Slice.slicePlaces ((n : Int) - 1) (min 0 ((n : Int) - 1)) (-1) = n - 1 := by
  unfold Builtin.Slice.slicePlaces
  simp only [show ¬ ((-1 : Int) > 0) from by decide, if_false, show (- -1 : Int) = 1 from by decide, Int.ediv_one]
  split <;> omega
theorem back_applied {sl : Addr} {vu vs : Value} {n : Nat} {Q : Int × Int × Nat → Shared → Prop} (hs : s.heap.IsSliceOf sl .none vu vs) (pu : IsPart vu (some 0)) (ps : IsPart vs (some (-1)))
    (h : Q ((n : Int) - 1, -1, n - 1) s) : wpAny (model prog w) A (Builtin.Slice.sliceApplied (.ref sl) (pure (n : Int))) Q E s := by
  obtain ⟨os, hos, hcs, hds⟩ := id hs
  unfold Builtin.Slice.sliceApplied Builtin.Slice.sliceFields
  refine wpAny_bind (wpAny_bind (wpAny_field hos hds (x := .none) rfl (wpAny_bind (wpAny_field hos hds (x := vu) rfl (wpAny_bind (wpAny_field hos hds (x := vs) rfl (wpAny_pure ?_)))))))
  refine wpAny_bind (slicePart_ ps ?_)
  show wpAny _ _ (if ((-1 : Int) == 0) = true then _ else _) _ _ s
  rw [if_neg (by decide)]
  refine wpAny_bind (slicePart_none (wpAny_bind (slicePart_ pu (wpAny_bind (wpAny_pure ?_)))))
  show wpAny _ _ (match Builtin.Slice.sliceAdjust none (some 0) (-1) (n : Int) with | (lo, hi) => pure (lo, (-1 : Int), Builtin.Slice.slicePlaces lo hi (-1))) _ _ s
  rw [back_adjust n]
  show wpAny _ _ (pure ((n : Int) - 1, (-1 : Int), Builtin.Slice.slicePlaces ((n : Int) - 1) (min 0 ((n : Int) - 1)) (-1))) _ _ s
  rw [back_places]
  exact wpAny_pure h
theorem fm_congr {α β : Type} {f g : α → Option β} : ∀ {l : List α}, (∀ m ∈ l, f m = g m) → l.filterMap f = l.filterMap g
  | [], _ => rfl
  | x :: l, h => by
    rw [List.filterMap_cons, List.filterMap_cons, h x List.mem_cons_self, fm_congr fun m hm => h m (List.mem_cons_of_mem _ hm)]
theorem back_pick (y : Value) (l : List Value) : ((List.range l.length).filterMap fun (m : Nat) => (y :: l).toArray[((((y :: l).toArray.size : Nat) : Int) - 1 + (m : Int) * (-1)).toNat]?).toArray = l.reverse.toArray := by
  congr 1
  have e : ∀ m ∈ List.range l.length, (y :: l).toArray[((((y :: l).toArray.size : Nat) : Int) - 1 + (m : Int) * (-1)).toNat]? = l[l.length - 1 - m]? := by
    intro m hm
    have hm := List.mem_range.mp hm
    have e1 : ((((y :: l).toArray.size : Nat) : Int) - 1 + (m : Int) * (-1)).toNat = (l.length - 1 - m) + 1 := by
      simp only [List.size_toArray, List.length_cons]
      omega
    rw [e1]
    simp
  rw [fm_congr e]
  apply List.ext_getElem?
  intro i
  have e2 : (List.range l.length).filterMap (fun m => l[l.length - 1 - m]?) = (List.range l.length).filterMap (fun m => l.reverse[m]?) := by
    apply fm_congr
    intro m hm
    have hm := List.mem_range.mp hm
    rw [List.getElem?_reverse hm]
  rw [e2]
  have e3 : (List.range l.length).filterMap (fun m => l.reverse[m]?) = l.reverse := by
    have := PySem.W.krv_all l.reverse.toArray
    simpa using this
  rw [e3]
theorem getItem_back {t sl : Addr} {y : Value} {l : List Value} {vu vs : Value} {Q : Value → Shared → Prop} (ht : IsTup s.heap t (y :: l).toArray) (hs : s.heap.IsSliceOf sl .none vu vs) (pu : IsPart vu (some 0)) (ps : IsPart vs (some (-1)))
    (hz : l.length ≤ sizeLine) (h : Q (.ref s.heap.objs.size) { s with heap := s.heap.push { cls := .type "tuple", data := .seq l.reverse.toArray } }) : wpAny (model prog w) A (getItem (.ref t) (.ref sl)) Q E s := by
  obtain ⟨os, hos, hcs, hds⟩ := id hs
  have hTs : s.TypeIs (.ref sl) "slice" := ⟨os, hos, hcs⟩
  have hfit : sizeOk (.seq l.reverse.toArray) := by
    show l.reverse.toArray.size ≤ sizeLine
    rw [List.size_toArray, List.length_reverse]
    exact hz
  unfold getItem
  try with_reducible refine wpAny_holding ?_
  first | refine wpAny_bind (wpAny_pure ?_) | skip
  refine wpAny_bind (wpAny_sequenceKey ht.typeIs (by decide) ?_)
  refine wpAny_bind (wpAny_callSpecial?_slot (name := Str.ofString "__getitem__") ht.typeIs PyProof.Rows.slot_tuple_getitem
    (wpAny_call_entry PyProof.Rows.slot_tuple_getitem ht.typeIs entry_tuple_getitem ?_ (args_tuple_getitem _ _)))
  show wpAny _ _ (Builtin.Tuple.tupleItemsOf (.ref t) >>= _) _ _ s
  refine wpAny_bind (tupleItemsOf_ ht (wpAny_bind (wpAny_typeOf hTs ?_)))
  rw [if_pos (by decide)]
  refine wpAny_bind (back_applied hs pu ps ?_)
  have hno : ¬ (((((y :: l).toArray.size : Nat) : Int) - 1 == 0 && (-1 : Int) == 1 && ((y :: l).toArray.size - 1) == (y :: l).toArray.size) = true) := by
    simp
  show wpAny _ _ (if ((((y :: l).toArray.size : Nat) : Int) - 1 == 0 && (-1 : Int) == 1 && ((y :: l).toArray.size - 1) == (y :: l).toArray.size) = true then _ else _) _ _ s
  rw [if_neg hno]
  have e : (y :: l).toArray.size - 1 = l.length := by simp
  rw [e, back_pick]
  first
    | exact wpAny_bind (m := Builtin.Tuple.tupleExact _) (wpAny_newObj_type (wpAny_pure ⟨_, rfl, wpAny_pure h⟩) hfit)
    | exact wpAny_bind (m := Builtin.Tuple.tupleExact _) (wpAny_newObj_type (wpAny_bind (wpAny_pure (wpAny_pure ⟨_, rfl, wpAny_pure h⟩))) hfit)
    | exact wpAny_bind (wpAny_bind (m := Builtin.Tuple.tupleExact _) (wpAny_newObj_type (wpAny_pure (wpAny_pure ⟨_, rfl, wpAny_pure h⟩)) hfit))
    | exact wpAny_bind (wpAny_bind (m := Builtin.Tuple.tupleExact _) (wpAny_newObj_type (wpAny_pure ⟨_, rfl, wpAny_pure h⟩) hfit))
end
section
variable {X : Cx}
def tBack (K : PySem.W.Frag) (te : TE) : TE := fun σ H Q => te σ H fun x H1 => ∃ a y ys, x = .ref a ∧ SqT K H1 a (y :: ys) ∧ ∀ p, H1 p = none → Q (.ref p) (upd H1 p (.tup ys.reverse))
theorem pe_slice3 {e : Expr} {te : TE} {k k0 : Nat} {p0 p1 p2 p3 pos : Pos} (he : PE X e te) :
    PE X (.Subscript e (.Slice none (some (.Constant (.int 0) k0 p0)) (some (.UnaryOp .USub (.Constant (.int 1) k p1) p2)) p3) pos) (tBack X.K te) := by
  refine ⟨fun pins s σ H Q I h => Subscript_ (thn (he.run pins s σ H _ I h) ?_)⟩
  rintro v s1 ⟨x, H1, I1, r1, a, y, ys, rfl, hx, q⟩
  cases r1
  have hup : PO X (some (.Constant (.int 0) k0 p0)) (tPart (tC (.int 0))) := po_some pe_int
  have hst : PO X (some (.UnaryOp .USub (.Constant (.int 1) k p1) p2)) (tPart (tUn (rU fun i => .int (-i)) (tC (.int 1)))) := po_some (pe_un un_neg pe_int)
  refine wpAny_Slice (thn (po_none.run pins s1 σ H1 (fun o H2 => o = none ∧ H2 = H1) I1 ⟨rfl, rfl⟩) ?_)
  rintro vl s2 ⟨l, H2, I2, pl, rfl, rfl⟩
  refine thn (hup.run pins s2 σ H2 (fun o H3 => o = some 0 ∧ H3 = H2) I2 ⟨0, rfl, rfl, rfl⟩) ?_
  rintro vu s3 ⟨u, H3, I3, pu, rfl, rfl⟩
  refine thn (hst.run pins s3 σ H3 (fun o H4 => o = some (-1) ∧ H4 = H3) I3 ⟨1, rfl, -1, rfl, rfl, rfl⟩) ?_
  rintro vs s4 ⟨o, H4, I4, ps, rfl, rfl⟩
  have I5 : Inv X pins σ H4 { s4 with heap := s4.heap.push { cls := .type "slice", data := .fields #[vl, vu, vs] } } := I4.kept (t' := s4.toks) fun b ob q => Heap.get?_push_of_some _ q
  obtain ⟨its, r, ht, hz⟩ := I5.tuple hx
  cases pl
  cases r with
  | @cons _ uy _ us ry rs =>
    have hl := rs.length
    show wpAny (model X.prog X.w) X.A (subscriptTail e (.Slice none (some (.Constant (.int 0) k0 p0)) (some (.UnaryOp .USub (.Constant (.int 1) k p1) p2)) p3) (.ref a) (.ref s4.heap.objs.size)) (EP X pins σ Q) X.xe { s4 with heap := s4.heap.push { cls := .type "slice", data := .fields #[.none, vu, vs] } }
    refine tail_any (ops := [.ref a, .ref s4.heap.objs.size]) ht.typeIs (PyProof.Rows.slot_tuple_getitem.lookup) ?_ (by with_unfolding_all rfl)
    have hz' : us.length ≤ sizeLine := by
      rw [List.length_cons] at hz
      omega
    refine getItem_back ht (Heap.IsSliceOf.new _ .none vu vs) pu ps hz' ?_
    refine ⟨.ref _, _, I5.laid (t' := s4.toks) (o := .tup ys.reverse) (fun b ob q => Heap.get?_push_of_some _ q) (Nat.le_refl _) ?_, rfl, q _ (I5.hok.fresh (Nat.le_refl _))⟩
    exact ⟨by rw [List.length_reverse]; omega, _, Vals.reverse rs, IsTup.new _ _⟩
end
end Fm
namespace Fm
open PySem PySem.Spec PyProof.Rows L2
section
variable {P : Program} {w : World} {A : Around} {E : Value → Shared → Prop} {s : Shared}
abbrev eset (w : World) : Obj := { cls := .type "set", dict := none, data := .set #[] 0 (.fresh 0 0 (!w.params.followText "set-order")) }
abbrev hset (w : World) (h : Heap) : Heap := h.push (eset w)
set_option maxHeartbeats 8000000 in
theorem set_of_list {l : Addr} {its : Array Value} (ns : List Int) {Q : Value → Shared → Prop} (hh : A.handled = none) (hl : s.heap.IsList l its) (hi : IntsAre its.toList ns) (hb : ns.length + 1 < scanBound)
    (h : ∀ (g : Heap) (tk c : Nat), SetR w g s.heap.objs.size (fun j => decide (j ∈ ns)) c → (∀ b o, s.heap.get? b = some o → g.get? b = some o) → Q (.ref s.heap.objs.size) { s with heap := g, toks := tk }) :
    wpAny (model P w) A (call (.type "set") [.ref l]) Q E s := by
  have hn : its.size = ns.length := by rw [← Array.length_toList]; exact IntsAre.length hi
  obtain ⟨mc, mt, mro⟩ := F.called_set.mro
  have mk1 := F.called_set.made
  have mk2 := F.called_set.sub
  refine wpAny_call (codeAny_of_tree (show wpAny _ _ (callAny (.type "set") _) _ _ _ from wpAny_pure ⟨Code.quiet_builtin _ (by decide +kernel), codeAny_builtin F.entry_type_call ?_⟩))
  rw [Around.under_plain (weight_type_call_type "set" [.ref l] []) rfl]
  have mk3 := F.called_set.notType
  have mk4 := F.called_set.canCreate
  have mk5 := F.typeCall_set_1 (.ref l)
  repeat (any_goals (first | assumption | wp_step))
  refine codeAny_mono (code_set_led1 (w := w) (s := s) (.ref l) (E := E)
    (Q₁ := fun obj s₁ => obj = .ref s.heap.objs.size ∧ s₁ = { s with heap := hset w s.heap }) ⟨rfl, rfl⟩) fun r s₁ hr => ?_
  match r, hr with
  | .error e, hr => exact hr
  | .ok (.ret obj), hr =>
    obtain ⟨rfl, rfl⟩ := hr
    have here : (hset w s.heap).get? s.heap.objs.size = some (eset w) := Heap.get?_push_size _ rfl
    have isS : Shared.TypeIs { s with heap := hset w s.heap } (.ref s.heap.objs.size) "set" := ⟨_, here, rfl⟩
    have in1 := F.called_set.init.lookup
    have in2 := F.called_set.init.bind (.ref s.heap.objs.size)
    repeat (any_goals (first | assumption | wp_step))
    have goes : codeAny (model P w) A.in1 (.call (.builtin "set.__init__") ⟨[.ref s.heap.objs.size, .ref l], []⟩) (wants (fun r s₂ => r = .none ∧ ∃ g tk c,
        s₂ = { s with heap := g, toks := tk } ∧ SetR w g s.heap.objs.size (fun j => decide (j ∈ ns)) c ∧ ∀ b o, s.heap.get? b = some o → g.get? b = some o) E) { s with heap := hset w s.heap } := by
      refine codeAny_call_builtin F.called_set.init.plain F.entry_set_init (check_set_init_1 isS ?_)
      obtain ⟨⟨oc, od, dt, sl⟩, hol, hcl, nl, hdl⟩ := id hl
      simp only at hcl hdl
      subst hcl hdl
      have lt := Heap.lt_size hol
      have hol2 : (hset w s.heap).get? l = some _ := Heap.get?_push_of_some _ hol
      have hl2 : (hset w s.heap).IsList l its := ⟨_, hol2, rfl, nl, rfl⟩
      have no1 := F.sub_list_set
      have no2 := F.sub_list_frozenset
      have no3 : (Value.type "list" == Value.type "dict") = false := by decide
      unfold Builtin.«set.__init__» noKeywords Builtin.Frozenset.updateFrom
      generalize hPI : pyIter = PI
      wp_walk
      subst hPI
      refine wpAny_pyIter_list hl2 (wpAny_bind (wpAny_runValue ?_))
      have sz2 : (hset w s.heap).objs.size = s.heap.objs.size + 1 := Heap.size_push ..
      have neI : l ≠ (hset w s.heap).objs.size := by
        rw [sz2]
        exact Nat.ne_of_lt (Nat.lt_succ_of_lt lt)
      have notIn : s.heap.objs.size ∉ [(hset w s.heap).objs.size, l] := by
        rw [sz2]
        intro z
        rcases List.mem_cons.mp z with z | z
        · exact Nat.ne_of_lt (Nat.lt_succ_self _) z
        · exact Nat.ne_of_gt lt (List.mem_singleton.mp z)
      have val : ∀ (i : Nat) (v : Value), its[i]? = some v → ∃ k t, ns[i]? = some k ∧ v = .int k t := fun i v hv => by
        have hi' : i < ns.length := by
          rw [← hn]
          exact (Array.getElem?_eq_some_iff.mp hv).1
        obtain ⟨t, e⟩ := PyProof.Rows.IntsAre.int_at hi i v (by rw [Array.getElem?_toList]; exact hv)
        have e2 : ns.getD i 0 = ns[i] := by rw [List.getD_eq_getElem?_getD, List.getElem?_eq_getElem hi']; rfl
        exact ⟨ns[i], t, List.getElem?_eq_getElem hi', by rw [e, e2]⟩
      have hh3 : A.in1.in1.in1.handled = none := by simp [hh]
      refine set_update_ints ((Walks.list hh3 _ l neI its).toS) s.heap.objs.size notIn ns hn hb val (its.size - 0) 0 _ (by omega) (Nat.zero_le _) ?st ?s0 ?fin
      case st => exact ⟨⟨_, Heap.get?_push_size _ rfl, rfl, rfl⟩, hl2.push _⟩
      case s0 => exact ⟨0, Nat.le_refl 0, setR_new_at (Heap.get?_push_of_some _ here)⟩
      case fin =>
        rintro ⟨g, gg, dd, tk, oo⟩ c' mv hc' hS'
        have e1 : gg = s.gens := mv.gens
        have e2 : dd = s.drawn := mv.drawn
        have e3 : oo = s.os := mv.os
        subst e1 e2 e3
        refine wpAny_pure (show wpAny _ _ (ret Value.none) _ _ _ from wpAny_pure ⟨rfl, g, tk, c', rfl, hS', fun b o e => ?_⟩)
        have b0 := Heap.lt_size e
        refine mv.heap b o (fun z => ?_) (Heap.get?_push_of_some _ (Heap.get?_push_of_some _ e))
        rcases List.mem_cons.mp z with z | z
        · exact Nat.ne_of_lt b0 z
        · have z2 := List.mem_singleton.mp z
          rw [sz2] at z2
          exact Nat.ne_of_lt (Nat.lt_succ_of_lt b0) z2
    refine codeAny_mono goes fun r₂ s₂ hr₂ => ?_
    match r₂, hr₂ with
    | .error e, hr₂ => exact hr₂
    | .ok (.ret r), hr₂ =>
      obtain ⟨rfl, g, tk, c', rfl, hS', hk'⟩ := hr₂
      repeat (any_goals (first | assumption | wp_step))
      exact h _ _ _ hS' hk'
end
section
variable {X : Cx}
def rSetOfL (K : PySem.W.Frag) (w : World) : List V → Hp → VK → Prop := fun xs H Q => ∃ (l : Addr) (ns : List Int), xs = [V.ref l] ∧ SqL K H l (ns.map V.int) ∧ ns.length ≤ 4000 ∧
  ∀ p (n : Nat) (ks : List Int), H p = none → ks.Nodup → ks.length = n → (∀ k, k ∈ ks ↔ k ∈ ns) → Q (.ref p) (upd H p (SetO w p (fun j => decide (j ∈ ns)) n))
end
end Fm
namespace Fm
open PySem PySem.Spec PyProof.Rows L2
mutual
def fine : PyData → Prop
  | .none => True
  | .bool _ => True
  | .int i => i.natAbs < 10 ^ 40
  | .str x => PyData.strOk x = true
  | .list xs => fineAll xs
  | .tuple xs => fineAll xs
  | .dict _ => False
def fineAll : List PyData → Prop
  | [] => True
  | x :: xs => fine x ∧ fineAll xs
end
mutual
def wl : PyData → Nat
  | .none => 4
  | .bool _ => 5
  | .int _ => 41
  | .str x => 10 * x.length + 2
  | .list xs => wls xs + 2
  | .tuple xs => wls xs + 2
  | .dict _ => 0
def wls : List PyData → Nat
  | [] => 0
  | x :: xs => wl x + 2 + wls xs
end
theorem listText_le : ∀ ts : List Str, (listText ts).length ≤ piled ts + 2
  | [] => by rw [listText_nil]; decide
  | t :: r => by
    have h := textFrom_length_pos r 1 (("[" : Str) ++ ("" : String) ++ t) (Nat.succ_pos 0)
    have e : ((("[" : Str) ++ ("" : String) ++ t)).length = 1 + t.length := by
      rw [strLen_append, strLen_append]
      rfl
    have x1 : (listText (t :: r)).length = (textFrom 1 (("[" : Str) ++ ("" : String) ++ t) r).length + 1 := by
      show (textFrom 1 (("[" : Str) ++ ("" : String) ++ t) r ++ "]").length = _
      rw [strLen_append]
      rfl
    rw [x1, h, e, piled_cons]
    omega
theorem tupleText_le (ts : List Str) : (tupleText ts).length ≤ piled ts + 2 := by
  have e3 : (((if ts.length == 1 then ",)" else ")" : String) : Str)).length ≤ 2 := by split <;> decide +kernel
  have e1 : ((("(" : String) : Str)).length = 1 := rfl
  unfold tupleText
  rw [strLen_append, strLen_append, e1]
  cases ts with
  | nil => decide +kernel
  | cons t r =>
    have := join_length_add (t :: r) (by simp)
    omega
mutual
theorem shown_le : ∀ d : PyData, fine d → d.shown.length ≤ wl d
  | .none, _ => by simp only [PyData.shown]; decide
  | .bool b, _ => by cases b <;> (simp only [PyData.shown]; decide)
  | .int i, h => by
    simp only [PyData.shown, wl]
    rw [PySem.ofString_length]
    exact int_text_length_le10 (k := 40) (by decide) h
  | .str x, h => by
    simp only [PyData.shown, wl]
    refine StrLaws.reprText_len x fun c hc => ?_
    have h' : x.cps.all (· < 0x110000) = true := h
    rw [Array.all_eq_true_iff_forall_mem] at h'
    have := h' c (by simpa using hc)
    simp at this
    omega
  | .list xs, h => by
    have := shown_les xs h
    have := listText_le (PyData.shownAll xs)
    simp only [PyData.shown, wl]
    omega
  | .tuple xs, h => by
    have := shown_les xs h
    have := tupleText_le (PyData.shownAll xs)
    simp only [PyData.shown, wl]
    omega
  | .dict _, h => h.elim
theorem shown_les : ∀ xs : List PyData, fineAll xs → piled (PyData.shownAll xs) ≤ wls xs
  | [], _ => by simp [PyData.shownAll, piled, wls]
  | x :: xs, h => by
    have h1 := shown_le x h.1
    have h2 := shown_les xs h.2
    simp only [PyData.shownAll, wls]
    rw [piled_cons]
    omega
end
mutual
theorem fine_lay : ∀ d : PyData, fine d → d.canLay0 = true ∧ d.showable = true ∧ d.hasDict = false
  | .none, _ => by simp [PyData.canLay0, PyData.showable, PyData.hasDict]
  | .bool b, _ => by simp [PyData.canLay0, PyData.showable, PyData.hasDict]
  | .int i, h => by
    refine ⟨by simp [PyData.canLay0], ?_, by simp [PyData.hasDict]⟩
    have h' : i.natAbs < 10 ^ 40 := h
    have h2 : i.natAbs < 2 ^ 200 := Nat.lt_trans h' (by decide)
    simp only [PyData.showable, decide_eq_true_eq]
    exact Nat.lt_trans (PySem.Flt.log2_lt_of (by decide) h2) (by decide)
  | .str x, h => ⟨by simp only [PyData.canLay0]; exact h, by simp [PyData.showable], by simp [PyData.hasDict]⟩
  | .list xs, h => by simpa [PyData.canLay0, PyData.showable, PyData.hasDict] using fine_lays xs h
  | .tuple xs, h => by simpa [PyData.canLay0, PyData.showable, PyData.hasDict] using fine_lays xs h
  | .dict _, h => h.elim
theorem fine_lays : ∀ xs : List PyData, fineAll xs → PyData.canLayAll0 xs = true ∧ PyData.showableAll xs = true ∧ PyData.hasDictAll xs = false
  | [], _ => by simp [PyData.canLayAll0, PyData.showableAll, PyData.hasDictAll]
  | x :: xs, h => by
    obtain ⟨a, b, c⟩ := fine_lay x h.1
    obtain ⟨a', b', c'⟩ := fine_lays xs h.2
    simp [PyData.canLayAll0, PyData.showableAll, PyData.hasDictAll, a, b, c, a', b', c']
end
structure Shw (d : PyData) : Prop where
  fi : fine d
  dp : d.depth ≤ 60
  wl : wl d ≤ 16000000
theorem Shw.shaped {d : PyData} (h : Shw d) : SeqAt.shaped d = true := by
  show (d.canLay0 && decide (d.depth ≤ 64)) = true
  have := h.dp
  rw [(fine_lay d h.fi).1, decide_eq_true (by omega)]
  rfl
theorem Shw.len {d : PyData} (h : Shw d) : d.shown.length ≤ sizeLine := by
  have := shown_le d h.fi
  have := h.wl
  have e : sizeLine = 16777216 := rfl
  omega
theorem Shw.eqv {d : PyData} (h : Shw d) : PyData.eqv d d = true := SeqAt.eqv_refl d (fine_lay d h.fi).1
theorem eqv_nil (xs : List PyData) : PyData.eqv (.list xs) (.list []) = xs.isEmpty := by
  cases xs <;> simp [PyData.eqv, PyData.eqvAll]
theorem nm_ok {x : Str} (h : Nm x) : PyData.strOk x = true := by
  show x.cps.all (· < 0x110000) = true
  rw [Array.all_eq_true_iff_forall_mem]
  intro c hc
  have := h.2.2 c (by simpa using hc)
  simp
  omega
mutual
theorem fine_d {P : Int → Prop} (h : ∀ i, P i → i.natAbs < 10 ^ 40) : ∀ t : Tm, t.ok P → fine t.d
  | .var i, k => h i k
  | .op x ts, k => by
    simp only [Tm.d, fine, fineAll]
    exact ⟨nm_ok k.1, fine_ds h ts k.2.2⟩
theorem fine_ds {P : Int → Prop} (h : ∀ i, P i → i.natAbs < 10 ^ 40) : ∀ ts : List Tm, Tm.oks P ts → fineAll (Tm.ds ts)
  | [], _ => trivial
  | t :: ts, k => ⟨fine_d h t k.1, fine_ds h ts k.2⟩
end
mutual
theorem depth_d : ∀ t : Tm, t.d.depth = t.dep
  | .var _ => by simp [Tm.d, PyData.depth, Tm.dep]
  | .op _ ts => by simp [Tm.d, PyData.depth, PyData.depthAll, Tm.dep, depth_ds ts]
theorem depth_ds : ∀ ts : List Tm, PyData.depthAll (Tm.ds ts) = Tm.deps ts
  | [] => by simp [Tm.ds, PyData.depthAll, Tm.deps]
  | t :: ts => by simp [Tm.ds, PyData.depthAll, Tm.deps, depth_d t, depth_ds ts]
end
mutual
theorem wl_d {P : Int → Prop} : ∀ t : Tm, t.ok P → wl t.d ≤ t.cst + 41 * t.lv
  | .var _, _ => by simp [Tm.d, wl, Tm.cst, Tm.lv]
  | .op x ts, k => by
    have h1 := wl_ds ts k.2.2
    have h2 := k.1.2.1
    simp only [Tm.d, wl, wls, Tm.cst, Tm.lv]
    omega
theorem wl_ds {P : Int → Prop} : ∀ ts : List Tm, Tm.oks P ts → wls (Tm.ds ts) ≤ Tm.csts ts + 41 * Tm.lvs ts
  | [], _ => by simp [Tm.ds, wls]
  | t :: ts, k => by
    have h1 := wl_d t k.1
    have h2 := wl_ds ts k.2
    simp only [Tm.ds, wls, Tm.csts, Tm.lvs]
    omega
end
end Fm
namespace Fm
open PySem PySem.Spec PyProof.Rows L2
section
variable {P : Program} {w : World} {K : PySem.W.Frag} {mg mb : Str → Option Value} {k : Nat} {fa a : Addr} {fd : FuncData} {x : Str} {sp : Sp} {s : Shared} {vs : List Value} {ns : List Int}
theorem from_heap (KX : K.In s.heap) (hg0 : s.heap.Ns mainGlobals mg) (hb : s.heap.Ns builtinsNs mb) (hbb : ∀ y : Str, y ≠ "__name__" → mb y = bootBuiltins y) (hlim : s.heap.NoLimit) (hg : s.gens = #[])
    (ha : s.heap.get? a = some { cls := .type "list", data := .seq vs.toArray }) (hr : Room k callerA) (F : ∀ base : Heap, K.In base → base.Ns mainGlobals mg → FnOkG P w K mg base CX0 k fa fd [x] sp)
    (hbind : ∀ (t : Shared) (u : Value), BindsTo t fd ⟨[u], []⟩ [(x, u)]) (H : Hp) (hO : Only H) (hok : HOk P w H s.heap) (hA : ∀ b, H b ≠ none → b = a) (hK : H a ≠ none → K.lookup a = none)
    (hsp : sp [.ref a] H (fun v _ => v = .bl true) fun _ _ _ => False) :
    codeAny (model P w) callerA (.call (.ref fa) ⟨[.ref a], []⟩) (fun r t => r = .ok (.ret (.bool true)) ∧ OldK s.heap t.heap ∧ t.os = s.os ∧ AllBare t.gens) s := by
  have free : ∀ {b : Addr} {o : Obj} {es : Array DictEntry} {ep : Nat}, s.heap.get? b = some o → o.data = .dict es ep → H b = none := by
    intro b o es ep e d
    cases q : H b with
    | none => rfl
    | some u =>
      have z := hA b (by rw [q]; exact Option.some_ne_none u)
      rw [z, ha] at e
      cases e
      exact nomatch d
  have ns : ∀ {b : Addr} {m : Str → Option Value}, s.heap.Ns b m → (hidT s.heap H).Ns b m := by
    rintro b m ⟨o, es, ep, e, d, r⟩
    exact ⟨o, es, ep, hidT_get e (free e d), d, r⟩
  have kin : K.In (hidT s.heap H) := by
    intro b o e
    refine hidT_get (KX b o e) ?_
    cases q : H b with
    | none => rfl
    | some u =>
      have z := hA b (by rw [q]; exact Option.some_ne_none u)
      rw [z] at q e
      rw [hK (by rw [q]; exact Option.some_ne_none u)] at e
      cases e
  have lim : (hidT s.heap H).NoLimit := by
    obtain ⟨mc, l1, l2⟩ := hlim
    exact ⟨mc, ns l1, l2⟩
  have env : Env0 P w K mg (hidT s.heap H) callerA [] s H :=
    ⟨rfl, ⟨kin, ns hg0, ⟨mb, ns hb, hbb⟩, lim⟩, fun b o e => of_hidT e, Nat.le_of_eq (hidT_size _ _), trivial, (fun b z => absurd (show b ∈ ([] : List Addr) from z) List.not_mem_nil), hok, .of_eq hg⟩
  have run := (F _ kin (ns hg0)).run callerA [] s H ⟨[.ref a], []⟩ [.ref a] [.ref a] _ _ rfl hr env (hbind s (.ref a)) (.cons rfl .nil) hsp
  refine codeAny_mono run fun r t h => ?_
  match r, h with
  | .error e, h => exact False.elim h
  | .ok (.ret u), h =>
    obtain ⟨v, H', os, bare, un, hok', r', q⟩ := h
    have q' : v = .bl true := q
    rw [q'] at r'
    obtain rfl : u = Value.bool true := r'
    refine ⟨rfl, OldK.of_keep fun b o e => ?_, os, bare⟩
    rcases hO b with z | ⟨ob, xs, z⟩
    · exact un.keep b o e z (fun y => absurd (show b ∈ ([] : List Addr) from y) List.not_mem_nil) (fun y => nomatch y)
    · obtain ⟨e1, _⟩ := hok b _ z
      obtain ⟨e2, _⟩ := hok' b _ (un.frzs b ob _ z)
      rw [e1] at e
      cases e
      exact e2
theorem law_callG (KX : K.In s.heap) (hg0 : s.heap.Ns mainGlobals mg) (hb : s.heap.Ns builtinsNs mb) (hbb : ∀ y : Str, y ≠ "__name__" → mb y = bootBuiltins y) (hlim : s.heap.NoLimit) (hg : s.gens = #[])
    (ha : s.heap.get? a = some { cls := .type "list", data := .seq vs.toArray }) (hi : IntsAre vs ns) (hl : ns.length ≤ sizeLine) (hr : Room k callerA)
    (F : ∀ base : Heap, K.In base → base.Ns mainGlobals mg → FnOkG P w K mg base CX0 k fa fd [x] sp) (hbind : ∀ (t : Shared) (u : Value), BindsTo t fd ⟨[u], []⟩ [(x, u)])
    (hsp : ∀ H : Hp, SqL K H a (ns.map V.int) → sp [.ref a] H (fun v _ => v = .bl true) fun _ _ _ => False) :
    codeAny (model P w) callerA (.call (.ref fa) ⟨[.ref a], []⟩) (fun r t => r = .ok (.ret (.bool true)) ∧ OldK s.heap t.heap ∧ t.os = s.os ∧ AllBare t.gens) s := by
  have rv := vals_ints hi
  have hlen : (ns.map V.int).length ≤ sizeLine := by
    rw [List.length_map]
    exact hl
  cases hk : K.lookup a with
  | some o =>
    have e := KX a o hk
    rw [ha] at e
    cases e
    refine from_heap KX hg0 hb hbb hlim hg ha hr F hbind (fun _ => none) (fun _ => .inl rfl) (fun b u z => nomatch z) (fun b z => absurd rfl z) (fun z => absurd rfl z) (hsp _ ?_)
    exact .inr ⟨_, vs.toArray, _, hk, rfl, rfl, rfl, by rw [List.size_toArray, hi.length]; exact hl, by simpa using rv⟩
  | none =>
    have at_ : ∀ b, (if b = a then some (HO.frz { cls := .type "list", data := .seq vs.toArray } (.lst (ns.map V.int))) else none) ≠ none → b = a := by
      intro b z
      by_cases e : b = a
      · exact e
      · rw [if_neg e] at z
        exact absurd rfl z
    refine from_heap KX hg0 hb hbb hlim hg ha hr F hbind (fun b => if b = a then some (.frz { cls := .type "list", data := .seq vs.toArray } (.lst (ns.map V.int))) else none) (fun b => ?_) (fun b u z => ?_) at_ (fun _ => hk)
      (hsp _ (.inl (.inr ⟨_, if_pos rfl⟩)))
    · by_cases e : b = a
      · exact .inr ⟨_, _, if_pos e⟩
      · exact .inl (if_neg e)
    · have e : b = a := at_ b (by
        have z' : (if b = a then some (HO.frz { cls := .type "list", data := .seq vs.toArray } (.lst (ns.map V.int))) else none) = some u := z
        rw [z']
        exact Option.some_ne_none u)
      subst e
      have z' := (if_pos rfl).symm.trans z
      cases z'
      exact ⟨ha, hlen, vs, _, rv, ha⟩
end
theorem walk_G {l : PySem.W.OpenLaw} {n k : Nat} {q : Program} {loose : List Str} {XP : (Str → Option Value) → Heap → Prop} {YP : World → Heap → Prop} {d : DefRec} {K : Params → PySem.W.Frag} {sp : PySem.W.Frag → Sp} {x : Str}
    (hn : l.most = some n) (hn2 : n ≤ sizeLine) (hdf : d.params.defaults = []) (hr : Room k callerA) (hY : ∀ (w : World) (h : Heap), YP w h → (K w.params).In h)
    (F : ∀ (w : World) (mg : Str → Option Value) (fa : Addr) (h : Heap), (K w.params).In h → h.Ns mainGlobals mg → mg d.name = some (.ref fa) →
      ∃ fd : FuncData, (∀ (t : Shared) (u : Value), BindsTo t fd ⟨[u], []⟩ [(x, u)]) ∧ ∀ base : Heap, (K w.params).In base → base.Ns mainGlobals mg → FnOkG l.prog w (K w.params) mg base CX0 k fa fd [x] (sp (K w.params)))
    (hsp : ∀ (K : PySem.W.Frag) (H : Hp) (a : Addr) (ns : List Int), ns.length ≤ n → SqL K H a (ns.map V.int) → sp K [.ref a] H (fun v _ => v = .bl true) fun _ _ _ => False) :
    PySem.W.WalkO q loose XP YP l.row.toRowW d [] (fun f vs => PySem.call f vs) := by
  refine Att.attach_call hn hdf fun w s₀ s₁ mg mb fa o pm cd doc a vs ns G Y ho hd hcd hmg hobj hints hlen hgens => ?_
  obtain ⟨fd, hb, hF⟩ := F w mg fa _ (hY w _ Y) G.T.g hmg
  exact law_callG (hY w _ Y) G.T.g G.T.b G.T.builtins G.T.nolimit hgens hobj hints (Nat.le_trans hlen hn2) hr hF hb fun H hS => hsp _ H a ns hlen hS
end Fm
namespace Fm
open PySem PySem.Spec PyProof.Rows L2
section
variable {X : Cx}
def rNeNil (K : PySem.W.Frag) : R2 := fun x y H Q => ∃ (a b : Addr) (xs : List V), x = .ref a ∧ y = .ref b ∧ SqL K H a xs ∧ SqL K H b [] ∧ Q (.bl (!xs.isEmpty)) H
def rEqNil (K : PySem.W.Frag) : R2 := fun x y H Q => ∃ (a b : Addr) (xs : List V), x = .ref a ∧ y = .ref b ∧ SqL K H a xs ∧ SqL K H b [] ∧ Q (.bl xs.isEmpty) H
theorem op_neNil (hu : X.A.units < cLine) : OpR X (compareOp .NotEq) (rNeNil X.K) := by
  intro pins s σ H x y v u Q I rx ry h
  obtain ⟨a, b, xs, rfl, rfl, ha, hb, q⟩ := h
  obtain rfl : v = Value.ref a := rx
  obtain rfl : u = Value.ref b := ry
  obtain ⟨i1, r1, p1, _⟩ := I.list ha
  obtain ⟨i2, r2, p2, _⟩ := I.list hb
  have l1 := r1.length
  have l2 : i2 = [] := List.eq_nil_of_length_eq_zero (by have := r2.length; simpa using this.symm)
  subst l2
  cases xs with
  | nil =>
    have l3 : i1 = [] := List.eq_nil_of_length_eq_zero (by simpa using l1.symm)
    subst l3
    exact SeqAt.RcNeAt.lists (e := fun _ => true) p1.isList p2.isList rfl hu (fun j j1 _ => absurd j1 (Nat.not_lt_zero j)) X.prog X.w X.xe _ ⟨.bl false, H, I, rfl, q⟩
  | cons z zs =>
    refine SeqAt.RcNeAt.lists_lengths p1.isList p2.isList ?_ hu X.prog X.w X.xe _ ⟨.bl true, H, I, rfl, q⟩
    simp only [List.length_cons] at l1
    simp [bne_iff_ne]
    intro z
    rw [z] at l1
    simp at l1
def rNotB : R2 := fun x y H Q => ∃ b : Bool, y = .bl b ∧ ((∃ a : Bool, x = .bl a ∧ Q (.bl (!decide (a = b))) H) ∨ (∃ i : Int, x = .int i ∧ Q (.bl true) H))
end
end Fm
namespace Fm
open PySem PySem.Spec PyProof.Rows L2
section
variable {prog : Program} {w : World} {A : Around} {E : Value → Shared → Prop} {s : Shared}
end
def IteT (K : PySem.W.Frag) (a : Addr) : It :=
  ⟨fun i H => ∃ (xs : List V) (x : V), SqT K H a xs ∧ xs[i]? = some x, fun i H v H' => ∃ T x, v = .ref T ∧ H T = none ∧ H' = upd H T (.tup [.int (i : Nat), x]) ∧ ∀ xs, SqT K H a xs → xs[i]? = some x, fun i H => ∃ xs : List V, SqT K H a xs ∧ xs.length ≤ i⟩
def iEnumG (K : PySem.W.Frag) (ta : TA) : TI := fun σ H R => ta σ H fun vs H1 => ∃ a xs, vs = [.ref a] ∧ ((SqL K H1 a xs ∧ R (Ite K a) H1) ∨ (SqT K H1 a xs ∧ R (IteT K a) H1))
end Fm
namespace Fm
open PySem PySem.Spec PyProof.Rows L2 SlX
section
variable {X : Cx}
def rDictD : List V → Hp → VK → Prop := fun xs H Q => ∃ (a : Addr) (kvs : List (L2.Key × V)), xs = [.ref a] ∧ H a = some (.dK kvs) ∧ ∀ p, H p = none → Q (.ref p) (upd H p (.dK kvs))
def tLenSetG (K : PySem.W.Frag) (ta : TE) : TE := fun σ H Q => ta σ H fun x H1 => ∃ (l : Addr) (ns : List Int), x = .ref l ∧ (SqL K H1 l (ns.map V.int) ∨ SqT K H1 l (ns.map V.int)) ∧ ns.length ≤ 4000 ∧
  ∀ ks : List Int, ks.Nodup → (∀ k, k ∈ ks ↔ k ∈ ns) → Q (.int ks.length) H1
def gSl (K : PySem.W.Frag) (to : TE) (f : Str) : TG := fun y σ H Q => to σ H fun x H2 => ∃ a C dx p vs i, x = .ref a ∧ Slt H2 a C dx vs ∧ SCls K C ∧ Slot1 K C f p i ∧ Q σ (slH H2 a C dx (putS i y vs))
end
theorem fnR_of {P : Program} {w : World} {K : PySem.W.Frag} {mg : Str → Option Value} {base : Heap} {CX : CXT} {k : Nat} {f : Addr} {fd : FuncData} {ps : List Str} {sp : Sp} (F : FnOk P w K mg base CX k f fd ps sp) (b : Binds K fd ps []) : FnR P w K mg base CX k f sp := by
  intro A outer s H us vs Q E hr e0 r h
  have hl : us.length = ps.length := by rw [← r.length]; exact F.len _ _ _ _ h
  have kin : K.In s.heap := e0.mod.kin.keeps fun b o e => (e0.bs b o e).1
  have b' := b s us kin (by rw [List.append_nil]; exact hl)
  rw [List.append_nil] at b'
  exact F.run A outer s H ⟨us, []⟩ us vs Q E hr e0 b' r h
section
variable {X : Cx} {CX : CXT} {k : Nat} {C g : Addr} {fd : FuncData} {ps : List Str} {sp : Sp} {E : L2.St → XK} {m : Str} {pos apos : Pos} {e o : Expr} {es : List Expr} {ta : TE} {t : TA}
def tMethSlS (C : Addr) (sp : Sp) (E : L2.St → XK) (ta : TE) (t : TA) : TE := fun σ H Q => ta σ H fun x H1 => ∃ a dx vs, x = .ref a ∧ Slt H1 a C dx vs ∧ t σ H1 fun ws H2 => sp (x :: ws) H2 Q (E σ)
end
section
variable {X : Cx}
def rSortDk : List V → Hp → VK → Prop := fun xs H Q => ∃ (a : Addr) (kvs : List (L2.Key × V)) (ks : List Str), xs = [.ref a] ∧ Rd H a (.dK kvs) ∧ kvs.map (·.1) = ks.map Sum.inr ∧ ks.length < 64 ∧ ∀ ys p, ys.Perm ks → sortedS ys = true → H p = none → Q (.ref p) (upd H p (.lst (ys.map V.str)))
def rSortA (K : PySem.W.Frag) : List V → Hp → VK → Prop := fun xs H Q => rSortDk xs H Q ∨ (rSortedS K xs H Q ∨ rSorted K xs H Q)
def rDictP (K : PySem.W.Frag) : List V → Hp → VK → Prop := fun xs H Q => ∃ (a : Addr) (ps : List Addr) (kvs : List (L2.Key × V)), xs = [.ref a] ∧ SqL K H a (ps.map V.ref) ∧ Paired (fun p kv => SqT K H p [kV kv.1, kv.2]) ps kvs ∧ ∀ p, H p = none → Q (.ref p) (upd H p (.dK (mergeK [] kvs)))
def rDictG (K : PySem.W.Frag) : List V → Hp → VK → Prop := fun xs H Q => rDictP K xs H Q ∨ rDictD xs H Q
def rListG (K : PySem.W.Frag) : List V → Hp → VK → Prop := fun xs H Q => rListOf K xs H Q ∨ rListD xs H Q
theorem call_listA (hc : X.calm = true) : CallR X (.type "list") (rListG X.K) := CallR.or call_listG (call_list_dK hc)
end
theorem kitOne_self {K : PySem.W.Frag} (C : Addr) : PySem.W.kitOne K (.ref C) (.ref C) = some true := by
  unfold PySem.W.kitOne
  rw [if_pos (by simp)]
end Fm
namespace Fm
open PySem PySem.Spec PyProof.Rows L2 SlX
section
variable {prog : Program} {w : PySem.World} {A : Around} {E : Value → Shared → Prop} {s : Shared} {K : PySem.W.Frag} {x C f : Addr} {ox : Obj} {od : Option Obj} {b tb : Value}
theorem objNe (X : K.In s.heap) (I : PySem.W.InstAt s.heap x ox C od) (he : PySem.W.findIn K (.ref C) "__eq__" = some (some (.ref f))) (hf : PySem.W.isFn K (.ref f) = true) (hu : A.units < cLine) {Q : PySem.Fin → Shared → Prop}
    (hc : wpAny (model prog w) A (call (.ref f) [.ref x, b]) (fun v s' => ∃ k, v = .bool k ∧ Q (.done (.ret (.bool (!k)))) s') E s) : wpAny (model prog w) A (Builtin.«object.__ne__» ⟨[.ref x, b], []⟩) Q E s := by
  unfold Builtin.«object.__ne__»
  repeat (first
    | with_reducible refine wpAny_cRoomFor hu ?_
    | (refine wpAny_bind (m := callSpecialIfBound? (.ref x) (Str.ofString "__eq__") [b]) (PySem.W.ifBound_K X I he hf (wpAny_mono hc (fun r s' hr => by
          obtain ⟨k, rfl, q⟩ := hr
          repeat (first | exact q | exact wpAny_pure q | exact wpAny_truthy_bool q | (refine wpAny_bind (m := truthy (.bool _)) (wpAny_truthy_bool ?_)) | wp_step)) fun _ _ z => z)))
    | wp_step)
theorem ne_own {Q : Value → Shared → Prop} (hu : A.units + 1 < cLine) (X : K.In s.heap) (I : PySem.W.InstAt s.heap x ox C od) (hb : PySem.W.Looks (model prog w) s.heap (typeOf b) tb) (hn : PySem.W.notFirst K C tb = true)
    (hs : PySem.W.findIn K (.ref C) "__ne__" = some (some (.builtin "object.__ne__"))) (hm : PySem.W.mroIn K C (.type "object") = some true) (he : PySem.W.findIn K (.ref C) "__eq__" = some (some (.ref f))) (hf : PySem.W.isFn K (.ref f) = true)
    (h : wpAny (model prog w) A.in1 (call (.ref f) [.ref x, b]) (fun v s' => ∃ k, v = .bool k ∧ Q (.bool (!k)) s') E s) : wpAny (model prog w) A (richCompare .NotEq (.ref x) b) Q E s := by
  have sub : PySem.W.Looks (model prog w) s.heap (isInstance (.ref x) (.type "object")) true := I.type.andThen (PySem.W.looks_mroIn X hm)
  have body : wpAny (model prog w) A (call (.builtin "object.__ne__") [.ref x, b]) (fun v s' => v ≠ .notImplemented ∧ Q v s') E s := by
    refine wpAny_call (codeAny_call_builtin PySem.F.cmp_object.ne.plain PySem.F.cmpEntry_ne (@PySem.W.check_slot (model prog w) _ _ s "object.__ne__" "object" "__ne__" (.ref x) [b] [] _ PySem.F.cmpKind_ne PySem.F.cmpSplit_ne sub (PySem.F.cmpArgs_ne _ _) ?_))
    refine objNe (A := A.in1) X I he hf hu (wpAny_mono h (fun v s' hv => ?_) fun _ _ z => z)
    obtain ⟨k, rfl, q⟩ := hv
    exact ⟨k, rfl, (fun z => nomatch z), q⟩
  have one : wpAny (model prog w) A (tryCompare (.ref x) (cmpInfo .NotEq).2.1 b) (fun r s' => ∃ v, r = some v ∧ Q v s') E s := by
    unfold tryCompare
    refine wpAny_bind ?_
    simp only [callSpecialIfBound?, bindSpecialIfBound?]
    refine wpAny_holding (wpAny_bind (wpAny_bind (wpAny_bind (I.type.here ((PySem.W.looks_findIn X (show PySem.W.findIn K (.ref C) (cmpInfo .NotEq).2.1 = _ from hs)).here ?_)))))
    refine wpAny_bind (wpAny_askSetting (wpAny_ite ?_))
    split
    · rw [PySem.F.cmp_object.ne.bind]
      refine wpAny_bind (wpAny_pure (wpAny_pure ?_))
      show wpAny _ _ (call (.builtin "object.__ne__") [.ref x, b] >>= _) _ _ _
      refine wpAny_bind (wpAny_mono body (fun v s' hv => wpAny_pure ?_) fun _ _ z => z)
      obtain ⟨h1, h2⟩ := hv
      cases v <;> first | exact absurd rfl h1 | exact wpAny_pure ⟨_, rfl, h2⟩
    · rw [PySem.F.cmp_object.ne.bind]
      refine wpAny_tryCatch (wpAny_bind (wpAny_pure (wpAny_pure ?_)))
      show wpAny _ _ (call (.builtin "object.__ne__") [.ref x, b] >>= _) _ _ _
      refine wpAny_bind (wpAny_mono body (fun v s' hv => wpAny_pure ?_) fun _ _ z => z)
      obtain ⟨h1, h2⟩ := hv
      cases v <;> first | exact absurd rfl h1 | exact wpAny_pure ⟨_, rfl, h2⟩
  unfold richCompare
  simp only [oneThing_ref]
  refine wpAny_holding (wpAny_bind (wpAny_cRoomFor (Nat.lt_of_succ_lt hu) (wpAny_bind (I.type.here (wpAny_bind (hb.here ?_))))))
  split
  · rename_i q
    have e : PySem.W.subIn K tb (.ref C) = some false := by
      rcases Bool.or_eq_true_iff.mp hn with e | e
      · rw [beq_iff_eq.mp e] at q
        simp at q
      · exact beq_iff_eq.mp e
    refine wpAny_bind ((PySem.W.looks_subIn X e).here ?_)
    simp only [Bool.false_eq_true, if_false]
    refine wpAny_bind (wpAny_mono one (fun r s' z => ?_) fun _ _ z => z)
    obtain ⟨v, rfl, hq⟩ := z
    exact wpAny_pure hq
  · refine wpAny_bind (wpAny_pure ?_)
    simp only [Bool.false_eq_true, if_false]
    refine wpAny_bind (wpAny_mono one (fun r s' z => ?_) fun _ _ z => z)
    obtain ⟨v, rfl, hq⟩ := z
    exact wpAny_pure hq
end
section
variable {X : Cx} {CX : CXT} {pins : List (Addr × Obj)} {σ : L2.St} {H : Hp} {s : Shared} {C g : Addr} {n : Nat} {sp : Sp} {E : XK}
def Oth (K : PySem.W.Frag) (H : Hp) (C : Addr) (y : V) : Prop := (∃ b C' dy ws, y = .ref b ∧ Slt H b C' dy ws ∧ PySem.W.notFirst K C (.ref C') = true) ∨ ∃ tb, TyX K H y tb ∧ PySem.W.notFirst K C tb = true
theorem Oth.looks {y : V} {u : Value} (I : Inv X pins σ H s) (ry : RelV y u) (h : Oth X.K H C y) : ∃ tb, PySem.W.Looks (model X.prog X.w) s.heap (typeOf u) tb ∧ PySem.W.notFirst X.K C tb = true := by
  rcases h with ⟨b, C', dy, ws, rfl, hb, hn⟩ | ⟨tb, ht, hn⟩
  · cases (show u = Value.ref b from ry)
    obtain ⟨sl, od, _, J, _⟩ := slt_inst I hb
    exact ⟨_, J.type, hn⟩
  · obtain ⟨P, kx, hp, _⟩ := kit_of I ry ht
    exact ⟨tb, kx.ty _ _ I.kIn hp, hn⟩
def rOwnG (K : PySem.W.Frag) (C : Addr) (sp : Sp) (E : XK) : R2 := fun x y H Q => ∃ a dx vs, x = .ref a ∧ Slt H a C dx vs ∧ Oth K H C y ∧ sp [x, y] H Q E
theorem op_ownG (hs : PySem.W.findIn X.K (.ref C) "__eq__" = some (some (.ref g))) (hf : PySem.W.isFn X.K (.ref g) = true) (F : FnR X.prog X.w X.K X.mg X.base CX n g sp)
    (hr : Room n X.A) (hx : Passes CX X E) : OpR X (compareOp .Eq) (rOwnG X.K C sp E) := by
  intro pins s σ H x y v u Q I rx ry h
  obtain ⟨a, dx, vs, rfl, ha, ho, q⟩ := h
  cases (show v = Value.ref a from rx)
  obtain ⟨sl, od, _, J, _⟩ := slt_inst I ha
  obtain ⟨tb, L, hn⟩ := ho.looks I ry
  obtain ⟨m, hF⟩ := I.fr
  refine PySem.W.cmp_K (op := .Eq) (tb := tb) hr.units0 hF I.ok.mod.kin J L hn hs hf ?_
  refine wpAny_mono (wpAny_call (run_fnR (us := [.ref a, u]) (vs := [.ref a, y]) F hr hx I (.cons rfl (.cons ry .nil)) q)) (fun w s' z => ?_) fun _ _ x => x
  obtain ⟨z', H', I', rz, qz⟩ := z
  exact cmpback rz ⟨z', H', I', rz, qz⟩
def rNeOwn (K : PySem.W.Frag) (C : Addr) (sp : Sp) (E : XK) : R2 := fun x y H Q => ∃ a dx vs, x = .ref a ∧ Slt H a C dx vs ∧ Oth K H C y ∧ sp [x, y] H (fun z H' => ∃ k, z = .bl k ∧ Q (.bl (!k)) H') E
theorem op_neOwn (hne : PySem.W.findIn X.K (.ref C) "__ne__" = some (some (.builtin "object.__ne__"))) (hm : PySem.W.mroIn X.K C (.type "object") = some true) (hs : PySem.W.findIn X.K (.ref C) "__eq__" = some (some (.ref g))) (hf : PySem.W.isFn X.K (.ref g) = true)
    (F : FnR X.prog X.w X.K X.mg X.base CX n g sp) (hr : Room (n + 1) X.A) (hx : Passes CX X E) : OpR X (compareOp .NotEq) (rNeOwn X.K C sp E) := by
  intro pins s σ H x y v u Q I rx ry h
  obtain ⟨a, dx, vs, rfl, ha, ho, q⟩ := h
  cases (show v = Value.ref a from rx)
  obtain ⟨sl, od, _, J, _⟩ := slt_inst I ha
  obtain ⟨tb, L, hn⟩ := ho.looks I ry
  have hu : X.A.units + 1 < cLine := by have := hr.un; omega
  refine ne_own (tb := tb) hu I.kIn J L hn hne hm hs hf ?_
  refine wpAny_mono (wpAny_call (run_at (us := [.ref a, u]) (ws := [.ref a, y]) F (Room.in1 hr) I.env0.in1 hx I (.cons rfl (.cons ry .nil)) q)) (fun w s' z => ?_) fun _ _ x => x
  obtain ⟨z', H', I', rz, k, ek, qz⟩ := z
  subst ek
  cases (show w = Value.bool k from rz)
  exact ⟨k, rfl, .bl (!k), H', I', rfl, qz⟩
end
end Fm
namespace Fm
open PySem PySem.Spec PyProof.Rows L2 SlX
section
variable {M : Model} {A : Around} {E : Value → Shared → Prop} {s : Shared} {K : PySem.W.Frag} {x C f : Addr} {ox : Obj} {od : Option Obj} {b : Value}
theorem in_own {Q : Bool → Shared → Prop} (X : K.In s.heap) (I : PySem.W.InstAt s.heap x ox C od) (hs : PySem.W.findIn K (.ref C) "__contains__" = some (some (.ref f))) (hf : PySem.W.isFn K (.ref f) = true)
    (h : wpAny M A (call (.ref f) [.ref x, b]) (fun v s' => ∃ k, v = .bool k ∧ Q k s') E s) : wpAny M A (contains (.ref x) b) Q E s := by
  have L : PySem.W.Looks M s.heap (specialOf (.ref x) (Str.ofString "__contains__")) (some (.ref f)) := I.type.andThen (PySem.W.looks_findIn X hs)
  unfold contains
  try with_reducible refine wpAny_holding ?_
  refine wpAny_bind (L.here ?_)
  show wpAny _ _ (if (some (Value.ref f) == some Value.none) = true then _ else _) _ E s
  rw [if_neg (by exact Bool.false_ne_true)]
  refine wpAny_bind (m := callSpecialUnlessNone? (.ref x) (Str.ofString "__contains__") [b] _) ?_
  simp only [callSpecialUnlessNone?]
  refine wpAny_bind (L.here ?_)
  refine wpAny_holding (wpAny_bind ((PySem.W.bind_fn X _ (beq_iff_eq.mp hf)).here ?_))
  show wpAny _ _ (if (Value.ref f == Value.none) = true then _ else _) _ E s
  rw [if_neg (by exact Bool.false_ne_true)]
  refine wpAny_bind (wpAny_mono h (fun v s' hv => wpAny_pure ?_) fun _ _ z => z)
  obtain ⟨k, rfl, q⟩ := hv
  exact wpAny_truthy_bool q
end
section
variable {X : Cx} {CX : CXT} {C g : Addr} {n : Nat} {sp : Sp} {E : XK}
def rInOwn (K : PySem.W.Frag) (C : Addr) (sp : Sp) (E : XK) (neg : Bool) : R2 := fun x y H Q => ∃ a dx vs, y = .ref a ∧ Slt H a C dx vs ∧ sp [y, x] H (fun z H' => ∃ k, z = .bl k ∧ Q (.bl (if neg = true then !k else k)) H') E
theorem op_notInOwn (hs : PySem.W.findIn X.K (.ref C) "__contains__" = some (some (.ref g))) (hf : PySem.W.isFn X.K (.ref g) = true) (F : FnR X.prog X.w X.K X.mg X.base CX n g sp)
    (hr : Room n X.A) (hx : Passes CX X E) : OpR X (compareOp .NotIn) (rInOwn X.K C sp E true) := by
  intro pins s σ H x y v u Q I rx ry h
  obtain ⟨a, dx, vs, rfl, ha, q⟩ := h
  cases (show u = Value.ref a from ry)
  obtain ⟨sl, od, _, J, _⟩ := slt_inst I ha
  show wpAny _ _ (do return Value.bool (!(← contains (.ref a) v)) : Sem Value) _ _ s
  refine wpAny_bind (in_own I.kIn J hs hf ?_)
  refine wpAny_mono (wpAny_call (run_fnR (us := [.ref a, v]) (vs := [.ref a, x]) F hr hx I (.cons rfl (.cons rx .nil)) q)) (fun w s' z => ?_) fun _ _ x => x
  obtain ⟨z', H', I', rz, k, ek, qz⟩ := z
  subst ek
  cases (show w = Value.bool k from rz)
  exact ⟨k, rfl, wpAny_pure ⟨.bl (!k), H', I', rfl, qz⟩⟩
end
end Fm
namespace Fm
open PySem PySem.Spec PySem.W PyProof.Rows L2
def rCountD (K : PySem.W.Frag) : V → List V → Hp → VK → Prop := fun x xs H Q => ∃ (a : Addr) (y : V) (d : PyData) (ds : List PyData), x = V.ref a ∧ xs = [y] ∧ Dp K H (V.ref a) (.list ds) ∧ Dp K H y d ∧
  SeqAt.shaped (.list ds) = true ∧ SeqAt.shaped d = true ∧ Q (.int ((ds.countP fun z => PyData.eqv z d : Nat) : Int)) H
section
variable {X : Cx}
theorem mt_countD (hu : X.A.units + 65 < cLine) : MtR X "list.count" (rCountD X.K) := by
  intro pins s σ H x xs v us Q I rx rxs h
  obtain ⟨a, y, d, ds, rfl, rfl, hl, hy, sl, sd, q⟩ := h
  cases rx
  obtain ⟨uy, rfl, ry⟩ := rxs.one
  obtain ⟨bs, r1⟩ := Dp.reads I d y uy hy ry
  have hxs : PyData.canLayAll0 ds = true := SeqAt.canLay_of_shaped sl
  have hroom : X.A.units + 1 + min (PyData.depthAll ds) d.depth < cLine := room_in_shaped sd hu
  cases hl with
  | lst hs ha =>
    obtain ⟨its, rv, ⟨⟨cls, dd, data, sls⟩, n, ho, hc, hdn, hdt⟩, hlen⟩ := I.list hs
    simp only at hc hdt
    subst hc hdt
    obtain ⟨as, h4⟩ := Dp.readsAll I ds _ its ha rv
    have hmap : its.map (SeqAt.readOf s.heap) = ds := SeqAt.readsAll_map ds its as hxs h4
    refine call_meets PySem.F.slot_list_count ⟨_, ho, rfl⟩ PySem.F.entry_list_count (PySem.F.args_list_count_2 _ _)
      (SeqAt.list_countAt a its.toArray n dd sls uy (fun u => PyData.eqv (SeqAt.readOf s.heap u) d)) ⟨ho, SeqAt.items_eqAt (vs := its.toArray) (show ReadsAll s.heap its.toArray.toList ds as from h4) r1 hxs (SeqAt.canLay_of_shaped sd) hroom, ?_⟩
    have ec : its.toArray.toList.countP (fun u => PyData.eqv (SeqAt.readOf s.heap u) d) = ds.countP fun z => PyData.eqv z d := by
      rw [← hmap, List.countP_map]
      rfl
    refine ⟨.int ((ds.countP fun z => PyData.eqv z d : Nat) : Int), H, I.tok _, ⟨s.toks, ?_⟩, q⟩
    rw [ec]
theorem pe_countD {K : PySem.W.Frag} {o e : Expr} {to : TE} {t : TA} {apos cpos : Pos} (hK : X.K = K) (hu : X.A.units + 65 < cLine) (ho : PE X o to) (ha : PA X [e] t)
    (hbase : attributeBase o "count" X.env (eval o X.env) = eval o X.env := by rfl)
    (hfew : ((backTo cpos (starEach [e] X.env)).all (fun x => !x.1) && (backToKw cpos (keywordEach [] X.env)).all (fun x => x.1.isSome)
      && decide (([e] : List Expr).length + ([] : List Keyword).length + (if ([] : List Keyword).isEmpty then 0 else 1) < 30)) = true := by rfl)
    (hline : (apos.endLine == cpos.line) = true := by rfl) (hs : starEach [e] X.env = (false, eval e X.env) :: starEach [] X.env := by rfl) (hplain : (backTo cpos (starEach [] X.env)).any (·.1) = false := by rfl) :
    PE X (.Call (.Attribute o "count" apos) [e] [] cpos) (tBM K "list" (rCountD K) to t) := by
  subst hK
  exact pe_bm PySem.F.plainAttrs_list PySem.F.slot_list_count PySem.F.type_list_count (mt_countD hu) ho ha hbase hfew hline hs hplain
end
end Fm
namespace Fm
open PySem PySem.Spec PyProof.Rows L2 HT
section
variable {prog : Program} {w : World} {A : Around} {E : Value → Shared → Prop} {s : Shared}
end
section
variable {X : Cx}
def tRevT (K : PySem.W.Frag) (te : TE) : TE := fun σ H Q => te σ H fun x H1 => ∃ a xs, x = .ref a ∧ SqT K H1 a xs ∧ ∀ p, H1 p = none → Q (.ref p) (upd H1 p (.tup xs.reverse))
end
end Fm
namespace Fm
open PySem PySem.Spec PyProof.Rows L2 SlX
section
variable {prog : Program} {w : PySem.World} {A : Around} {E : Value → Shared → Prop} {s : Shared} {K : PySem.W.Frag} {x y C f : Addr} {ox oy : Obj} {od ody : Option Obj}
theorem special_own {name : Str} {args : List Value} {Q : Option Value → Shared → Prop} (X : K.In s.heap) (I : PySem.W.InstAt s.heap x ox C od) (hs : PySem.W.findIn K (.ref C) name = some (some (.ref f))) (hf : PySem.W.isFn K (.ref f) = true)
    (h : wpAny (model prog w) A (call (.ref f) (.ref x :: args)) (fun v => Q (some v)) E s) : wpAny (model prog w) A (callSpecial? (.ref x) name args) Q E s := by
  simp only [callSpecial?]
  unfold specialOf
  refine wpAny_bind (wpAny_bind (I.type.here ((PySem.W.looks_findIn X hs).here ?_)))
  refine wpAny_holding (wpAny_bind ((PySem.W.bind_fn X _ (beq_iff_eq.mp hf)).here (wpAny_bind (wpAny_mono h (fun v s' h' => wpAny_pure h') fun _ _ h' => h'))))
structure MulC (K : PySem.W.Frag) (C f : Addr) : Prop where
  self : PySem.W.selfFirst K C = true
  find : PySem.W.findIn K (.ref C) "__mul__" = some (some (.ref f))
  fn : PySem.W.isFn K (.ref f) = true
theorem MulC.cls (h : MulC K C f) : ∃ cd rest, PySem.W.clsIn K C = some cd ∧ cd.mro = .ref C :: rest := by
  have h1 := h.self
  unfold PySem.W.selfFirst at h1
  cases e : PySem.W.clsIn K C with
  | none =>
    rw [e] at h1
    cases h1
  | some cd =>
    rw [e] at h1
    have h2 : cd.mro.head? = some (.ref C) := by simpa using h1
    cases e2 : cd.mro with
    | nil =>
      rw [e2] at h2
      cases h2
    | cons c rest =>
      rw [e2] at h2
      cases h2
      exact ⟨cd, rest, rfl, e2⟩
end
section
variable {X : Cx} {CX : CXT} {C g : Addr} {n : Nat} {sp : Sp} {E : XK}
def rMulOwn (K : PySem.W.Frag) (C : Addr) (sp : Sp) (E : XK) : R2 := fun x y H Q => ∃ a b dx dy vs ws, x = .ref a ∧ y = .ref b ∧ Slt H a C dx vs ∧ Slt H b C dy ws ∧ sp [x, y] H (fun z H' => (∃ r, z = .ref r) ∧ Q z H') E
end
section
variable {prog : Program} {w : PySem.World} {A : Around} {E : Value → Shared → Prop} {s : Shared} {K : PySem.W.Frag} {x C f : Addr} {ox : Obj} {od : Option Obj}
end
section
variable {M : Model} {A : Around} {E : Value → Shared → Prop} {s : Shared}
end
section
variable {X : Cx} {CX : CXT} {C g : Addr} {n : Nat} {sp : Sp} {E : XK}
def tCallI (C : Addr) (sp : Sp) (E : XK) (to : TE) (t : TA) : TE := fun σ H Q => to σ H fun x H1 => ∃ a, x = .ref a ∧ t σ H1 fun us H2 => ∃ dx vs, Slt H2 a C dx vs ∧ sp (.ref a :: us) H2 Q E
end
section
variable {X : Cx} {CX : CXT} {C g : Addr} {n : Nat} {fd : FuncData} {ps : List Str} {sp : Sp} {E : XK}
def rReprOwn (C : Addr) (sp : Sp) (E : XK) : List V → Hp → VK → Prop := fun xs H Q => ∃ a dx vs, xs = [V.ref a] ∧ Slt H a C dx vs ∧ sp [.ref a] H (fun z H' => (∃ t : Str, z = .str t) ∧ Q z H') E
theorem call_reprOwn (hs : PySem.W.findIn X.K (.ref C) "__repr__" = some (some (.ref g))) (hf : PySem.W.isFn X.K (.ref g) = true) (F : FnOkG X.prog X.w X.K X.mg X.base CX n g fd ps sp) (hb : Binds X.K fd ps []) (hgd : X.A.guards = some []) (hr : Room (n + 1) X.A) (hx : Passes CX X E) :
    CallR X (.builtin "repr") (rReprOwn C sp E) := by
  intro pins s σ H xs us Q I r h
  obtain ⟨a, dx, vs, rfl, hsl, q⟩ := h
  obtain ⟨u, rfl, ru⟩ := r.one
  cases (show u = Value.ref a from ru)
  obtain ⟨sl, od, _, J, _⟩ := slt_inst I hsl
  obtain ⟨m, hF⟩ := I.fr
  have hl : ([.ref a] : List Value).length = ps.length := by
    have := F.len _ _ _ _ q
    simpa using this
  refine PySem.W.repr_K (by have := (Room.in1 hr).un; omega) hF I.ok.mod.kin J hs hf (wpAny_mono (wpAny_call (codeAny_mono (F.run X.A.in1 X.stack s H ⟨[.ref a], []⟩ [.ref a] [.ref a] _ E hgd (Room.in1 hr) I.env0.in1 (by simpa using hb s [.ref a] I.kIn (by simpa using hl)) (.cons rfl .nil) q) (R' := fun r s' => match r with | .ok (.ret v) => EP X pins σ (fun z H' => (∃ t : Str, z = .str t) ∧ Q z H') v s' | .ok _ => False | .error e => X.xe e s') fun r s' hq => ?_)) (fun w s' z => ?_) fun _ _ x => x)
  · cases r with
    | error e => exact hx pins σ H s e s' I hq
    | ok fl =>
      cases fl with
      | ret u => exact I.after hq
      | next => exact False.elim hq
      | brk => exact False.elim hq
      | cont => exact False.elim hq
  · obtain ⟨z', H', I', rz, ⟨t, rfl⟩, qz⟩ := z
    obtain ⟨tk, rfl⟩ := rz
    exact ⟨.str t, H', I', ⟨tk, rfl⟩, qz⟩
end
structure SMet (K : PySem.W.Frag) (C : Addr) (mc : Value) (m : Str) (p g : Addr) : Prop where
  rd : ClX.CRead K C mc
  ty : PySem.W.typeIn K (.ref C) = some mc
  at_ : PySem.W.findCls K (.ref C) mc m = some (.get (.builtin "staticmethod.__get__") (.ref p) .none (.ref C))
  rc : ∃ rest, PySem.W.recIn K p "staticmethod" = some (.ref g :: rest)
  kp : PySem.W.keepIn K (.ref g) = true
def tSMeth (C : Addr) (sp : Sp) (E : XK) (ta : TE) (t : TA) : TE := fun σ H Q => ta σ H fun x H1 => x = .ref C ∧ t σ H1 fun vs H2 => sp vs H2 Q E
section
variable {X : Cx} {CX : CXT} {k : Nat} {C p g : Addr} {mc : Value} {sp : Sp} {E : XK} {o e : Expr} {es : List Expr} {m : Str} {pos apos : Pos} {ta : TE} {t : TA} {pl : Sem Bool}
end
def tFmtRD (K : PySem.W.Frag) (te : TE) : TE := fun σ H Q => te σ H fun x H1 => ∃ (a : Addr) (d : PyData), x = .ref a ∧ Dp K H1 (.ref a) d ∧ d.showable = true ∧ d.hasDict = false ∧ d.depth ≤ 60 ∧ d.shown.length ≤ sizeLine ∧ Q (.str d.shown) H1
section
variable {X : Cx}
theorem pe_fmtRD {e : Expr} {te : TE} {pos : Pos} (hg : X.A.guards = some []) (hu : X.A.units + 64 < cLine) (he : PE X e te) : PE X (.FormattedValue e 114 none pos) (tFmtRD X.K te) := by
  refine ⟨fun pins s σ H Q I h => ?_⟩
  refine wpAny_FormattedValue_repr (thn (he.run pins s σ H _ I h) fun v s1 hv => ?_)
  obtain ⟨x, H1, I1, r1, a, d, rfl, hd, hs, hn, hdp, hz, q⟩ := hv
  cases (show v = Value.ref a from r1)
  obtain ⟨as, R⟩ := Dp.reads I1 d (.ref a) _ hd rfl
  refine PySem.pyReprObj_of_reads R hs (fun c => by rw [hn] at c; cases c) hg (by omega) (fun _ _ e => e) (fun h' t tk hk => ?_) hz
  exact wpAny_formatField_str ⟨.str d.shown, H1, (I1.kept (h' := h') (t' := tk) hk), ⟨_, rfl⟩, q⟩ ⟨.str d.shown, H1, (I1.kept (h' := h') (t' := tk) hk).tok _, ⟨_, rfl⟩, q⟩ hz
end
section
variable {X : Cx} {CX : CXT} {C g : Addr} {k : Nat} {fd : FuncData} {ps : List Str} {sp : Sp} {E : L2.St → XK} {a b : Expr} {ta tb : TE} {pos : Pos}
def tMulS (C : Addr) (sp : Sp) (E : L2.St → XK) (ta tb : TE) : TE := fun σ H Q => ta σ H fun x H1 => tb σ H1 fun y H2 => ∃ p q dx dy vs ws, x = .ref p ∧ y = .ref q ∧ Slt H2 p C dx vs ∧ Slt H2 q C dy ws ∧ sp [.ref p, .ref q] H2 (fun z H' => (∃ r, z = .ref r) ∧ Q z H') (E σ)
end
structure StatAt (K : PySem.W.Frag) (C : Addr) (m q : Str) (st : Stmt) (ps : List Str) where
  f : Addr
  fd : FuncData
  F : Fun K m q st f fd
  p : Addr
  S : SMet K C (.type "type") m p f
  b : Binds K fd ps []
end Fm
namespace Fm
open PySem PySem.Spec PyProof.Rows L2 SlX
def rIsiTX (K : PySem.W.Frag) : List V → Hp → VK → Prop := fun xs H Q => rIsiT K xs H Q ∨ ∃ (a C dx : Addr) (vs : List (Option V)) (tp : Addr) (cs : List V) (us : List Value) (b : Bool), xs = [.ref a, .ref tp] ∧ H tp = some (.tup cs) ∧ Paired ClsV cs us ∧ Slt H a C dx vs ∧ SCls K C ∧ SIsi K C ∧ PySem.W.kitAny K (.ref C) us = some b ∧ Q (.bl b) H
theorem call_isiTX {X : Cx} : CallR X (.builtin "isinstance") (rIsiTX X.K) := by
  intro pins s σ H xs us Q I r h
  rcases h with h | ⟨a, C, dx, vs, tp, cs, ws, b, rfl, hT, k, hsl, hc, hi, hk, q⟩
  · exact call_isiT pins s σ H xs us Q I r h
  · obtain ⟨u1, u2, rfl, r1, r2⟩ := r.two
    cases (show u1 = Value.ref a from r1)
    cases (show u2 = Value.ref tp from r2)
    obtain ⟨sl, od, _, J, _⟩ := slt_inst I hsl
    obtain ⟨_, its, rv, o, h1, h2, n, h3⟩ := (show ObjOk X.prog X.w H s.heap tp (.tup cs) from I.hok tp _ hT)
    have e3 := ClsV.all k rv
    subst e3
    obtain ⟨oc, od2, dt, sl2⟩ := o
    simp only at h2 h3
    subst h2 h3
    exact PySem.W.kia_tup (OwX.kitx_slt hc.ic (hc.get _) hi.ca hi.cn hi.ct hi.cm) I.kIn J h1 hk (fun z => nomatch z) fun tk => ⟨.bl b, H, I.tok _, rfl, q⟩
theorem kitAny_no {K : PySem.W.Frag} {C : Addr} (h1 : PySem.W.subIn K (.ref C) (.type "list") = some false) (h2 : PySem.W.subIn K (.ref C) (.type "tuple") = some false) : PySem.W.kitAny K (.ref C) [.type "list", .type "tuple"] = some false := by
  have k : ∀ T : String, PySem.W.kitMeta T = true → PySem.W.subIn K (.ref C) (.type T) = some false → PySem.W.kitOne K (.ref C) (.type T) = some false := fun T hm hs => by
    unfold PySem.W.kitOne
    rw [if_neg (by intro z; cases (of_decide_eq_true z))]
    show (if _ then _ else _) = _
    rw [if_pos hm]
    exact hs
  unfold PySem.W.kitAny
  rw [k "list" (by decide +kernel) h1]
  unfold PySem.W.kitAny
  rw [k "tuple" (by decide +kernel) h2]
  rfl
def Txo (x : Str) : Prop := ∀ c ∈ x.cps.toList, c < 0x110000
theorem Txo.ok {x : Str} (h : Txo x) : PyData.strOk x = true := by
  show x.cps.all (· < 0x110000) = true
  rw [Array.all_eq_true_iff_forall_mem]
  intro c hc
  have := h c (by simpa using hc)
  simpa using this
theorem txo_of {x : Str} (h : PyData.strOk x = true) : Txo x := fun c hc => by
  have h' : x.cps.all (· < 0x110000) = true := h
  rw [Array.all_eq_true_iff_forall_mem] at h'
  simpa using h' c (by simpa using hc)
theorem Txo.app {x y : Str} (h : Txo x) (k : Txo y) : Txo (x ++ y) := fun c hc => by
  have e : (x ++ y).cps = x.cps ++ y.cps := rfl
  rw [e, Array.toList_append, List.mem_append] at hc
  exact hc.elim (h c) (k c)
theorem char_lt (c : Char) : c.toNat < 0x110000 := by
  have := c.valid
  have e : c.toNat = c.val.toNat := rfl
  rcases this with h | ⟨_, h⟩ <;> omega
theorem txo_str (s : String) : Txo (Str.ofString s) := fun c hc => by
  rw [Str.ofString_eq_toList] at hc
  obtain ⟨d, _, rfl⟩ := List.mem_map.mp (by simpa using hc)
  exact char_lt d
theorem repr_lt {q c : Nat} (hq : q < 0x110000) (hc : c < 0x110000) : ∀ d ∈ Builtin.Str.reprChar q c, d < 0x110000 := by
  have hx : ∀ w : Nat, ∀ d ∈ List.replicate (w - ((Nat.toDigits 16 c).map Char.toNat).length) 48 ++ (Nat.toDigits 16 c).map Char.toNat, d < 0x110000 := fun w d hd => by
    rcases List.mem_append.mp hd with h | h
    · have := (List.mem_replicate.mp h).2
      omega
    · obtain ⟨e, _, rfl⟩ := List.mem_map.mp h
      exact char_lt e
  intro d hd
  unfold Builtin.Str.reprChar at hd
  dsimp only at hd
  repeat' split at hd
  all_goals first
    | (simp only [List.mem_cons, List.not_mem_nil, or_false] at hd; omega)
    | (simp only [List.mem_append, List.mem_cons, List.not_mem_nil, or_false] at hd
       rcases hd with h | h
       · omega
       · exact hx _ d (List.mem_append.mpr h))
theorem fold_lt {q : Nat} (hq : q < 0x110000) : ∀ (l : List Nat) (acc : Array Nat), (∀ c ∈ l, c < 0x110000) → (∀ c ∈ acc.toList, c < 0x110000) → ∀ c ∈ (l.foldl (fun out c => out ++ (Builtin.Str.reprChar q c).toArray) acc).toList, c < 0x110000
  | [], acc, _, h, c, hc => h c hc
  | x :: l, acc, hl, h, c, hc => by
    refine fold_lt hq l _ (fun d hd => hl d (List.mem_cons_of_mem _ hd)) (fun d hd => ?_) c hc
    rw [Array.toList_append, List.mem_append] at hd
    exact hd.elim (h d) (repr_lt hq (hl x List.mem_cons_self) d)
theorem txo_repr {x : Str} (h : Txo x) : Txo (reprText x) := fun c hc => by
  unfold reprText at hc
  have hq : reprQuote x < 0x110000 := by
    unfold reprQuote
    split <;> omega
  rw [Array.toList_push, List.mem_append, ← Array.foldl_toList] at hc
  rcases hc with hc | hc
  · refine fold_lt hq x.cps.toList #[reprQuote x] h (fun d hd => ?_) c hc
    simp at hd
    omega
  · simp at hc
    omega
theorem txo_from : ∀ (ts : List Str) (k : Nat) (acc : Str), Txo acc → (∀ t ∈ ts, Txo t) → Txo (textFrom k acc ts)
  | [], _, acc, h, _ => h
  | t :: ts, k, acc, h, hs => by
    show Txo (textFrom (k + 1) (acc ++ (if k > 0 then ", " else "" : String) ++ t) ts)
    exact txo_from ts (k + 1) _ ((h.app (txo_str _)).app (hs t List.mem_cons_self)) fun u hu => hs u (List.mem_cons_of_mem _ hu)
theorem txo_join {sep : Str} (hsep : Txo sep) : ∀ ts : List Str, (∀ t ∈ ts, Txo t) → Txo (Str.join sep ts)
  | [], _ => fun c hc => by
    have e : (Str.join sep []).cps.toList = [] := rfl
    rw [e] at hc
    cases hc
  | [t], h => h t List.mem_cons_self
  | t :: u :: ts, h => by
    show Txo (t ++ sep ++ Str.join sep (u :: ts))
    exact ((h t List.mem_cons_self).app hsep).app (txo_join hsep (u :: ts) fun v hv => h v (List.mem_cons_of_mem _ hv))
mutual
theorem txo_shown : ∀ d : PyData, fine d → Txo d.shown
  | .none, _ => by simp only [PyData.shown]; exact txo_str _
  | .bool b, _ => by cases b <;> (simp only [PyData.shown]; exact txo_str _)
  | .int i, _ => by simp only [PyData.shown]; exact txo_str _
  | .str x, h => by simp only [PyData.shown]; exact txo_repr (txo_of h)
  | .list xs, h => by
    simp only [PyData.shown]
    unfold listText
    exact (txo_from _ _ _ (txo_str _) (txo_showns xs h)).app (txo_str _)
  | .tuple xs, h => by
    simp only [PyData.shown]
    unfold tupleText
    exact ((txo_str _).app (txo_join (txo_str _) _ (txo_showns xs h))).app (txo_str _)
  | .dict _, h => h.elim
theorem txo_showns : ∀ xs : List PyData, fineAll xs → ∀ t ∈ PyData.shownAll xs, Txo t
  | [], _, t, ht => by simp [PyData.shownAll] at ht
  | x :: xs, h, t, ht => by
    simp only [PyData.shownAll, List.mem_cons] at ht
    rcases ht with rfl | ht
    · exact txo_shown x h.1
    · exact txo_showns xs h.2 t ht
end
end Fm
namespace Fm
open PySem PySem.Spec PyProof.Rows L2
def rRepTB (K : PySem.W.Frag) : R2 := fun x y H Q => ∃ l k xs, x = .ref l ∧ y = .int k ∧ SqT K H l xs ∧ xs ≠ [] ∧ 2 ≤ k ∧ k ≤ 1000000 ∧ xs.length * k.toNat ≤ 1000000 ∧ ∀ p, H p = none → Q (.ref p) (upd H p (.tup (List.replicate k.toNat xs).flatten))
section
variable {X : Cx}
end
end Fm
namespace Fm
open PySem PySem.Spec PyProof.Rows L2 SlX
structure BinC (K : PySem.W.Frag) (C f : Addr) (name : Str) : Prop where
  self : PySem.W.selfFirst K C = true
  find : PySem.W.findIn K (.ref C) name = some (some (.ref f))
  fn : PySem.W.isFn K (.ref f) = true
section
variable {prog : Program} {w : PySem.World} {A : Around} {E : Value → Shared → Prop} {s : Shared} {K : PySem.W.Frag} {x y C f : Addr} {ox oy : Obj} {od ody : Option Obj} {name : Str} {op : Operator} {sym nm : String}
theorem BinC.cls (h : BinC K C f name) : ∃ cd rest, PySem.W.clsIn K C = some cd ∧ cd.mro = .ref C :: rest := by
  have h1 := h.self
  unfold PySem.W.selfFirst at h1
  cases e : PySem.W.clsIn K C with
  | none =>
    rw [e] at h1
    cases h1
  | some cd =>
    rw [e] at h1
    have h2 : cd.mro.head? = some (.ref C) := by simpa using h1
    cases e2 : cd.mro with
    | nil =>
      rw [e2] at h2
      cases h2
    | cons c rest =>
      rw [e2] at h2
      cases h2
      exact ⟨cd, rest, rfl, e2⟩
theorem fills_bin (X : K.In s.heap) (h : BinC K C f name) (hd : dunder nm = name) : PySem.W.Looks (model prog w) s.heap (fillsNumberSlot (.ref C) nm) true := by
  obtain ⟨cd, rest, hc, hm⟩ := h.cls
  have hmro : PySem.W.Looks (model prog w) s.heap (mroOf (.ref C)) cd.mro := (PySem.W.looks_clsIn X hc).andThen .now
  unfold fillsNumberSlot
  simp only []
  refine hmro.andThen ?_
  rw [hm]
  simp only [List.anyM]
  rw [hd]
  have h1 : PySem.W.Looks (model prog w) s.heap (typeLookup (.ref C) name) (some (.ref f)) := PySem.W.looks_findIn X h.find
  refine PySem.W.Looks.andThen (a := true) (PySem.W.Looks.andThen (a := true) (PySem.W.Looks.andThen h1 ?_) ?_) ?_
  · exact .now
  · exact .now
  · exact .now
theorem bin_own {Q : Value → Shared → Prop} (hi : op.info = (sym, nm)) (hd : dunder nm = name) (X : K.In s.heap) (I : PySem.W.InstAt s.heap x ox C od) (J : PySem.W.InstAt s.heap y oy C ody) (h : BinC K C f name)
    (hc : wpAny (model prog w) A (call (.ref f) [.ref x, .ref y]) (fun v s' => v ≠ .notImplemented ∧ Q v s') E s) : wpAny (model prog w) A (binaryOp op (.ref x) (.ref y)) Q E s := by
  unfold binaryOp
  refine wpAny_holding ?_
  rw [hi]
  refine wpAny_bind ?_
  unfold binaryOp1
  refine wpAny_bind (I.type.here (wpAny_bind (J.type.here (wpAny_bind ((fills_bin X h hd).here ?_)))))
  simp only [beq_self_eq_true, if_true]
  refine wpAny_bind (wpAny_pure ?_)
  simp only [Bool.and_false, Bool.false_and, Bool.false_eq_true, if_false, Bool.not_false, Bool.and_true]
  refine wpAny_bind (wpAny_pure ?_)
  simp only [Bool.false_eq_true, if_false]
  rw [hd]
  unfold tryMethod
  refine wpAny_bind (wpAny_bind (special_own X I h.find h.fn (wpAny_mono hc (fun v s' z => ?_) fun _ _ z => z)))
  obtain ⟨z1, z2⟩ := z
  cases v <;> first | exact absurd rfl z1 | exact wpAny_pure (wpAny_pure (wpAny_pure z2))
end
section
variable {X : Cx} {CX : CXT} {C g : Addr} {k : Nat} {fd : FuncData} {ps : List Str} {sp : Sp} {E : L2.St → XK} {a b : Expr} {ta tb : TE} {pos : Pos} {op : Operator} {sym nm : String} {name : Str}
theorem pe_binS (hi : op.info = (sym, nm)) (hd : dunder nm = name) (h : BinC X.K C g name) (F : FnOk X.prog X.w X.K X.mg X.base CX k g fd ps sp) (hr : Room k X.A) (hb : Binds X.K fd ps []) (hx : ∀ σ, PassesAt CX X σ (E σ)) (ha : PE X a ta) (hb2 : PE X b tb) : PE X (.BinOp a op b pos) (tMulS C sp E ta tb) := by
  refine ⟨fun pins s σ H Q I hq => ?_⟩
  refine wpAny_BinOp (binT ha hb2 I hq fun v u s2 x y H2 I2 rx ry hq2 => ?_)
  obtain ⟨p, q, dx, dy, vs, ws, rfl, rfl, hp, hq', q2⟩ := hq2
  cases (show v = Value.ref p from rx)
  cases (show u = Value.ref q from ry)
  obtain ⟨sl, od, _, J, _⟩ := slt_inst I2 hp
  obtain ⟨sl2, od2, _, J2, _⟩ := slt_inst I2 hq'
  refine bin_own hi hd I2.kIn J J2 h ?_
  refine wpAny_mono (run_fnS (us := [.ref p, .ref q]) (vs := [.ref p, .ref q]) F hr hb (hx σ) I2 (.cons rfl (.cons rfl .nil)) q2) (fun w s' z => ?_) fun _ _ x => x
  obtain ⟨z', H', I', rz, ⟨r, rfl⟩, qz⟩ := z
  cases (show w = Value.ref r from rz)
  exact ⟨(fun e => nomatch e), .ref r, H', I', rfl, qz⟩
theorem dunder_or : dunder "or" = (Str.ofString "__or__") := by first | rfl | decide +kernel
end
end Fm
namespace Fm
open PySem PySem.Spec PyProof.Rows L2
section
variable {P : Program} {w : World}
def Apart (P : Program) (w : World) (e f : Int × Value) : Prop := ∀ k : Str, (strKind P w).is k e.2 = true → (strKind P w).is k f.2 = true → False
theorem apart_symm {e f : Int × Value} (h : Apart P w e f) : Apart P w f e := fun k a b => h k b a
def SetS (P : Program) (w : World) (h : Heap) (a : Addr) (S : Str → Bool) (n : Nat) : Prop := ∃ (o : Obj) (es : Array (Int × Value)) (ep : Nat) (t : SetTable), h.get? a = some o ∧ (o.ExactSet ∧ o.data = .set es ep t) ∧
  (ElemsOf (strKind P w) es.toList ∧ es.toList.Pairwise (Apart P w) ∧ ∀ k, S k = true ↔ ∃ e ∈ es.toList, (strKind P w).is k e.2 = true) ∧ (es.size < scanBound ∧ t.fits es.size = true ∧ es.size = n) ∧ Ris t.place.toList ∧ (w.params.followText "set-order" = true ∨ t.led = true)
theorem SetS.at {h h' : Heap} {a : Addr} {S : Str → Bool} {n : Nat} (R : SetS P w h a S n) (k : ∀ o, h.get? a = some o → h'.get? a = some o) : SetS P w h' a S n := by
  obtain ⟨o, es, ep, t, ho, r⟩ := R
  exact ⟨o, es, ep, t, k o ho, r⟩
theorem SetS.as {h : Heap} {a : Addr} {S S' : Str → Bool} {n : Nat} (R : SetS P w h a S n) (e : ∀ k, S' k = S k) : SetS P w h a S' n := by
  rw [funext e]
  exact R
theorem SetS.new {h : Heap} {a : Addr} {xs : List Str} (ho : h.get? a = some (eset w)) : SetS P w h a (fun k => decide (k ∈ xs.take 0)) 0 := by
  refine ⟨_, #[], 0, _, ho, ⟨⟨rfl, rfl, rfl⟩, rfl⟩, ⟨fun e he => by simp at he, .nil, fun k => by simp⟩, ⟨by decide, by rfl, rfl⟩, .nil, ?_⟩
  show _ ∨ (!w.params.followText "set-order") = true
  cases w.params.followText "set-order" with
  | true => exact .inl rfl
  | false => exact .inr rfl
abbrev rly (t : SetTable) (es : Array (Int × Value)) := relayAll t es (SetTable.grown es.size)
variable {A : Around} {E : Value → Shared → Prop} {s : Shared} {a : Addr} {S : Str → Bool} {n : Nat}
theorem sets_tail {g : Bool → Sem Unit} (hg : ∀ (b : Bool) (s1 : Shared) (Q : Unit → Shared → Prop), Q () s1 → wpAny (model P w) A (g b) Q E s1) {o : Obj} {es es1 : Array (Int × Value)} {ep : Nat} {t t2 : SetTable}
    (ho : s.heap.get? a = some o) (hx : o.ExactSet ∧ o.data = .set es ep t) (hE : ElemsOf (strKind P w) es1.toList ∧ es1.toList.Pairwise (Apart P w) ∧ ∀ k, S k = true ↔ ∃ e ∈ es1.toList, (strKind P w).is k e.2 = true)
    (hB : es1.size < scanBound) (hF : t2.fits es1.size = true) (hR : Ris t2.place.toList) (hL : w.params.followText "set-order" = true ∨ t2.led = true) {dm : Bool} {R : Option Bool → Shared → Prop}
    (fin : ∀ h', Heap.SameBut a s.heap h' → SetS P w h' a S es1.size → R (some true) { s with heap := h' }) :
    wpAny (model P w) A (do
      storeSet a es1 t2
      if (!dm && t2.tooFull) = true then do g (rly t2 es1).2.2; storeSet a (rly t2 es1).1 (rly t2 es1).2.1; pure (some true)
      else pure (some true)) R E s := by
  obtain ⟨hex, hd⟩ := hx
  obtain ⟨hE1, hE2, hE3⟩ := hE
  have put : ∀ {h : Heap} {o' : Obj} {e0 e1 : Array (Int × Value)} {ep' : Nat} {t0 t1 : SetTable}, h.get? a = some o' → o'.data = .set e0 ep' t0 → (h.update a (Obj.putSet e1 t1)).get? a = some { o' with data := .set e1 (ep' + 1) t1 } := fun hh hdd => store_at hh hdd
  refine wpAny_bind (wpAny_storeSet_of ho hd ?_ (fits_of_scanBound hB))
  have at1 := put (e1 := es1) (t1 := t2) ho hd
  have sb := Heap.SameBut.update s.heap a (Obj.putSet es1 t2)
  split
  · have q1 := relayAll_perm t2 es1 (SetTable.grown es1.size)
    have q2 := relayAll_fits t2 es1 (SetTable.grown es1.size)
    have q3 := relayAll_ris t2 es1 (SetTable.grown es1.size)
    have q4 := relayAll_led t2 es1 (SetTable.grown es1.size)
    rcases hz : relayAll t2 es1 (SetTable.grown es1.size) with ⟨f1, f2, f3⟩
    unfold rly
    rw [hz] at q1 q2 q3 q4 ⊢
    dsimp only at q1 q2 q3 q4 ⊢
    have hl : f1.size = es1.size := by rw [← Array.length_toList, q1.length_eq, Array.length_toList]
    refine wpAny_bind (hg _ _ _ (wpAny_bind (wpAny_storeSet_of at1 rfl ?_ (fits_of_scanBound (by rw [hl]; exact hB)))))
    refine wpAny_pure (fin _ (sb.trans (Heap.SameBut.update _ a _)) ⟨_, f1, _, f2, put at1 rfl, ⟨hex, rfl⟩, ⟨hE1.perm q1, (q1.pairwise_iff apart_symm).mpr hE2, fun k => ?_⟩, ⟨by rw [hl]; exact hB, q2, hl⟩, q3, hL.imp id fun z => q4.trans z⟩)
    rw [hE3 k]
    exact ⟨fun ⟨e, he, hk⟩ => ⟨e, q1.mem_iff.mpr he, hk⟩, fun ⟨e, he, hk⟩ => ⟨e, q1.mem_iff.mp he, hk⟩⟩
  · exact wpAny_pure (fin _ sb ⟨_, es1, _, t2, at1, ⟨hex, rfl⟩, ⟨hE1, hE2, hE3⟩, ⟨hB, hF, rfl⟩, hR, hL⟩)
theorem sets_add {k : Str} {tk : Tok} {Q : Bool → Shared → Prop} (R : SetS P w s.heap a S n) (room : n + 1 < scanBound)
    (fin : ∀ h', Heap.SameBut a s.heap h' → SetS P w h' a (fun j => S j || decide (j = k)) (if S k = true then n else n + 1) → Q (!S k) { s with heap := h' }) :
    wpAny (model P w) A (setAddHashed a (.str k tk) ((strKind P w).hash k)) Q E s := by
  obtain ⟨o, es, ep, t, ho, ⟨hex, hd⟩, ⟨hE1, hE2, hE3⟩, ⟨hB, hF, hN⟩, hR, hL⟩ := R
  have isk : (strKind P w).is k (.str k tk) = true := strKind_is P w k tk
  have sck : (Value.str k tk).scannable = true := rfl
  unfold setAddHashed setAddHashedIn
  refine wpAny_holding (wpAny_bind (wpAny_setState_of ho hd hF ?_))
  dsimp only
  rw [byScan_of sck hB hE1, if_pos rfl]
  unfold setAddByScan
  refine wpAny_bind (wpAny_bind (wpAny_rule (wpAny_bind (wpAny_setScan_of isk ho hd hF hE1 ?_))))
  rcases hfi : List.findIdx? (fun e : Int × Value => (strKind P w).is k e.2) es.toList with _ | j
  · dsimp only
    have no : ∀ e ∈ es.toList, (strKind P w).is k e.2 = true → False := fun e he z => by
      have := List.findIdx?_eq_none_iff.mp hfi e he
      rw [z] at this
      cases this
    have sk : S k = false := by
      cases z : S k with
      | false => rfl
      | true =>
        obtain ⟨e, he, hk⟩ := (hE3 k).mp z
        exact (no e he hk).elim
    have q1 := layNew_perm t es ((strKind P w).hash k) (.str k tk)
    have q2 := layNew_fits t es ((strKind P w).hash k) (.str k tk)
    have q3 := layNew_ris t es ((strKind P w).hash k) (.str k tk) hR
    have q4 := layNew_led t es ((strKind P w).hash k) (.str k tk)
    rcases hz : layNew t es ((strKind P w).hash k) (.str k tk) with ⟨f1, f2, dm, gv⟩
    rw [hz] at q1 q2 q3 q4
    dsimp only at q1 q2 q3 q4 ⊢
    rw [Array.toList_push] at q1
    have q5 : f1.toList.Perm (((strKind P w).hash k, Value.str k tk) :: es.toList) := q1.trans (List.perm_append_singleton _ _)
    have hl : f1.size = n + 1 := by rw [← Array.length_toList, q5.length_eq, List.length_cons, Array.length_toList, hN]
    have hE' : ElemsOf (strKind P w) f1.toList ∧ f1.toList.Pairwise (Apart P w) ∧ ∀ i, (S i || decide (i = k)) = true ↔ ∃ e ∈ f1.toList, (strKind P w).is i e.2 = true := by
      refine ⟨(hE1.push isk sck).perm q1, (q5.pairwise_iff apart_symm).mpr (.cons (fun e he j hj hje => ?_) hE2), fun i => ?_⟩
      · cases (strKind P w).inj _ j k hj isk
        exact no e he hje
      · rw [Bool.or_eq_true, decide_eq_true_eq, hE3 i]
        constructor
        · rintro (⟨e, he, hk⟩ | rfl)
          · exact ⟨e, q5.mem_iff.mpr (List.mem_cons_of_mem _ he), hk⟩
          · exact ⟨_, q5.mem_iff.mpr List.mem_cons_self, isk⟩
        · rintro ⟨e, he, hk⟩
          rcases List.mem_cons.mp (q5.mem_iff.mp he) with rfl | he
          · exact .inr ((strKind P w).inj _ i k hk isk)
          · exact .inl ⟨e, he, hk⟩
    have hL' : w.params.followText "set-order" = true ∨ f2.led = true := hL.imp id fun z => q4.trans z
    have fin' : ∀ h', Heap.SameBut a s.heap h' → SetS P w h' a (fun j => S j || decide (j = k)) f1.size → Q true { s with heap := h' } := fun h' sb r => by
      have := fin h' sb
      rw [sk] at this
      rw [hl] at r
      exact this r
    have hB' : f1.size < scanBound := by rw [hl]; exact room
    have gw : ∀ (b : Bool) {s1 : Shared} {Q' : Unit → Shared → Prop}, Q' () s1 → wpAny (model P w) A (match b with | true => rule "set.scan.the-table-gave-way" | false => pure ()) Q' E s1 := fun b s1 Q' q => by
      cases b
      · exact wpAny_pure q
      · exact wpAny_rule q
    refine wpAny_bind (gw _ ?_)
    split
    · refine wpAny_bind ?_
      rw [hashByValue_scannable 8 sck]
      refine wpAny_pure (sets_tail ?_ ho ⟨hex, hd⟩ hE' hB' ?_ ?_ ?_ ?_)
      · intro b s1 Q' q
        exact gw b q
      · first | (split <;> first | exact q2 | exact SetTable.fits_plain_off q2) | exact q2
      · first | (split <;> exact q3) | exact q3
      · first | (split <;> exact hL') | exact hL'
      · exact fun h' sb r => wpAny_pure (fin' h' sb r)
    · refine wpAny_bind (wpAny_pure ?_)
      rw [if_pos rfl]
      refine sets_tail ?_ ho ⟨hex, hd⟩ hE' hB' q2 q3 hL' ?_
      · intro b s1 Q' q
        exact gw b q
      · exact fun h' sb r => wpAny_pure (fin' h' sb r)
  · dsimp only
    obtain ⟨hj, pj, _⟩ := List.findIdx?_eq_some_iff_getElem.mp hfi
    have sk : S k = true := (hE3 k).mpr ⟨es.toList[j], List.getElem_mem hj, pj⟩
    have q := fin s.heap (Heap.SameBut.refl a s.heap) ⟨o, es, ep, t, ho, ⟨hex, hd⟩, ⟨hE1, hE2, fun i => ?_⟩, ⟨hB, hF, by rw [if_pos sk]; exact hN⟩, hR, hL⟩
    · rw [sk] at q
      exact wpAny_pure (wpAny_pure q)
    · rw [Bool.or_eq_true, decide_eq_true_eq, ← hE3 i]
      exact ⟨fun z => z.elim id fun e => by rw [e]; exact sk, .inl⟩
theorem sets_update {I : Addr} {fp wr : List Addr} {G : Array GenState → Array GenState → Prop} {m : Nat} {Pv : Nat → Value → Prop} {St : Nat → Shared → Prop} {R : Result → Shared → Prop}
    (W : WalksS P w A.in1 I fp wr G m Pv St) (a : Addr) (ha : a ∉ fp) (xs : List Str) (hm : m = xs.length) (hb : xs.length + 1 < scanBound) (hval : ∀ i v, Pv i v → ∃ k t, xs[i]? = some k ∧ v = .str k t) :
    ∀ (d i : Nat) (s : Shared), m - i = d → i ≤ m → St i s → (∃ c, c ≤ i ∧ SetS P w s.heap a (fun j => decide (j ∈ xs.take i)) c) →
      (∀ s' c, Moved (a :: wr) G s s' → c ≤ m → SetS P w s'.heap a (fun j => decide (j ∈ xs)) c → R (.ok (.ret .none)) s') → codeAny (model P w) A (.builtin "set.update.loop" ⟨[.ref a, .ref I], []⟩) R s := by
  have haw : a ∉ wr := fun z => ha (W.sub _ z)
  have more : ∀ b ∈ wr, b ∈ a :: wr := fun _ z => List.mem_cons_of_mem _ z
  intro d
  induction d with
  | zero =>
    rintro i s e1 e2 st ⟨c, hc, R0⟩ fin
    obtain rfl : i = m := by omega
    refine codeAny_builtin F.entry_set_update_loop ?_
    rw [Around.under_plainId F.plain_set_update_loop _]
    refine wpAny_bind (m := pyNext (.ref I)) (W.done s _ _ st fun s' mv => ?_)
    rw [List.take_of_length_le (by omega)] at R0
    exact wpAny_pure (fin s' c (mv.mono more) hc (R0.at fun o e => mv.heap a o haw e))
  | succ d ih =>
    rintro i s e1 e2 st ⟨c, hc, R0⟩ fin
    have lt : i < m := by omega
    refine codeAny_builtin F.entry_set_update_loop ?_
    rw [Around.under_plainId F.plain_set_update_loop _]
    refine wpAny_bind (m := pyNext (.ref I)) (W.item i s _ _ lt st fun v s' hP st' mv => ?_)
    obtain ⟨z, t, hz, rfl⟩ := hval i v hP
    have R1 := R0.at fun o e => mv.heap a o haw e
    refine wpAny_bind (m := holding [Value.str z t] (setAdd a (.str z t))) (wpAny_holding ?_)
    unfold setAdd
    refine wpAny_holding (wpAny_bind ((strKind P w).pyHash (k := z) (strKind_is P w z t) ?_))
    refine sets_add (s := { s' with toks := s'.toks + 1 }) R1 (by omega) fun g sb R2 => ?_
    have R3 : SetS P w g a (fun j => decide (j ∈ xs.take (i + 1))) (if decide (z ∈ xs.take i) = true then c else c + 1) := R2.as fun j => by
      rw [List.take_add_one, hz]
      simp [List.mem_append]
    have c3 : (if decide (z ∈ xs.take i) = true then c else c + 1) ≤ i + 1 := by split <;> omega
    have keep : ∀ b o, b ≠ a → s'.heap.get? b = some o → g.get? b = some o := fun b o hb e => by rw [sb.2 b hb]; exact e
    refine wpAny_pure ⟨plainId_quiet F.plain_set_update_loop _, ih (i + 1) _ (by omega) lt (W.frame _ s' _ _ st' (Nat.le_succ _) fun b hb o e => keep b o (fun z => ha (z ▸ hb)) e) ⟨_, c3, R3⟩ fun s2 c2 mv2 hc2 R4 => ?_⟩
    exact fin s2 c2 (Moved.trans W.gtrans ((mv.mono more).then_heap (Nat.le_succ _) fun b o hb e => keep b o (fun z => hb (z ▸ List.mem_cons_self)) e) mv2) hc2 R4
set_option maxHeartbeats 8000000 in
theorem set_of_strs {l : Addr} {its : Array Value} (xs : List Str) {Q : Value → Shared → Prop} (hh : A.handled = none) (hl : s.heap.IsList l its) (hi : StrsAre its.toList xs) (hb : xs.length + 1 < scanBound)
    (h : ∀ (g : Heap) (tk c : Nat), c ≤ xs.length → SetS P w g s.heap.objs.size (fun j => decide (j ∈ xs)) c → (∀ b o, s.heap.get? b = some o → g.get? b = some o) → Q (.ref s.heap.objs.size) { s with heap := g, toks := tk }) :
    wpAny (model P w) A (call (.type "set") [.ref l]) Q E s := by
  have hn : its.size = xs.length := by rw [← Array.length_toList]; exact StrsAre.length hi
  obtain ⟨mc, mt, mro⟩ := F.called_set.mro
  have mk1 := F.called_set.made
  have mk2 := F.called_set.sub
  refine wpAny_call (codeAny_of_tree (show wpAny _ _ (callAny (.type "set") _) _ _ _ from wpAny_pure ⟨Code.quiet_builtin _ (by decide +kernel), codeAny_builtin F.entry_type_call ?_⟩))
  rw [Around.under_plain (weight_type_call_type "set" [.ref l] []) rfl]
  have mk3 := F.called_set.notType
  have mk4 := F.called_set.canCreate
  have mk5 := F.typeCall_set_1 (.ref l)
  repeat (any_goals (first | assumption | wp_step))
  refine codeAny_mono (code_set_led1 (w := w) (s := s) (.ref l) (E := E)
    (Q₁ := fun obj s₁ => obj = .ref s.heap.objs.size ∧ s₁ = { s with heap := hset w s.heap }) ⟨rfl, rfl⟩) fun r s₁ hr => ?_
  match r, hr with
  | .error e, hr => exact hr
  | .ok (.ret obj), hr =>
    obtain ⟨rfl, rfl⟩ := hr
    have here : (hset w s.heap).get? s.heap.objs.size = some (eset w) := Heap.get?_push_size _ rfl
    have isS : Shared.TypeIs { s with heap := hset w s.heap } (.ref s.heap.objs.size) "set" := ⟨_, here, rfl⟩
    have in1 := F.called_set.init.lookup
    have in2 := F.called_set.init.bind (.ref s.heap.objs.size)
    repeat (any_goals (first | assumption | wp_step))
    have goes : codeAny (model P w) A.in1 (.call (.builtin "set.__init__") ⟨[.ref s.heap.objs.size, .ref l], []⟩) (wants (fun r s₂ => r = .none ∧ ∃ g tk c,
        s₂ = { s with heap := g, toks := tk } ∧ c ≤ xs.length ∧ SetS P w g s.heap.objs.size (fun j => decide (j ∈ xs)) c ∧ ∀ b o, s.heap.get? b = some o → g.get? b = some o) E) { s with heap := hset w s.heap } := by
      refine codeAny_call_builtin F.called_set.init.plain F.entry_set_init (check_set_init_1 isS ?_)
      obtain ⟨⟨oc, od, dt, sl⟩, hol, hcl, nl, hdl⟩ := id hl
      simp only at hcl hdl
      subst hcl hdl
      have lt := Heap.lt_size hol
      have hol2 : (hset w s.heap).get? l = some _ := Heap.get?_push_of_some _ hol
      have hl2 : (hset w s.heap).IsList l its := ⟨_, hol2, rfl, nl, rfl⟩
      have no1 := F.sub_list_set
      have no2 := F.sub_list_frozenset
      have no3 : (Value.type "list" == Value.type "dict") = false := by decide
      unfold Builtin.«set.__init__» noKeywords Builtin.Frozenset.updateFrom
      generalize hPI : pyIter = PI
      wp_walk
      subst hPI
      refine wpAny_pyIter_list hl2 (wpAny_bind (wpAny_runValue ?_))
      have sz2 : (hset w s.heap).objs.size = s.heap.objs.size + 1 := Heap.size_push ..
      have neI : l ≠ (hset w s.heap).objs.size := by
        rw [sz2]
        exact Nat.ne_of_lt (Nat.lt_succ_of_lt lt)
      have notIn : s.heap.objs.size ∉ [(hset w s.heap).objs.size, l] := by
        rw [sz2]
        intro z
        rcases List.mem_cons.mp z with z | z
        · exact Nat.ne_of_lt (Nat.lt_succ_self _) z
        · exact Nat.ne_of_gt lt (List.mem_singleton.mp z)
      have val : ∀ (i : Nat) (v : Value), its[i]? = some v → ∃ k t, xs[i]? = some k ∧ v = .str k t := fun i v hv => by
        obtain ⟨y, t, e1, e2⟩ := StrsAre.item hi i v (by rw [Array.getElem?_toList]; exact hv)
        exact ⟨y, t, e2, e1⟩
      have hh3 : A.in1.in1.in1.handled = none := by simp [hh]
      refine sets_update ((Walks.list hh3 _ l neI its).toS) s.heap.objs.size notIn xs hn hb val (its.size - 0) 0 _ (by omega) (Nat.zero_le _) ?st ?s0 ?fin
      case st => exact ⟨⟨_, Heap.get?_push_size _ rfl, rfl, rfl⟩, hl2.push _⟩
      case s0 => exact ⟨0, Nat.le_refl 0, .new (Heap.get?_push_of_some _ here)⟩
      case fin =>
        rintro ⟨g, gg, dd, tk, oo⟩ c' mv hc' hS'
        have e1 : gg = s.gens := mv.gens
        have e2 : dd = s.drawn := mv.drawn
        have e3 : oo = s.os := mv.os
        subst e1 e2 e3
        refine wpAny_pure (show wpAny _ _ (ret Value.none) _ _ _ from wpAny_pure ⟨rfl, g, tk, c', rfl, by omega, hS', fun b o e => ?_⟩)
        have b0 := Heap.lt_size e
        refine mv.heap b o (fun z => ?_) (Heap.get?_push_of_some _ (Heap.get?_push_of_some _ e))
        rcases List.mem_cons.mp z with z | z
        · exact Nat.ne_of_lt b0 z
        · have z2 := List.mem_singleton.mp z
          rw [sz2] at z2
          exact Nat.ne_of_lt (Nat.lt_succ_of_lt b0) z2
    refine codeAny_mono goes fun r₂ s₂ hr₂ => ?_
    match r₂, hr₂ with
    | .error e, hr₂ => exact hr₂
    | .ok (.ret r), hr₂ =>
      obtain ⟨rfl, g, tk, c', rfl, hc', hS', hk'⟩ := hr₂
      repeat (any_goals (first | assumption | wp_step))
      exact h _ _ _ hc' hS' hk'
end
end Fm
namespace Fm
open PySem PySem.W PySem.Calls PyProof.Rows PySem.HandSPX
abbrev xA (f : Str) (p1 p2 : Pos) : Arguments :=
  { posonlyargs := [], args := [{ arg := "self", annotation := none, pos := p1 }, { arg := f, annotation := none, pos := p2 }],
    vararg := none, kwonlyargs := [], kw_defaults := [], kwarg := none, defaults := [] }
abbrev xCall (f : Str) (q1 q2 q3 q4 q5 : Pos) : Expr := .Call (.Attribute (.Call (.Name "super" q1) [] [] q2) "__init__" q3) [.Name f q4] [] q5
abbrev xB (f : Str) (q1 q2 q3 q4 q5 q6 q7 q8 q9 q10 : Pos) : List Stmt :=
  [.Expr (xCall f q1 q2 q3 q4 q5) q6, .Assign [.Attribute (.Name "self" q7) f q8] (.Name f q9) q10]
abbrev xS (f : Str) : Scope :=
  { kind := .function, names := [(PySem.Str.ofString "self", .local), (f, .local), (PySem.Str.ofString "__class__", .free), (PySem.Str.ofString "super", .globalImplicit)],
    isGenerator := false, isCoroutine := false, more := [] }
structure ExT (P : Program) (K : Frag) (mg : Str → Option Value) (x f : Str) (C : Addr) : Prop where
  gC : mg x = some (.ref C)
  cls : ∃ nm q N bs bm sn sub ab col dd k0 k1 k2 k3 k5, K.lookup C = some (excClassObj nm q C N bs bm true sn sub ab col dd k0 k1 k2 k3 k5 "ValueError.__new__") ∧ refsVE bm = true
  sa : findIn K (.ref C) "__setattr__" = some (some (.builtin "object.__setattr__"))
  no : findIn K (.ref C) f = some none
  kC : keepIn K (.ref C) = true
  exC : subIn K (.ref C) (.type "BaseException") = some true
  veC : subIn K (.ref C) (.type "ValueError") = some true
  tyC : typeIn K (.ref C) = some (.type "type")
  hdC : hasDictIn K C = true
  up : ks_superIn K C C "__init__" = some (some (.builtin "ValueError.__init__"))
  opq : nsIn K cStatics "thirdparty.any" = some none
  self : mroIn K C (.ref C) = some true
  fn : ∃ (fI cda cc : Addr) (oc : Value) (od : Option Addr) (kV doc pm : Value) (an : Option Addr) (ct : Value) (osl : Array (Option Value)) (p1 p2 q1 q2 q3 q4 q5 q6 q7 q8 q9 q10 : Pos) (ql : Str),
    findIn K (.ref C) "__init__" = some (some (.ref fI)) ∧ typeIn K (.ref fI) = some (.type "function") ∧
    K.lookup fI = some ⟨oc, od, .func (ksFn "__init__" ql (xA f p1 p2) (xB f q1 q2 q3 q4 q5 q6 q7 q8 q9 q10) (xS f) .none kV doc pm an (.ref cda) ct cc), osl⟩ ∧ codeIn K (.ref cda) ql = true ∧
    (∃ cl cld csl, K.lookup cc = some ⟨cl, cld, .cell (some (.ref C)), csl⟩) ∧
    ∃ ccl cdd vs ccs file tf, K.lookup cda = some ⟨ccl, cdd, .fields vs, ccs⟩ ∧ vs[2]? = some (.str file tf) ∧ ((P.main.file : Str) == file) = true ∧
    (∀ e v, bindArgs (ksFn "__init__" ql (xA f p1 p2) (xB f q1 q2 q3 q4 q5 q6 q7 q8 q9 q10) (xS f) .none kV doc pm an (.ref cda) ct cc) ⟨[.ref e, v], []⟩ = pure [((PySem.Str.ofString "self" : Str), .ref e), (f, v)]) ∧
    ∀ L : Addr, ∃ pl, eval (xCall f q1 q2 q3 q4 q5) (ksEnv ql (xS f) L fI (.ref cda) cc) = (do
      let ov ← attributeBase (.Call (.Name "super" q1) [] [] q2) "__init__" (ksEnv ql (xS f) L fI (.ref cda) cc) (eval (.Call (.Name "super" q1) [] [] q2) (ksEnv ql (xS f) L fI (.ref cda) cc))
      standAt q3.atName
      let (g, first) ← holding [ov] (getMethod ov "__init__" pl)
      callWith q5 g first (backTo q5 (starEach [.Name f q4] (ksEnv ql (xS f) L fI (.ref cda) cc))) [])
  top : (P.main.scope.names.lookup ("super" : Str)).isSome = false
  sup : mg "super" = none
  f1 : (("self" : Str) == f) = false
  f2 : (f == ("self" : Str)) = false
  f3 : (f == ("__debug__" : Str)) = false
  f4 : (("super" : Str) == f) = false
  f5 : (("__class__" : Str) == f) = false
structure XEnd (h h' : Heap) (x C dx : Addr) (f : Str) (v : Value) : Prop where
  keep : ∀ b o, b ≠ x → h.get? b = some o → h'.get? b = some o
  obj : ∃ t1 : Addr, h'.get? x = some { cls := .ref C, dict := some dx, data := .fields #[.ref t1, .none, .none, .none, .bool false, .none] }
  dbig : h.objs.size ≤ dx
  dne : dx ≠ x
  ns : h'.Ns1 dx (fun y => if y = f then some v else none)
section
variable {P : Program} {w : PySem.World} {A : Around} {E : Value → Shared → Prop} {R : Result → Shared → Prop} {s : Shared} {K : Frag} {mg : Str → Option Value} {C : Addr} {x f : Str}
theorem look_f (T1 : (("self" : Str) == f) = false) (v u : Value) : ([((PySem.Str.ofString "self" : Str), u), (f, v)].reverse.lookup f) = some v := by
  simp [List.lookup]
theorem look_self (T2 : (f == ("self" : Str)) = false) (T1 : (("self" : Str) == f) = false) (v u : Value) : ([((PySem.Str.ofString "self" : Str), u), (f, v)].reverse.lookup (PySem.Str.ofString "self")) = some u := by
  simp only [List.reverse_cons, List.reverse_nil, List.nil_append, List.singleton_append, List.lookup_cons]
  rw [show ((PySem.Str.ofString "self" : Str) == f) = false from T1]
  simp
theorem xs_f (T2 : (f == ("self" : Str)) = false) : (xS f).names.lookup f = some .local := by
  simp only [xS, List.lookup_cons]
  rw [show (f == (PySem.Str.ofString "self" : Str)) = false from T2]
  simp
theorem xs_self : (xS f).names.lookup (PySem.Str.ofString "self") = some .local := by
  simp only [xS, List.lookup_cons]
  simp
theorem xs_super (h : (("super" : Str) == f) = false) : (xS f).names.lookup ("super" : Str) = some .globalImplicit := by
  simp only [xS, List.lookup_cons, h]
  rw [show ((PySem.Str.ofString "super" : Str) == PySem.Str.ofString "self") = false by decide +kernel, show ((PySem.Str.ofString "super" : Str) == PySem.Str.ofString "__class__") = false by decide +kernel]
  simp
theorem xs_class (h : (("__class__" : Str) == f) = false) : (xS f).names.lookup ("__class__" : Str) = some .free := by
  simp only [xS, List.lookup_cons, h]
  rw [show ((PySem.Str.ofString "__class__" : Str) == PySem.Str.ofString "self") = false by decide +kernel]
  simp
theorem vx_call {hp : Heap} {g : Array GenState} {d : Drawn} {t : Nat} {os : OsState} {u e t0 : Addr} {rest : List Value} {Q : Value → Shared → Prop} {nm q : Str} {N : Addr} {bs bm : List Value} {hdct : Bool} {sn : List Str} {sub : List Value} {ab : Bool} {col : Option Bool} {dd : Option Addr} {k0 k1 k2 k3 k5 : Option Value}
    (hC : hp.get? C = some (excClassObj nm q C N bs bm hdct sn sub ab col dd k0 k1 k2 k3 k5 "ValueError.__new__")) (he : hp.get? e = some (excO C t0)) (hu : hp.get? u = some (kxs_mw "ValueError.__init__" e)) (hz : rest.length ≤ sizeLine)
    (fin : ∀ h', (∀ b o, b ≠ e → hp.get? b = some o → h'.get? b = some o) → h'.get? e = some (excO C hp.objs.size) → Q .none ⟨h', g, d, t, os⟩) :
    wpAny (model P w) A (call (.ref u) rest) Q E ⟨hp, g, d, t, os⟩ := by
  refine wpAny_call (codeAny_of_tree ?_)
  show wpAny (model P w) A.in1 (callAny (.ref u) ⟨rest, []⟩) _ _ _
  simp only [callAny]
  refine wpAny_bind (wpAny_load hu ?_)
  simp only [kxs_mw]
  refine KFB.if_so (by decide) ?_
  refine wpAny_bind (check_bound_init PySem.F.excBase_ValueError.toExcCallFacts hC he rfl ?_)
  refine wpAny_bind (wpAny_pure (wpAny_pure ?_))
  refine ⟨plainId_quiet PySem.F.excBase_ValueError.init.plain _, codeAny_builtin PySem.F.excBase_ValueError.initEntry ?_⟩
  exact exc_init_tree (cls := .ref C) (t0 := t0) (dv := none) (c2 := .none) (c3 := .none) (b4 := .bool false) he hz fun h' k e' _ => fin h' k e'
theorem vx_init (T : ExT P K mg x f C) {e t0 fI : Addr} {v : Value} (X : K.In s.heap) (hG : s.heap.Ns mainGlobals mg) (hB : ∃ mb, s.heap.Ns builtinsNs mb ∧ ∀ y : Str, y ≠ "__name__" → mb y = bootBuiltins y) (hlim : s.heap.NoLimit)
    (hx : s.heap.get? e = some (excO C t0)) (hnx : K.lookup e = none) (hroom : A.depth < recursionLimit) (hI : findIn K (.ref C) "__init__" = some (some (.ref fI)))
    (hq : ∀ h' tk dx, XEnd s.heap h' e C dx f v → R (.ok (.ret .none)) { s with heap := h', toks := tk }) :
    codeAny (model P w) A (.call (.ref fI) ⟨[.ref e, v], []⟩) R s := by
  obtain ⟨fI', cda, cc, oc, od, kV, doc, pm, an, ct, osl, p1, p2, q1, q2, q3, q4, q5, q6, q7, q8, q9, q10, ql, hi, tI, ho, hcd, ⟨cl, cld, csl, hcell⟩, ccl, cdd, vs, ccs, file, tf, hcode, hvs, hfile, hbind, hev⟩ := T.fn
  obtain rfl : fI = fI' := by
    rw [hi] at hI
    cases hI
    rfl
  obtain ⟨nm, q, N, bs, bm, sn, sub, ab, col, dd, k0, k1, k2, k3, k5, hC, hbm⟩ := T.cls
  have hcl : clsIn K C = some { name := nm, bases := bs, mro := .ref C :: bm, ns := N, qualname := q, hasDict := true, slotNames := sn, subclasses := sub, abstract := ab, collection := col, hasDel := false } := by
    unfold clsIn
    rw [hC] <;> rfl
  obtain ⟨mb, hmb, hbt⟩ := hB
  have hxC : e ≠ C := fun z => by
    rw [z, hC] at hnx
    cases hnx
  have hkf : (ksEnv ql (xS f) s.heap.objs.size fI (.ref cda) cc).kindOf f = some .local := xs_f T.f2
  refine ks_codeAny_call_defAt (binds := [("self", .ref e), (f, v)]) hroom (X _ _ ho) rfl hlim (codeRec_of X hcd) rfl (BindsTo.of_eq (hbind _ _)) ?_ ?_ (fun h₁ hn hk₁ => ?_)
  · intro y hy
    simp only [xS, List.mem_cons, List.not_mem_nil, or_false] at hy
    rcases hy with rfl | rfl | rfl | rfl <;> exact fun z => nomatch z
  · intro y hy
    simp only [List.mem_cons, List.not_mem_nil, or_false] at hy
    rcases hy with rfl | rfl
    · rfl
    · exact xs_f T.f2
  · have X₁ : K.In h₁ := X.keeps hk₁
    have hx₁ := hk₁ _ _ hx
    have I₁ : InstAt h₁ e (excO C t0) C none := ⟨hx₁, rfl, rfl, trivial⟩
    obtain ⟨hp, g, dr, tk, os⟩ := s
    obtain ⟨pl, hev⟩ := hev hp.objs.size
    refine ks_wpAt_execs_cons (ks_wpAt_Expr_any (ks_wpAt_MethodCall (he := hev) ?_))
    refine ks_wpAt_super_base (env := ksEnv ql (xS f) hp.objs.size fI (.ref cda) cc) (ar := { arg := "self", annotation := none, pos := p1 }) ?_ ?_ (by decide) rfl (X₁ _ _ ho) rfl rfl rfl (X₁ _ _ hcode) rfl hvs hfile T.top ?_
    · exact xs_super T.f4
    · exact xs_class T.f5
    · refine ks_loadName_global rfl (xs_super T.f4) (loadGlobal_builtin (env := ksEnv ql (xS f) hp.objs.size fI (.ref cda) cc) (hG.keeps hk₁) T.sup (hmb.keeps hk₁) ((hbt _ (by decide +kernel)).trans (show bootBuiltins "super" = some (.type "super") by decide +kernel)) ⟨rfl, ?_⟩)
      refine wpAny_loadName_free rfl (xs_class T.f5) rfl ⟨_, X₁ _ _ hcell, rfl⟩ ?_
      refine wpAny_loadName_local rfl xs_self hn (look_self T.f2 T.f1 v (.ref e)) ?_
      refine ks_wpAny_isType_cls (X₁ _ _ hC) rfl ⟨rfl, ?_⟩
      refine ks_wpAny_call_super (X₁ _ _ hC) rfl hx₁ rfl (fun c z => nomatch z) (looks_mroIn X₁ T.self) (fun h₂ hso hk₂ => ?_)
      have X₂ : K.In h₂ := X₁.keeps hk₂
      have hx₂ := hk₂ _ _ hx₁
      have I₂ : InstAt h₂ e (excO C t0) C none := ⟨hx₂, rfl, rfl, trivial⟩
      refine kxs_getMethod kxs_ValueError hso (looks_opaque X₂ T.opq) (l₀ := .ref C :: bm) (fun A Q E s k q => wpAny_bind ((looks_clsIn X₂ hcl) A _ E s k (wpAny_pure q))) rfl X₂ (by have := T.up; unfold ks_superIn at this; rw [hcl] at this; exact this) (I₂.type.andThen (looks_subIn X₂ T.veC)) hxC (by decide) ?_
      have k₃ : ∀ b o, h₂.get? b = some o → (h₂.push (kxs_mw "ValueError.__init__" e)).get? b = some o := fun b o z => Heap.get?_push_of_some _ z
      have hu : (h₂.push (kxs_mw "ValueError.__init__" e)).get? h₂.objs.size = some (kxs_mw "ValueError.__init__" e) := Heap.get?_push_at rfl rfl
      have k03 : ∀ b o, hp.get? b = some o → (h₂.push (kxs_mw "ValueError.__init__" e)).get? b = some o := fun b o z => k₃ _ _ (hk₂ _ _ (hk₁ _ _ z))
      have n03 : (h₂.push (kxs_mw "ValueError.__init__" e)).Ns hp.objs.size (fun y => [((PySem.Str.ofString "self" : Str), Value.ref e), (f, v)].reverse.lookup y) := (hn.keeps hk₂).keeps k₃
      have z03 : h₂.objs.size < (h₂.push (kxs_mw "ValueError.__init__" e)).objs.size := by
        rw [Heap.size_push]
        exact Nat.lt_succ_self _
      generalize h₂.push (kxs_mw "ValueError.__init__" e) = h₃ at hu k03 n03 z03 ⊢
      refine kxs_callWith (i := "ValueError.__init__") (x := e) (by rfl) (evalArgs_plain ?_)
      refine Calls.spliced_cons (wpAny_Name (env := ksEnv ql (xS f) hp.objs.size fI (.ref cda) cc) (wpAny_loadName_local rfl hkf n03 (look_f T.f1 v (.ref e)) (Calls.spliced_nil ⟨hu, ?_⟩)) T.f3)
      refine vx_call (k03 _ _ (X _ _ hC)) (k03 _ _ hx) hu (by show 1 ≤ sizeLine; decide) fun h₄ k₄ hx₄ => ?_
      have k04 : ∀ b o, b ≠ e → hp.get? b = some o → h₄.get? b = some o := fun b o hb z => k₄ _ _ hb (k03 _ _ z)
      have X₄ : K.In h₄ := fun b o z => k04 b o (fun y => by rw [y, hnx] at z; cases z) (X _ _ z)
      have hLe : hp.objs.size ≠ e := Nat.ne_of_gt (Heap.lt_size hx)
      have n04 : h₄.Ns hp.objs.size (fun y => [((PySem.Str.ofString "self" : Str), Value.ref e), (f, v)].reverse.lookup y) := n03.at fun o z => k₄ _ _ hLe z
      show PySem.wpAt _ _ _ (execs _ _) _ _ _
      refine wpAt_of_wpAny (wpAny_execs_cons (plainObj_wpAny_Assign_Attribute (env := ksEnv ql (xS f) hp.objs.size fI (.ref cda) cc) ?_))
      refine wpAny_Name (env := ksEnv ql (xS f) hp.objs.size fI (.ref cda) cc) (wpAny_loadName_local rfl hkf n04 (look_f T.f1 v (.ref e)) ?_) T.f3
      refine wpAny_Name (env := ksEnv ql (xS f) hp.objs.size fI (.ref cda) cc) (wpAny_loadName_local rfl xs_self n04 (look_self T.f2 T.f1 v (.ref e)) ?_) (by decide)
      refine set_plain X₄ (ox := excO C h₃.objs.size) (od := none) ⟨hx₄, rfl, rfl, trivial⟩ T.sa ?_
      refine exc_osa X₄ hx₄ hcl (show refsVE (.ref C :: bm) = true from hbm) rfl T.no (fun h₅ tk₅ dx k₅ dn dne hx₅ hn₅ => ?_)
      have z4 : hp.objs.size < h₄.objs.size := n04.lt
      exact wpAny_execs_nil (hq h₅ tk₅ dx ⟨fun b o hb z => k₅ b o hb (k04 b o hb z), ⟨_, hx₅⟩, Nat.le_of_lt (Nat.lt_of_lt_of_le z4 dn), dne, hn₅⟩)
structure XMade (h h' : Heap) (e C d : Addr) (f : Str) (v : Value) : Prop where
  keep : ∀ b o, h.get? b = some o → h'.get? b = some o
  new : h.objs.size ≤ e
  obj : ∃ t1 : Addr, h'.get? e = some { cls := .ref C, dict := some d, data := .fields #[.ref t1, .none, .none, .none, .bool false, .none] }
  dbig : h.objs.size ≤ d
  dne : d ≠ e
  ns : h'.Ns1 d (fun y => if y = f then some v else none)
theorem vx_made (T : ExT P K mg x f C) {v : Value} (X : K.In s.heap) (hG : s.heap.Ns mainGlobals mg) (hB : ∃ mb, s.heap.Ns builtinsNs mb ∧ ∀ y : Str, y ≠ "__name__" → mb y = bootBuiltins y) (hlim : s.heap.NoLimit)
    (hroom : A.depth + 1 < recursionLimit) (hq : ∀ h' tk e d, XMade s.heap h' e C d f v → R (.ok (.ret (.ref e))) { s with heap := h', toks := tk }) :
    codeAny (model P w) A (.call (.ref C) ⟨[v], []⟩) R s := by
  obtain ⟨nm, q, N, bs, bm, sn, sub, ab, col, dd, k0, k1, k2, k3, k5, hC, hbm⟩ := T.cls
  obtain ⟨fI, _, _, _, _, _, _, _, _, _, _, _, _, _, _, _, _, _, _, _, _, _, _, _, hi, tI, _⟩ := T.fn
  obtain ⟨hp, g, dr, tk, os⟩ := s
  have k : ∀ b o, hp.get? b = some o → ((hp.push (kdv_tup [v])).push (excO C hp.objs.size)).get? b = some o := fun b o z => Heap.get?_push_of_some _ (Heap.get?_push_of_some _ z)
  have hget : ((hp.push (kdv_tup [v])).push (excO C hp.objs.size)).get? (hp.objs.size + 1) = some (excO C hp.objs.size) := by heap_get
  have hnx : K.lookup (hp.objs.size + 1) = none := by
    cases z : K.lookup (hp.objs.size + 1) with
    | none => rfl
    | some o => exact absurd (Nat.lt_of_succ_lt (Heap.lt_size (show hp.get? (hp.objs.size + 1) = some o from X _ _ z))) (Nat.lt_irrefl _)
  obtain ⟨mb, hmb, hbt⟩ := hB
  refine call_own PySem.F.excBase_ValueError (fun X => refsVE_contains X bm hbm) (X _ _ hC) (looks_findIn X hi) (fun self => bind_fn X self tI) (by show 1 ≤ sizeLine; decide) ?_
  refine vx_init (s := ⟨(hp.push (kdv_tup [v])).push (excO C hp.objs.size), g, dr, tk, os⟩) T (X.keeps k) (hG.keeps k) ⟨mb, hmb.keeps k, hbt⟩ (hlim.keeps k) hget hnx hroom hi fun h' tk' dx M => ⟨rfl, ?_⟩
  have z : hp.objs.size + 1 + 1 ≤ dx := by
    have q := M.dbig
    simpa only [Heap.size_push] using q
  exact hq h' tk' (hp.objs.size + 1) dx ⟨fun b o y => M.keep b o (Nat.ne_of_lt (Nat.lt_succ_of_lt (Heap.lt_size y))) (k b o y), Nat.le_succ _, M.obj, (by show hp.objs.size ≤ dx; omega), M.dne, M.ns⟩
end
end Fm
namespace Fm
open PySem PySem.Spec PyProof.Rows L2
theorem relO_one {v : V} {u : Value} (r : RelV v u) (f g : Str) : RelO (List.lookup g [(f, v)]) (if g = f then some u else none) := by
  by_cases hw : g = f
  · subst hw
    rw [if_pos rfl]
    rw [show List.lookup g [(g, v)] = some v by simp [List.lookup]]
    exact r
  · rw [if_neg hw]
    have q : (g == f) = false := by simpa using hw
    rw [show List.lookup g [(f, v)] = none by simp [List.lookup, q]]
    trivial
section
variable {X : Cx} {C : Addr} {x f : Str}
def tMkX (C : Addr) (f : Str) (ta : TA) : L2.St → Hp → XK → Prop := fun σ H Q => ta σ H fun vs H1 => ∃ v, vs = [v] ∧ ∀ d, H1 d = none → Q (.ref C) (some d) (upd H1 d (.xd [(f, v)]))
theorem pmk_x {a : Expr} {ta : TA} {p pos : Pos} {k : Nat} (T : ExT X.prog X.K X.mg x f C) (hr : Room k X.A) (ha : PA X [a] ta) (hg : Gl X x := by rfl) (hdb : (x == ("__debug__" : Str)) = false := by decide)
    (he : starEach (a :: []) X.env = (false, eval a X.env) :: starEach [] X.env := by rfl) (hpl : (backTo pos (starEach [] X.env)).any (·.1) = false := by rfl) :
    PMk X (.Call (.Name x p) [a] [] pos) (tMkX C f ta) := by
  intro pins s σ H Q I h
  refine wpAny_Call_Name_kw (ld_glob I hg T.gC ?_ hdb)
  refine PySem.W.callWith_K (h₀ := X.base) I.ok.mod.kin T.kC (thn (ha.run pos pins s σ H _ I h) fun us s1 hh => ?_) he hpl
  obtain ⟨vs, H1, I1, r1, v, rfl, q1⟩ := hh
  refine ⟨I1.kIn, ?_⟩
  obtain ⟨v', rfl, rv⟩ := r1.one
  have keepB : ∀ b o, X.base.get? b = some o → s1.heap.get? b = some o := fun b o z => (I1.env0.bs b o z).1
  have hG := I1.env0.mod.glob.keeps keepB
  obtain ⟨mb, hmb, hbt⟩ := I1.env0.mod.blt
  show wpAny _ _ (call (.ref C) [v']) _ _ _
  have hlim := I1.nolimit
  have hmb' := hmb.keeps keepB
  obtain ⟨hp, g, dr, tk, os⟩ := s1
  refine wpAny_call (vx_made T I1.kIn hG ⟨mb, hmb', hbt⟩ hlim (by have := hr.dp; omega) fun h' tk' e d M => ?_)
  show MkP X pins σ Q (.ref e) ⟨h', g, dr, tk', os⟩
  obtain ⟨t1, hoe⟩ := M.obj
  have hns := M.ns
  obtain ⟨G', g1, g2⟩ := restrict h' fun b => decide (b ≠ e)
  have gk : ∀ b, b ≠ e → G'.get? b = h'.get? b := fun b hb => g1 b (decide_eq_true hb)
  have ge : G'.get? e = none := g2 e (by simp)
  have old : ∀ b o, hp.get? b = some o → G'.get? b = some o := fun b o q => (gk b (Nat.ne_of_lt (Nat.lt_of_lt_of_le (Heap.lt_size q) M.new))).trans (M.keep b o q)
  have ob : ObjOk X.prog X.w (upd H1 d (.xd [(f, v)])) G' d (.xd [(f, v)]) := ⟨_, hns.at (fun o q => (gk d M.dne).trans q), fun y => relO_one rv f y⟩
  have J : Inv X pins σ (upd H1 d (.xd [(f, v)])) ⟨G', g, dr, tk', os⟩ := I1.laid (t' := tk') old M.dbig ob
  refine ⟨e, _, _, ⟨G', g, dr, tk', os⟩, _, .ref C, some d, rfl, J, fun b o q => ?_, ge, hoe, ⟨rfl, rfl⟩, rfl, rfl, ?_, rfl, I1.bare, raises_own T.exC T.tyC, q1 d (I1.hok.fresh M.dbig)⟩
  · by_cases hb : b = e
    · have q' : G'.get? b = some o := q
      rw [hb, ge] at q'
      cases q'
    · exact (gk b hb).symm.trans q
  · rw [upd_ne (Ne.symm M.dne)]
    exact I1.hok.fresh M.new
end
end Fm
namespace Fm
open PySem PySem.Spec PyProof.Rows L2
def txtOf : Value → Str
  | .str k _ => k
  | _ => Str.empty
section
variable {P : Program} {w : World} {A : Around} {E : Value → Shared → Prop} {s : Shared} {a : Addr} {S : Str → Bool} {n : Nat}
end
def SetSO (P : Program) (w : World) (a : Addr) (S : Str → Bool) (n : Nat) : HO := .ext fun h => SetS P w h a S n
section
variable {X : Cx}
def rSetOfS (K : PySem.W.Frag) (P : Program) (w : World) : List V → Hp → VK → Prop := fun xs H Q => ∃ (l : Addr) (ts : List Str), xs = [V.ref l] ∧ SqL K H l (ts.map V.str) ∧ ts.length ≤ 1000 ∧
  ∀ p (n : Nat), H p = none → n ≤ ts.length → Q (.ref p) (upd H p (SetSO P w p (fun j => decide (j ∈ ts)) n))
def rSortedSS (P : Program) (w : World) : List V → Hp → VK → Prop := fun vs H Q => ∃ (a : Addr) (S : Str → Bool) (n : Nat), vs = [V.ref a] ∧ H a = some (SetSO P w a S n) ∧ n < 64 ∧
  ∀ (xs : List Str) (p : Addr), sortedS xs = true → xs.Nodup → (∀ k, k ∈ xs ↔ S k = true) → xs.length = n → H p = none → Q (.ref p) (upd H p (.lst (xs.map V.str)))
end
section
variable {P : Program} {w : World} {A : Around} {E : Value → Shared → Prop} {s : Shared}
abbrev LsAt (h : Heap) (a : Addr) (vs : List Value) : Prop := ∃ n, IsL h a vs.toArray n
end
section
variable {P : Program} {w : World} {fs ex : List Addr} {H : Hp} {h h' : Heap} {a : Addr} {o : HO}
end
section
variable {X : Cx}
def rSumL (K : PySem.W.Frag) : List V → Hp → VK → Prop := fun vs H Q => ∃ (a b : Addr) (ls : List (Addr × List V)), vs = [.ref a, .ref b] ∧ SqL K H a (ls.map fun e => V.ref e.1) ∧ H b = some (.lst []) ∧ (∀ e ∈ ls, H e.1 = some (.lst e.2)) ∧ ((ls.map (·.2)).flatten).length ≤ sizeLine ∧
  (ls = [] → Q (.ref b) H) ∧ ∀ p, H p = none → Q (.ref p) (upd H p (.lst ((ls.map (·.2)).flatten)))
end
abbrev veMro : List Value := [.type "ValueError", .type "Exception", .type "BaseException", .type "object"]
structure ExZ (K : PySem.W.Frag) (mg : Str → Option Value) (x : Str) (C : Addr) : Prop where
  gC : mg x = some (.ref C)
  exC : PySem.W.subIn K (.ref C) (.type "BaseException") = some true
  hdC : PySem.W.hasDictIn K C = true
  tyC : PySem.W.typeIn K (.ref C) = some (.type "type")
  kC : PySem.W.keepIn K (.ref C) = true
  q : PySem.W.excIn K C veMro "ValueError.__new__" = true
section
variable {X : Cx} {C : Addr} {x : Str}
theorem pmk_z {p pos : Pos} (T : ExZ X.K X.mg x C) (hg : Gl X x := by rfl) (hdb : (x == ("__debug__" : Str)) = false := by decide) : PMk X (.Call (.Name x p) [] [] pos) (fun _ H Q => Q (.ref C) none H) := by
  intro pins s σ H Q I h
  refine wpAny_Call_Name_kw (ld_glob I hg T.gC ?_ hdb)
  refine PySem.W.callWith_K0 I.kIn T.kC ?_
  obtain ⟨bm, N, nm, qn, bs, hdct, sn, sub, ab, col, dd, k0, k1, k2, k3, k5, mN, hC, hN, hni, tl⟩ := exc_obj I.kIn T.q
  exact wpAny_call_exc_subT PySem.F.excBase_ValueError tl hC hN hni (fun h' e hm => mk_of I hm (raises_own T.exC T.tyC) h (I.hok.gone hm.new)) (Nat.zero_le _)
end
theorem kitOne_exd {K : PySem.W.Frag} {C D : Addr} (h : PySem.W.subIn K (.ref D) (.ref C) = some false) (hne : D ≠ C) (hc : PySem.W.hasDictIn K C = true) (ht : PySem.W.typeIn K (.ref C) = some (.type "type")) : PySem.W.kitOne K (.ref D) (.ref C) = some false := by
  unfold PySem.W.kitOne
  rw [if_neg (by simpa using hne)]
  show (if _ then _ else _) = _
  rw [if_pos ?_]
  · exact h
  · rw [ht]
    obtain ⟨cd, e, _⟩ := PySem.W.any_some hc
    simp [e]
theorem kitOne_ve {K : PySem.W.Frag} {D : Addr} (h : PySem.W.subIn K (.ref D) (.type "ValueError") = some true) : PySem.W.kitOne K (.ref D) (.type "ValueError") = some true := by
  unfold PySem.W.kitOne
  rw [if_neg (by simp)]
  show (if PySem.W.kitMeta "ValueError" = true then PySem.W.subIn K (.ref D) (.type "ValueError") else none) = _
  rw [if_pos (by decide +kernel)]
  exact h
end Fm
namespace Fm
open PySem PySem.Spec PyProof.Rows L2 SlX
section
variable {X : Cx} {CX : CXT} {k : Nat} {f C : Addr} {fd : FuncData} {ps : List Str} {sp : Sp} {E : L2.St → XK} {x : Str} {p pos : Pos} {e : Expr} {es : List Expr} {t : TA}
theorem run_makeS {pins : List (Addr × Obj)} {σ : L2.St} {H : Hp} {s : Shared} {Q : VK} {us : List Value} {vs : List V} (M : Mk X.K C f) (F : FnOk X.prog X.w X.K X.mg X.base CX k f fd ps sp) (hr : Room (k + 1) X.A) (hb : Binds X.K fd ps [])
    (hx : PassesAt CX X σ (E σ)) (I : Inv X pins σ H s) (r : Vals vs us)
    (h : ∀ x dx, H x = none → H dx = none → dx ≠ x → sp (.ref x :: vs) (upd (upd H dx (.own x)) x (.ins C dx [])) (fun v H2 => v = .non ∧ Q (.ref x) H2) (E σ)) :
    wpAny (model X.prog X.w) X.A (call (.ref C) us) (EP X pins σ Q) X.xe s := by
  have hq := h (s.heap.objs.size + 1) s.heap.objs.size (I.hok.fresh (Nat.le_succ _)) (I.hok.fresh (Nat.le_refl _)) (Nat.ne_of_lt (Nat.lt_succ_self _))
  have I2 := Inv.made (C := C) I
  have r2 : Vals (V.ref (s.heap.objs.size + 1) :: vs) (Value.ref (s.heap.objs.size + 1) :: us) := .cons rfl r
  have hl : (Value.ref (s.heap.objs.size + 1) :: us).length = ps.length := by
    have e := r2.length
    rw [F.len _ _ _ _ hq] at e
    exact e.symm
  have b := hb { s with heap := (s.heap.push _).push _ } (Value.ref (s.heap.objs.size + 1) :: us) I2.kIn (by rw [List.append_nil]; exact hl)
  rw [List.append_nil] at b
  refine wpAny_call (make_map (f := f) I.kIn M.makes M.init (beq_iff_eq.mp M.fn) (codeAny_mono (F.run _ X.stack _ _ ⟨Value.ref (s.heap.objs.size + 1) :: us, []⟩ (Value.ref (s.heap.objs.size + 1) :: us) _ _ (E σ) (hr.make C us [])
    (I2.env0.make C us []) b r2 hq) fun r s' hq' => ?_))
  cases r with
  | error e => exact hx pins _ _ e s' I2 hq'
  | ok fl =>
    cases fl with
    | ret u =>
      obtain ⟨v, H', I3, rv, ev, q3⟩ := I2.after hq'
      subst ev
      exact ⟨rv, ⟨V.ref (s.heap.objs.size + 1), H', I3, rfl, q3⟩⟩
    | next => exact False.elim hq'
    | brk => exact False.elim hq'
    | cont => exact False.elim hq'
def tMakeS (C : Addr) (sp : Sp) (E : L2.St → XK) (t : TA) : TE := fun σ H Q => t σ H fun vs H1 => ∀ x dx, H1 x = none → H1 dx = none → dx ≠ x → sp (.ref x :: vs) (upd (upd H1 dx (.own x)) x (.ins C dx [])) (fun v H2 => v = .non ∧ Q (.ref x) H2) (E σ)
theorem pe_makeS (M : Mk X.K C f) (F : FnOk X.prog X.w X.K X.mg X.base CX k f fd ps sp) (hr : Room (k + 1) X.A) (hg : Gl X x) (hm : X.mg x = some (.ref C)) (hb : Binds X.K fd ps []) (hx : ∀ σ, PassesAt CX X σ (E σ))
    (ha : PA X (e :: es) t) (hdb : (x == ("__debug__" : Str)) = false := by decide) (he : starEach (e :: es) X.env = (false, eval e X.env) :: starEach es X.env := by rfl) (hpl : (backTo pos (starEach es X.env)).any (·.1) = false := by rfl) :
    PE X (.Call (.Name x p) (e :: es) [] pos) (tMakeS C sp E t) := by
  refine ⟨fun pins s σ H Q I h => ?_⟩
  refine wpAny_Call_Name_kw (ld_glob I hg hm ?_ hdb)
  refine PySem.W.callWith_K (h₀ := X.base) I.ok.mod.kin M.kp (thn (ha.run pos pins s σ H _ I h) fun us s1 ⟨vs, H1, I1, r, q⟩ => ⟨I1.kIn, ?_⟩) he hpl
  exact run_makeS M F hr hb (hx σ) I1 r q
end
end Fm
namespace Fm
open PySem PySem.Spec PyProof.Rows L2
structure MethAt (K : PySem.W.Frag) (C : Addr) (m q : Str) (st : Stmt) (ps : List Str) where
  f : Addr
  fd : FuncData
  F : Fun K m q st f fd
  M : Meth K C m f
  b : Binds K fd ps []
structure ExN (K : PySem.W.Frag) (mg : Str → Option Value) (x : Str) (C : Addr) : Prop where
  gC : mg x = some (.ref C)
  exC : PySem.W.subIn K (.ref C) (.type "BaseException") = some true
  hdC : PySem.W.hasDictIn K C = true
  tyC : PySem.W.typeIn K (.ref C) = some (.type "type")
section
variable {X : Cx} {a : Addr} {oe : Obj} {cls : Value} {d : Option Addr} {pn : List (Addr × Obj)}
def rIsX (K : PySem.W.Frag) (a : Addr) (cls : Value) (d : Option Addr) : List V → Hp → VK → Prop := fun xs H Q => ∃ (D : Addr) (c : V) (cv : Value) (b : Bool), cls = .ref D ∧ ExcC K D ∧
  (d = none ∨ ∃ dd fs, d = some dd ∧ H dd = some (.xd fs)) ∧ xs = [.ref a, c] ∧ (∀ u, RelV c u → u = cv) ∧ PySem.W.kitOne K (.ref D) cv = some b ∧ Q (.bl b) H
theorem call_isX (hz : Zc cls d oe) (hf : ∃ vs, oe.data = .fields vs) : CallR (X.suite a ((a, oe) :: pn)) (.builtin "isinstance") (rIsX X.K a cls d) := by
  intro pins s σ H xs us Q I r h
  obtain ⟨D, c, cv, b, rfl, C, hd, rfl, hcv, e, q⟩ := h
  obtain ⟨u1, u2, rfl, rx, rt⟩ := vals2 r
  cases (show u1 = Value.ref a from rx)
  have ec := hcv _ rt
  subst ec
  obtain ⟨hget, _⟩ := I.pin (a, oe) (List.mem_append.mpr (.inl List.mem_cons_self))
  obtain ⟨vs, hv⟩ := hf
  have no : PySem.W.notCls oe = true := by
    unfold PySem.W.notCls
    rw [hv] <;> rfl
  obtain ⟨od, J⟩ : ∃ od, PySem.W.InstAt s.heap a oe D od := by
    rcases hd with rfl | ⟨dd, fs, rfl, hx⟩
    · refine ⟨none, hget, hz.1, no, ?_⟩
      rw [hz.2]
      trivial
    · obtain ⟨mA, hns, _⟩ := (show ObjOk X.prog X.w H s.heap dd (.xd fs) from I.hok dd _ hx)
      obtain ⟨od, ho, _⟩ := lookIn_ns hns
      refine ⟨some od, hget, hz.1, no, ?_⟩
      rw [hz.2]
      exact ho
  have hcl : (PySem.W.clsIn X.K D).isSome = true := by
    obtain ⟨cd, hc, _⟩ := PySem.W.any_some C.hd
    rw [hc]
    rfl
  exact PySem.W.kia_one (PySem.W.kitx_exc hcl C.hg C.hk C.hs C.ha C.hn C.ht C.hm) I.kIn J e (fun z => nomatch z) fun tk => ⟨.bl b, H, I.kept (t' := tk) fun _ _ z => z, rfl, q⟩
def tXfG (K : PySem.W.Frag) (a : Addr) (cls : Value) (d : Option Addr) (f : Str) (te : TE) : TE := fun σ H Q => te σ H fun x H1 => x = .ref a ∧ ∃ (C dd : Addr) (fs : List (Str × V)) (v : V), cls = .ref C ∧ XfC K C ∧ PySem.W.findIn K (.ref C) f = some none ∧
  d = some dd ∧ H1 dd = some (.xd fs) ∧ fs.lookup f = some v ∧ Q v H1
end
end Fm
namespace Fm
open PySem PySem.Spec PyProof.Rows L2
def ltSI (p q : Str × Int) : Bool := if p.1 = q.1 then decide (p.2 < q.2) else decide (p.1.cps.toList < q.1.cps.toList)
def IsSI (h : Heap) (v : Value) (x : Str) (i : Int) : Prop := ∃ (a : Addr) (o : Obj) (t u : Tok) (n : Nat), v = .ref a ∧ h.get? a = some o ∧ o.cls = .type "tuple" ∧ o.data = .seq #[.str x t, .int i u] n
theorem IsSI.one {h : Heap} {v : Value} {x y : Str} {i j : Int} (a : IsSI h v x i) (b : IsSI h v y j) : x = y ∧ i = j := by
  obtain ⟨p, o, t, u, n, rfl, ho, _, hd⟩ := a
  obtain ⟨p', o', t', u', n', e, ho', _, hd'⟩ := b
  cases e
  rw [ho] at ho'
  cases ho'
  rw [hd] at hd'
  injection hd' with h1 _
  have h2 := congrArg Array.toList h1
  simp at h2
  exact ⟨h2.1.1, h2.2.1⟩
section
variable {prog : Program} {w : World} {A : Around} {E : Value → Shared → Prop} {s : Shared}
end
section
variable {X : Cx}
def rItemsK : V → List V → Hp → VK → Prop := fun x xs H Q => ∃ (a : Addr) (kvs : List (L2.Key × V)), x = .ref a ∧ xs = [] ∧ H a = some (.dK kvs) ∧ ∀ p, H p = none → Q (.ref p) (upd H p (DX.itemsO p a))
abbrev rowK (r : Str × Int) : L2.Key × V := (Sum.inr r.1, .int r.2)
def rSortSI : List V → Hp → VK → Prop := fun xs H Q => ∃ (p a : Addr) (rows : List (Str × Int)), xs = [.ref p] ∧ H p = some (DX.itemsO p a) ∧ H a = some (.dK (rows.map rowK)) ∧
  ∀ (H' : Hp) (l : Addr) (ps : List (Addr × Str × Int)), (∀ b o, H b = some o → H' b = some o) → H l = none → (ps.map (·.2)).Perm rows → (ps.map (·.2)).Pairwise (fun e f => e.1.cps.toList < f.1.cps.toList) → H' l = some (.lst (ps.map fun z => V.ref z.1)) →
    (∀ z ∈ ps, H' z.1 = some (.tup [.str z.2.1, .int z.2.2])) → Q (.ref l) H'
end
end Fm
namespace Fm
open PySem PySem.Spec PyProof.Rows L2
structure KOrd (prog : Program) (w : World) (keys : List Value) (ltk : Value → Value → Bool) : Prop where
  swo : SrtO.Swo ltk
  kind : 2 ≤ keys.length → keyKind' keys.toArray = pure oneType'
  cmp : ∀ A s, SrtO.Cmp prog w A s oneType' (fun p => p.1 ∈ keys) (SrtO.lt2 ltk)
def sv : Value → List Nat
  | .str x _ => x.cps.toList
  | _ => []
def ltSv (v u : Value) : Bool := decide (sv v < sv u)
section
variable {prog : Program} {w : World} {A : Around} {E : Value → Shared → Prop} {s : Shared}
end
def ltV : V → V → Bool
  | .int i, .int j => decide (i < j)
  | .str x, .str y => decide (x.cps.toList < y.cps.toList)
  | _, _ => false
def KeysV (ks : List V) : Prop := (∃ ns : List Int, ks = ns.map V.int) ∨ (∃ xs : List Str, ks = xs.map V.str)
section
variable {X : Cx} {n : Nat} {f : Addr} {sp : Sp}
def rSortK (K : PySem.W.Frag) (f : Addr) (sp : Sp) : List V → List V → Hp → VK → Prop := fun vs zs H Q => ∃ (a : Addr) (xs ks : List V), vs = [.ref a] ∧ zs = [.ref f] ∧ (SqL K H a xs ∨ SqT K H a xs) ∧ ks.length = xs.length ∧ KeysV ks ∧
  (∀ (i : Nat) (x k : V), xs[i]? = some x → ks[i]? = some k → ∀ Q' : VK, Q' k H → sp [x] H Q' E0) ∧
  ∀ (ps : List (V × V)) (p : Addr) (H' : Hp), ps.Perm (ks.zip xs) → ps.Pairwise (fun p q => ltV q.1 p.1 = false) → H p = none → (∀ b o, H b = some o → H' b = some o) → H' p = some (.lst (ps.map (·.2))) → Q (.ref p) H'
end
end Fm
namespace Fm
open PySem PySem.Spec PyProof.Rows L2 SlX
structure PropAt (K : PySem.W.Frag) (C : Addr) (m q : Str) (st : Stmt) (ps : List Str) where
  f : Addr
  fd : FuncData
  F : Fun K m q st f fd
  p : Addr
  at_ : PySem.W.findIn K (.ref C) m = some (some (.ref p))
  get : PySem.W.specialIn K (.ref p) "__get__" = some (some (.builtin "property.__get__"))
  tk : PySem.W.takesIn K (.ref p) = some true
  rc : ∃ rest, PySem.W.recIn K p "property" = some (.ref f :: rest)
  b : Binds K fd ps []
section
variable {X : Cx} {CX : CXT} {C g : Addr} {n : Nat} {sp : Sp} {E : XK}
def rLenOwn (C : Addr) (sp : Sp) (E : XK) : List V → Hp → VK → Prop := fun xs H Q => ∃ a dx vs, xs = [V.ref a] ∧ Slt H a C dx vs ∧ sp [.ref a] H (fun z H' => ∃ i : Nat, z = .int i ∧ i ≤ 1000000 ∧ Q z H') E
end
end Fm
namespace Fm
open PySem PySem.Spec PyProof.Rows L2 SlX
structure DefAt (K : PySem.W.Frag) (mg : Str → Option Value) (x : Str) (st : Stmt) (ps : List Str) where
  f : Addr
  fd : FuncData
  F : Fun K x x st f fd
  g : mg x = some (.ref f)
  b : Binds K fd ps []
def topS (i : Nat) : Stmt := PySem.Challenge.pw_framemoves_k15_whole_least_patterns.main.body.getD i (.Pass ⟨0, 0, 0, 0⟩)
abbrev s__wall : Stmt := topS 0
abbrev N__wall : List Str := ["k"]
abbrev P__wall : List Str := ["k"]
abbrev s_is_integer : Stmt := topS 9
abbrev N_is_integer : List Str := ["thing"]
abbrev P_is_integer : List Str := ["thing"]
theorem sc_is_integer : FnScope N_is_integer P_is_integer (defScope s_is_integer) := ⟨rfl, rfl, rfl, by decide +kernel, rfl, by decide +kernel, by decide +kernel⟩
abbrev s_is_name : Stmt := topS 10
abbrev N_is_name : List Str := ["thing", "sign"]
abbrev P_is_name : List Str := ["thing"]
theorem sc_is_name : FnScope N_is_name P_is_name (defScope s_is_name) := ⟨rfl, rfl, rfl, by decide +kernel, rfl, by decide +kernel, by decide +kernel⟩
abbrev s_is_term : Stmt := topS 11
abbrev N_is_term : List Str := ["thing", "waiting", "one"]
abbrev P_is_term : List Str := ["thing"]
theorem sc_is_term : FnScope N_is_term P_is_term (defScope s_is_term) := ⟨rfl, rfl, rfl, by decide +kernel, rfl, by decide +kernel, by decide +kernel⟩
abbrev s_are_values : Stmt := topS 12
abbrev N_are_values : List Str := ["many", "thing", "one"]
abbrev P_are_values : List Str := ["many", "thing"]
theorem sc_are_values : FnScope N_are_values P_are_values (defScope s_are_values) := ⟨rfl, rfl, rfl, by decide +kernel, rfl, by decide +kernel, by decide +kernel⟩
abbrev s_are_terms : Stmt := topS 13
abbrev N_are_terms : List Str := ["thing", "one"]
abbrev P_are_terms : List Str := ["thing"]
theorem sc_are_terms : FnScope N_are_terms P_are_terms (defScope s_are_terms) := ⟨rfl, rfl, rfl, by decide +kernel, rfl, by decide +kernel, by decide +kernel⟩
abbrev s_put : Stmt := topS 15
abbrev N_put : List Str := ["term", "values", "part"]
abbrev P_put : List Str := ["term", "values"]
theorem sc_put : FnScope N_put P_put (defScope s_put) := ⟨rfl, rfl, rfl, by decide +kernel, rfl, by decide +kernel, by decide +kernel⟩
abbrev s_leaves : Stmt := topS 16
abbrev N_leaves : List Str := ["terms", "found", "waiting", "term"]
abbrev P_leaves : List Str := ["terms"]
theorem sc_leaves : FnScope N_leaves P_leaves (defScope s_leaves) := ⟨rfl, rfl, rfl, by decide +kernel, rfl, by decide +kernel, by decide +kernel⟩
abbrev s_numbered : Stmt := topS 17
abbrev N_numbered : List Str := ["terms", "numbers", "unknown", "term"]
abbrev P_numbered : List Str := ["terms"]
theorem sc_numbered : FnScope N_numbered P_numbered (defScope s_numbered) := ⟨rfl, rfl, rfl, by decide +kernel, rfl, by decide +kernel, by decide +kernel⟩
abbrev s_stood_for : Stmt := topS 19
abbrev N_stood_for : List Str := ["terms", "values", "known", "waiting", "one", "other", "unknown"]
abbrev P_stood_for : List Str := ["terms", "values"]
theorem sc_stood_for : FnScope N_stood_for P_stood_for (defScope s_stood_for) := ⟨rfl, rfl, rfl, by decide +kernel, rfl, by decide +kernel, by decide +kernel⟩
abbrev s_is_same_operation : Stmt := topS 20
abbrev N_is_same_operation : List Str := ["one", "other"]
abbrev P_is_same_operation : List Str := ["one", "other"]
theorem sc_is_same_operation : FnScope N_is_same_operation P_is_same_operation (defScope s_is_same_operation) := ⟨rfl, rfl, rfl, by decide +kernel, rfl, by decide +kernel, by decide +kernel⟩
abbrev s_joined : Stmt := topS 21
abbrev N_joined : List Str := ["one", "other", "pairs", "parts", "mine", "its", "part"]
abbrev P_joined : List Str := ["one", "other", "pairs"]
theorem sc_joined : FnScope N_joined P_joined (defScope s_joined) := ⟨rfl, rfl, rfl, by decide +kernel, rfl, by decide +kernel, by decide +kernel⟩
abbrev s_all_joined : Stmt := topS 22
abbrev N_all_joined : List Str := ["terms", "others", "found", "pairs", "one", "other", "term"]
abbrev P_all_joined : List Str := ["terms", "others"]
theorem sc_all_joined : FnScope N_all_joined P_all_joined (defScope s_all_joined) := ⟨rfl, rfl, rfl, by decide +kernel, rfl, by decide +kernel, by decide +kernel⟩
abbrev s__law_bag : Stmt := topS 25
abbrev N__law_bag : List Str := ["_law_script", "_law_cell"]
abbrev P__law_bag : List Str := ["_law_script"]
theorem sc__law_bag : FnScope N__law_bag P__law_bag (defScope s__law_bag) := ⟨rfl, rfl, rfl, by decide +kernel, rfl, by decide +kernel, by decide +kernel⟩
abbrev s__law_take : Stmt := topS 26
abbrev N__law_take : List Str := ["_law_bag_here", "_law_many", "_law_cell", "_law_mixed_here", "_law_value", "_law_begin", "_law_second"]
abbrev P__law_take : List Str := ["_law_bag_here", "_law_many"]
theorem sc__law_take : FnScope N__law_take P__law_take (defScope s__law_take) := ⟨rfl, rfl, rfl, by decide +kernel, rfl, by decide +kernel, by decide +kernel⟩
abbrev s__law_alike : Stmt := topS 27
abbrev N__law_alike : List Str := ["_law_found", "_law_due"]
abbrev P__law_alike : List Str := ["_law_found", "_law_due"]
theorem sc__law_alike : FnScope N__law_alike P__law_alike (defScope s__law_alike) := ⟨rfl, rfl, rfl, by decide +kernel, rfl, by decide +kernel, by decide +kernel⟩
abbrev s__law_mixed : Stmt := topS 28
abbrev N__law_mixed : List Str := ["_law_bag_here", "_law_things", "_law_found", "_law_thing"]
abbrev P__law_mixed : List Str := ["_law_bag_here", "_law_things"]
theorem sc__law_mixed : FnScope N__law_mixed P__law_mixed (defScope s__law_mixed) := ⟨rfl, rfl, rfl, by decide +kernel, rfl, by decide +kernel, by decide +kernel⟩
abbrev s__law_names : Stmt := topS 29
abbrev N__law_names : List Str := ["_law_bag_here", "_law_many", "_law_letters", "_law_words", "_law_way", "_law_turn", "_law_base", "_law_at", "_law_k"]
abbrev P__law_names : List Str := ["_law_bag_here", "_law_many"]
theorem sc__law_names : FnScope N__law_names P__law_names (defScope s__law_names) := ⟨rfl, rfl, rfl, by decide +kernel, rfl, by decide +kernel, by decide +kernel⟩
abbrev s__law_term : Stmt := topS 30
abbrev N__law_term : List Str := ["_law_bag_here", "_law_names_here", "_law_many", "_law_deep", "_law_way", "_law_name", "_law_parts", "_law_k"]
abbrev P__law_term : List Str := ["_law_bag_here", "_law_names_here", "_law_many", "_law_deep"]
theorem sc__law_term : FnScope N__law_term P__law_term (defScope s__law_term) := ⟨rfl, rfl, rfl, by decide +kernel, rfl, by decide +kernel, by decide +kernel⟩
abbrev s__law_put : Stmt := topS 31
abbrev N__law_put : List Str := ["_law_term_here", "_law_values", "_law_part"]
abbrev P__law_put : List Str := ["_law_term_here", "_law_values"]
theorem sc__law_put : FnScope N__law_put P__law_put (defScope s__law_put) := ⟨rfl, rfl, rfl, by decide +kernel, rfl, by decide +kernel, by decide +kernel⟩
abbrev s__law_column : Stmt := topS 32
abbrev N__law_column : List Str := ["_law_column_here", "_law_known", "_law_heads", "_law_parts", "_law_term_here", "_law_at", "_law_part"]
abbrev P__law_column : List Str := ["_law_column_here", "_law_known"]
theorem sc__law_column : FnScope N__law_column P__law_column (defScope s__law_column) := ⟨rfl, rfl, rfl, by decide +kernel, rfl, by decide +kernel, by decide +kernel⟩
abbrev s__law_general : Stmt := topS 33
abbrev N__law_general : List Str := ["_law_lists", "_law_known", "_law_at", "_law_some"]
abbrev P__law_general : List Str := ["_law_lists"]
theorem sc__law_general : FnScope N__law_general P__law_general (defScope s__law_general) := ⟨rfl, rfl, rfl, by decide +kernel, rfl, by decide +kernel, by decide +kernel⟩
abbrev s__law_rows : Stmt := topS 34
abbrev N__law_rows : List Str := ["_law_bag_here", "_law_names_here", "_law_wide", "_law_first", "_law_rows_here", "_law_k", "_law_own", "_law_row", "_law_j", "_law_term_here"]
abbrev P__law_rows : List Str := ["_law_bag_here", "_law_names_here"]
theorem sc__law_rows : FnScope N__law_rows P__law_rows (defScope s__law_rows) := ⟨rfl, rfl, rfl, by decide +kernel, rfl, by decide +kernel, by decide +kernel⟩
abbrev s__law_unlike : Stmt := topS 35
abbrev N__law_unlike : List Str := ["_law_one", "_law_other", "_law_found", "e"]
abbrev P__law_unlike : List Str := ["_law_one", "_law_other"]
theorem sc__law_unlike : FnScope N__law_unlike P__law_unlike (defScope s__law_unlike) := ⟨rfl, rfl, rfl, by decide +kernel, rfl, by decide +kernel, by decide +kernel⟩
abbrev s_law : Stmt := topS 36
abbrev N_law : List Str := ["_law_script", "_law_bag_here", "_law_names_here", "_law_turn", "_law_rows_here", "_law_patterns", "_law_due", "_law_again", "_law_found", "_law_pattern", "_law_two", "_law_others", "_law_row"]
abbrev P_law : List Str := ["_law_script"]
theorem sc_law : FnScope N_law P_law (defScope s_law) := ⟨rfl, rfl, rfl, by decide +kernel, rfl, by decide +kernel, by decide +kernel⟩
abbrev s_Pattern___init__ : Stmt := inClass (topS 23) 1
abbrev N_Pattern___init__ : List Str := ["self", "terms"]
abbrev P_Pattern___init__ : List Str := ["self", "terms"]
theorem sc_Pattern___init__ : FnScope N_Pattern___init__ P_Pattern___init__ (defScope s_Pattern___init__) := ⟨rfl, rfl, rfl, by decide +kernel, rfl, by decide +kernel, by decide +kernel⟩
abbrev s_Pattern_terms : Stmt := inClass (topS 23) 2
abbrev N_Pattern_terms : List Str := ["self"]
abbrev P_Pattern_terms : List Str := ["self"]
theorem sc_Pattern_terms : FnScope N_Pattern_terms P_Pattern_terms (defScope s_Pattern_terms) := ⟨rfl, rfl, rfl, by decide +kernel, rfl, by decide +kernel, by decide +kernel⟩
abbrev s_Pattern___eq__ : Stmt := inClass (topS 23) 3
abbrev N_Pattern___eq__ : List Str := ["self", "other"]
abbrev P_Pattern___eq__ : List Str := ["self", "other"]
theorem sc_Pattern___eq__ : FnScope N_Pattern___eq__ P_Pattern___eq__ (defScope s_Pattern___eq__) := ⟨rfl, rfl, rfl, by decide +kernel, rfl, by decide +kernel, by decide +kernel⟩
abbrev s_Pattern___len__ : Stmt := inClass (topS 23) 4
abbrev N_Pattern___len__ : List Str := ["self"]
abbrev P_Pattern___len__ : List Str := ["self"]
abbrev s_Pattern___repr__ : Stmt := inClass (topS 23) 5
abbrev N_Pattern___repr__ : List Str := ["self"]
abbrev P_Pattern___repr__ : List Str := ["self"]
theorem sc_Pattern___repr__ : FnScope N_Pattern___repr__ P_Pattern___repr__ (defScope s_Pattern___repr__) := ⟨rfl, rfl, rfl, by decide +kernel, rfl, by decide +kernel, by decide +kernel⟩
abbrev s_Pattern_instance : Stmt := inClass (topS 23) 6
abbrev N_Pattern_instance : List Str := ["self", "values"]
abbrev P_Pattern_instance : List Str := ["self", "values"]
abbrev s_Pattern___contains__ : Stmt := inClass (topS 23) 7
abbrev N_Pattern___contains__ : List Str := ["self", "values"]
abbrev P_Pattern___contains__ : List Str := ["self", "values"]
theorem sc_Pattern___contains__ : FnScope N_Pattern___contains__ P_Pattern___contains__ (defScope s_Pattern___contains__) := ⟨rfl, rfl, rfl, by decide +kernel, rfl, by decide +kernel, by decide +kernel⟩
abbrev s_Pattern___or__ : Stmt := inClass (topS 23) 8
abbrev N_Pattern___or__ : List Str := ["self", "other"]
abbrev P_Pattern___or__ : List Str := ["self", "other"]
theorem sc_Pattern___or__ : FnScope N_Pattern___or__ P_Pattern___or__ (defScope s_Pattern___or__) := ⟨rfl, rfl, rfl, by decide +kernel, rfl, by decide +kernel, by decide +kernel⟩
structure TX (K : PySem.W.Frag) (mg : Str → Option Value) where
  d__wall : DefAt K mg "_wall" s__wall P__wall
  d_is_integer : DefAt K mg "is_integer" s_is_integer P_is_integer
  d_is_name : DefAt K mg "is_name" s_is_name P_is_name
  d_is_term : DefAt K mg "is_term" s_is_term P_is_term
  d_are_values : DefAt K mg "are_values" s_are_values P_are_values
  d_are_terms : DefAt K mg "are_terms" s_are_terms P_are_terms
  d_put : DefAt K mg "put" s_put P_put
  d_leaves : DefAt K mg "leaves" s_leaves P_leaves
  d_numbered : DefAt K mg "numbered" s_numbered P_numbered
  d_stood_for : DefAt K mg "stood_for" s_stood_for P_stood_for
  d_is_same_operation : DefAt K mg "is_same_operation" s_is_same_operation P_is_same_operation
  d_joined : DefAt K mg "joined" s_joined P_joined
  d_all_joined : DefAt K mg "all_joined" s_all_joined P_all_joined
  d__law_bag : DefAt K mg "_law_bag" s__law_bag P__law_bag
  d__law_take : DefAt K mg "_law_take" s__law_take P__law_take
  d__law_alike : DefAt K mg "_law_alike" s__law_alike P__law_alike
  d__law_mixed : DefAt K mg "_law_mixed" s__law_mixed P__law_mixed
  d__law_names : DefAt K mg "_law_names" s__law_names P__law_names
  d__law_term : DefAt K mg "_law_term" s__law_term P__law_term
  d__law_put : DefAt K mg "_law_put" s__law_put P__law_put
  d__law_column : DefAt K mg "_law_column" s__law_column P__law_column
  d__law_general : DefAt K mg "_law_general" s__law_general P__law_general
  d__law_rows : DefAt K mg "_law_rows" s__law_rows P__law_rows
  d__law_unlike : DefAt K mg "_law_unlike" s__law_unlike P__law_unlike
  d_law : DefAt K mg "law" s_law P_law
  C_Pattern : Addr
  g_Pattern : mg "Pattern" = some (.ref C_Pattern)
  k_Pattern : PySem.W.keepIn K (.ref C_Pattern) = true
  c_Pattern : SCls K C_Pattern
  mk_Pattern : PySem.W.makesIn K C_Pattern = true
  is_Pattern : SIsi K C_Pattern
  ne_Pattern : PySem.W.findIn K (.ref C_Pattern) "__ne__" = some (some (.builtin "object.__ne__"))
  ty_Pattern : PySem.W.typeIn K (.ref C_Pattern) = some (.type "type")
  p_Pattern_its_terms : Addr
  sl_Pattern_its_terms : Slot1 K C_Pattern "its_terms" p_Pattern_its_terms 0
  d_Pattern___init__ : MethAt K C_Pattern "__init__" "Pattern.__init__" s_Pattern___init__ P_Pattern___init__
  d_Pattern_terms : PropAt K C_Pattern "terms" "Pattern.terms" s_Pattern_terms P_Pattern_terms
  d_Pattern___eq__ : MethAt K C_Pattern "__eq__" "Pattern.__eq__" s_Pattern___eq__ P_Pattern___eq__
  d_Pattern___len__ : MethAt K C_Pattern "__len__" "Pattern.__len__" s_Pattern___len__ P_Pattern___len__
  d_Pattern___repr__ : MethAt K C_Pattern "__repr__" "Pattern.__repr__" s_Pattern___repr__ P_Pattern___repr__
  d_Pattern_instance : MethAt K C_Pattern "instance" "Pattern.instance" s_Pattern_instance P_Pattern_instance
  d_Pattern___contains__ : MethAt K C_Pattern "__contains__" "Pattern.__contains__" s_Pattern___contains__ P_Pattern___contains__
  d_Pattern___or__ : MethAt K C_Pattern "__or__" "Pattern.__or__" s_Pattern___or__ P_Pattern___or__
  mul_Pattern : PySem.W.selfFirst K C_Pattern = true
  nl_Pattern : PySem.W.subIn K (.ref C_Pattern) (.type "list") = some false
  nt_Pattern : PySem.W.subIn K (.ref C_Pattern) (.type "tuple") = some false
  b_ValueError : mg "ValueError" = none
  b_abs : mg "abs" = none
  b_all : mg "all" = none
  b_bool : mg "bool" = none
  b_int : mg "int" = none
  b_isinstance : mg "isinstance" = none
  b_len : mg "len" = none
  b_list : mg "list" = none
  b_range : mg "range" = none
  b_repr : mg "repr" = none
  b_sorted : mg "sorted" = none
  b_str : mg "str" = none
  b_tuple : mg "tuple" = none
  b_zip : mg "zip" = none
  v_LETTERS : Value
  c_LETTERS : mg "LETTERS" = some v_LETTERS
  r_LETTERS : RelV (.str "abcdefghijklmnopqrstuvwxyz") v_LETTERS
  v_MOST_LETTERS : Value
  c_MOST_LETTERS : mg "MOST_LETTERS" = some v_MOST_LETTERS
  r_MOST_LETTERS : RelV (.int 8) v_MOST_LETTERS
  v_MOST_PARTS : Value
  c_MOST_PARTS : mg "MOST_PARTS" = some v_MOST_PARTS
  r_MOST_PARTS : RelV (.int 3) v_MOST_PARTS
structure TY (P : Program) (K : PySem.W.Frag) (mg : Str → Option Value) where
  C_MoveError : Addr
  x_MoveError : ExN K mg "MoveError" C_MoveError
  C_Wrong : Addr
  x_Wrong : ExT P K mg "Wrong" "place" C_Wrong
  C_Unlike : Addr
  x_Unlike : ExZ K mg "Unlike" C_Unlike
  xc_Wrong : ExcC K C_Wrong
  xc_Unlike : ExcC K C_Unlike
  ed_Unlike_Wrong : PySem.W.kitOne K (.ref C_Unlike) (.ref C_Wrong) = some false
  ev_Wrong : PySem.W.kitOne K (.ref C_Wrong) (.type "ValueError") = some true
  em_Wrong_MoveError : PySem.W.exmOne K (.ref C_Wrong) (.ref C_MoveError) = some true
  em_Unlike_MoveError : PySem.W.exmOne K (.ref C_Unlike) (.ref C_MoveError) = some true
end Fm
namespace Fm
open PySem PySem.Spec PyProof.Rows L2
section
variable {P : Program} {w : World} {K : PySem.W.Frag} {mg : Str → Option Value} {base : Heap}
def sp_bag (K : PySem.W.Frag) : Sp := fun vs H Q _ => ∃ (a : Addr) (ns : List Int), vs = [.ref a] ∧ SqL K H a (ns.map V.int) ∧ ns.length ≤ 63 ∧ ∀ H' p, Mv [] H H' → H p = none → Bag H' p → Q (.ref p) H'
theorem cut63 (xs : List V) (h : xs.length ≤ 63) : cutV xs none (some 63) = xs := by
  unfold cutV
  rw [HT.sIx_none, show HT.sIx xs.length xs.length (some 63) = min 63 xs.length from HT.sIx_nat xs.length xs.length 63, List.drop_zero, List.take_of_length_le (by omega)]
theorem ok__law_bag (T : TX K mg) {k : Nat} : FnOk P w K mg base CX0 (k + 1) T.d__law_bag.f T.d__law_bag.fd P__law_bag (sp_bag K) := by
  refine T.d__law_bag.F.ok sc__law_bag (fun vs H Q E h => ?_) (fun cdv A outer s H vs Q E hr h => ?_)
  · obtain ⟨a, ns, rfl, _⟩ := h
    rfl
  · obtain ⟨a, ns, rfl, hS, hl, q⟩ := h
    refine ⟨_, (pss_one (ps_ret (pe_lst (pa_cons pe_int (pa_cons pe_int (pa_cons pe_int (pa_cons (pe_lc (own := [("_law_cell", 1)]) (g := gName 1) (by rfl) sc__law_bag.nd (pi_seq (pe_slice (r := rSlG K) sl_G (pv 0) po_none (po_some pe_int))) (blkOk_by (own := [("_law_cell", 1)]) (N := N__law_bag) (sc := defScope s__law_bag) (by decide +kernel)) (fun _ _ _ _ _ => pg_name (i := 1) sc__law_bag.nd rfl (Or.inl rfl)) (fun _ _ _ _ _ => pts_nil) (fun _ _ _ _ _ => (pe_callB call_abs (by rfl) T.b_abs bt_abs (pa_cons (pv 1) pa_nil)))) pa_nil))))))), ?_⟩
    refine ⟨.ref a, rfl, 63, rfl, Or.inl ⟨a, _, rfl, hS, fun c nc => ⟨c, rfl, Or.inl ⟨⟨_, .inl (.inl upd_same)⟩, fun D nD => ?_⟩⟩⟩⟩
    have hlen : (ns.map V.int).length ≤ 63 := by rw [List.length_map]; exact hl
    rw [cut63 _ hlen] at nD ⊢
    refine lc_list (K := K) (a := c) (xs := ns.map V.int) (fun i H3 => ∃ ms : List Int, H3 c = some (.lst (ns.map V.int)) ∧ H3 D = some (.lst (ms.map V.int)) ∧ ms.length = i ∧ (∀ n ∈ ms, 0 ≤ n) ∧ Mv [] H H3)
      ⟨[], ?_, upd_same, rfl, by simp, ?_⟩ (fun i H3 _ h3 => ?_) (fun i x H3 hx h3 => ?_) (fun H3 h3 => ?_)
    · rw [upd_ne (ne_of_none upd_same nD), upd_same]
    · exact (Mv.new nc).trans (.new nD)
    · obtain ⟨ms, h1, _⟩ := h3
      exact .inl (.inl h1)
    · obtain ⟨ms, h1, h2, h4, h5, h6⟩ := h3
      obtain ⟨n, hn, rfl⟩ : ∃ n ∈ ns, x = .int n := by
        have := List.mem_of_getElem? hx
        obtain ⟨n, hn, e⟩ := List.mem_map.mp this
        exact ⟨n, hn, e.symm⟩
      have hDc : c ≠ D := ne_of_none upd_same nD
      refine ⟨rfl, .int n, rfl, n, rfl, _, h2, ?_, ms ++ [if n < 0 then -n else n], ?_, ?_, ?_, ?_, ?_⟩
      · rw [List.length_map]
        have := (List.getElem?_eq_some_iff.mp hx).1
        rw [List.length_map] at this
        exact small1000 (by omega)
      · rw [upd_ne hDc]
        exact h1
      · rw [upd_same, List.map_append]
        rfl
      · simp [h4]
      · intro z hz
        rcases List.mem_append.mp hz with hz | hz
        · exact h5 z hz
        · rw [List.mem_singleton.mp hz]
          split <;> omega
      · exact h6.wr ((Mv.new nc).free nD)
    · obtain ⟨ms, h1, h2, h4, h5, h6⟩ := h3
      refine ⟨(by decide : 4 ≤ sizeLine), fun p np => q _ p (h6.trans (.new np)) (h6.free np) ⟨D, 0, 1234567891, 0, ms, upd_same, ?_, ?_, h5, by decide, by decide, by decide⟩⟩
      · rw [upd_ne (ne_of_none h2 np)]
        exact h2
      · rw [h4, List.length_map]
        exact hl
def sp_take : Sp := fun vs H Q _ => ∃ (b : Addr) (n : Int), vs = [.ref b, .int n] ∧ Bag H b ∧ 0 < n ∧ n ≤ 1000000 ∧ ∀ (i : Int) H', 0 ≤ i → i < n → Dr b H H' → Q (.int i) H'
theorem Bag.set {H : Hp} {b c : Addr} {ns : List Int} {s m k : Int} {xs : List V} (hb : H b = some (.lst xs)) (hc : H c = some (.lst (ns.map V.int))) (hcb : c ≠ b)
    (hl : ns.length ≤ 63) (hn : ∀ n ∈ ns, 0 ≤ n) (h1 : 0 ≤ s) (h2 : 0 ≤ k) (h3 : 0 ≤ m) : BagC (upd H b (.lst [.int s, .int m, .int k, .ref c])) b c :=
  ⟨s, m, k, ns, upd_same, by rw [upd_ne hcb]; exact hc, hl, hn, h1, h2, h3⟩
theorem rd_set {p : Addr} {xs ys : List V} {k : Int} {j : Nat} {v : V} {H : Hp} {Q : Hp → Prop} (hp : H p = some (.lst xs)) (hj : ixN xs.length k = some j) (hy : xs.set j v = ys)
    (h : ∀ H', H' p = some (.lst ys) → Mv [p] H H' → (∀ a, a ≠ p → H' a = H a) → Q H') : rSetL (.ref p) (.int k) v H Q := by
  refine ⟨p, xs, k, j, rfl, rfl, hp, hj, ?_⟩
  rw [hy]
  exact h _ upd_same (.set hp (by simp)) fun a ha => upd_ne ha
theorem ok__law_take (T : TX K mg) {k : Nat} : FnOk P w K mg base CX0 (k + 1) T.d__law_take.f T.d__law_take.fd P__law_take sp_take := by
  refine T.d__law_take.F.ok sc__law_take (fun vs H Q E h => ?_) (fun cdv A outer s H vs Q E hr h => ?_)
  · obtain ⟨a, ns, rfl, _⟩ := h
    rfl
  · obtain ⟨b, n, rfl, hB, h0, h1, q⟩ := h
    have hu64 := hr.units
    refine ⟨_, (Evl.pss_cut (ps_if (pt_cmpR (r := rEqG K) (op_eqG hu64) (pe_ix (r := rIx K) ix_seq (pv 0) pe_int (fun _ _ => rfl)) pe_int (nomark _)) (pss_cons (ps_set (i := 2) sc__law_take.nd rfl (Or.inl rfl) pe_int) (Evl.pss_cut (ps_if (pt_cmpR op_lt (pe_ix (r := rIx K) ix_seq (pv 0) pe_int (fun _ _ => rfl)) (pe_callB (r := rLenG K) call_lenG (by rfl) T.b_len bt_len (pa_cons (pe_ix (r := rIx K) ix_seq (pv 0) pe_int (fun _ _ => rfl)) pa_nil)) (nomark _)) (pss_one (ps_set (i := 2) sc__law_take.nd rfl (Or.inl rfl) (pe_ix (r := rIx K) ix_seq (pe_ix (r := rIx K) ix_seq (pv 0) pe_int (fun _ _ => rfl)) (pe_ix (r := rIx K) ix_seq (pv 0) pe_int (fun _ _ => rfl)) (fun _ _ => rfl)))) pss_nil) (pss_cons (ps_augS (pv 0) pe_int get_G pe_int ip_add set_list) (Evl.pss_cut (ps_if (pt_cmpR op_ge (pv 2) pe_int (nomark _)) (pss_one (ps_asg (pv 2) (pg_sub (pv 0) pe_int set_list))) pss_nil) (pss_cons (ps_set (i := 3) sc__law_take.nd rfl (Or.inl rfl) (pe_op (r := rAddG K) op_addG (pe_op (r := rAddG K) op_addG (pe_op op_mulG (pe_ix (r := rIx K) ix_seq (pv 0) pe_int (fun _ _ => rfl)) pe_int) (pe_op op_mod (pe_callTy call_int1 (by rfl) T.b_int bt_int (pa_cons (pv 2) pa_nil)) pe_int)) (pe_op op_mulG pe_int (pe_ix (r := rIx K) ix_seq (pv 0) pe_int (fun _ _ => rfl))))) (pss_one (ps_asg (pe_op op_mod (pe_callTy call_int1 (by rfl) T.b_int bt_int (pa_cons (pv 3) pa_nil)) pe_int) (pg_sub (pv 0) pe_int set_list)))))))) pss_nil) (pss_cons (ps_if (pt_cmpR op_gt (pe_ix (r := rIx K) ix_seq (pv 0) pe_int (fun _ _ => rfl)) pe_int (nomark _)) (pss_cons (ps_set (i := 4) sc__law_take.nd rfl (Or.inl rfl) (pe_op op_mod (pe_callTy call_int1 (by rfl) T.b_int bt_int (pa_cons (pe_ix (r := rIx K) ix_seq (pv 0) pe_int (fun _ _ => rfl)) pa_nil)) (pv 1))) (pss_cons (ps_asg (pe_op op_fdivW (pe_ix (r := rIx K) ix_seq (pv 0) pe_int (fun _ _ => rfl)) (pv 1)) (pg_sub (pv 0) pe_int set_list)) (pss_one (ps_ret (pv 4))))) pss_nil) (pss_cons (ps_set (i := 5) sc__law_take.nd rfl (Or.inl rfl) (pe_op op_mod (pe_callTy call_int1 (by rfl) T.b_int bt_int (pa_cons (pe_op op_mulG (pe_op (r := rAddG K) op_addG (pe_ix (r := rIx K) ix_seq (pv 0) pe_int (fun _ _ => rfl)) pe_int) pe_int) pa_nil)) pe_int)) (pss_cons (ps_set (i := 6) sc__law_take.nd rfl (Or.inl rfl) (pe_op op_mod (pe_callTy call_int1 (by rfl) T.b_int bt_int (pa_cons (pe_op op_mulG (pe_op op_mod (pe_callTy call_int1 (by rfl) T.b_int bt_int (pa_cons (pe_op op_mulG (pv 5) (pv 5)) pa_nil)) pe_int) pe_int) pa_nil)) pe_int)) (pss_cons (ps_if (pt_cmpR op_gt (pv 1) pe_int (nomark _)) (pss_one (ps_ret (pe_op op_mod (pe_callTy call_int1 (by rfl) T.b_int bt_int (pa_cons (pe_op (r := rAddG K) op_addG (pe_op op_mulG (pv 6) pe_int) (pv 5)) pa_nil)) (pv 1)))) pss_nil) (pss_one (ps_ret (pe_op op_mod (pe_callTy call_int1 (by rfl) T.b_int bt_int (pa_cons (pe_op op_fdivW (pv 6) pe_int) pa_nil)) (pv 1))))))))), ?_⟩
    obtain ⟨c, hB⟩ := hB
    have hBC := hB
    obtain ⟨z, m, j, ns, eb, ec, hl, hn, hz, hj, hm⟩ := hB
    have hcb : c ≠ b := Bag.ne (xs := [.int z, .int m, .int j]) eb ec
    have sq : ∀ {H : Hp} {xs : List V}, H b = some (.lst xs) → SqL K H b xs := fun h => .inl (.inl h)
    refine ⟨fun σ H1 => ∃ y2 y3 y4 y5 y6, σ = [some (.ref b), some (.int n), y2, y3, y4, y5, y6] ∧ Dr b H H1 ∧ BagC H1 b c, ?_, fun σ H1 hM => ?_⟩
    · refine ⟨.ref b, rfl, Or.inl ⟨b, _, 0, .int z, rfl, rfl, sq eb, rfl, Or.inl ⟨rfl, _, rfl, ite2 (fun e => ?_) (fun e => ?_)⟩⟩⟩
      · -- cell = 0; the next cell
        refine ⟨fun σ H1 => ∃ x : Int, 0 ≤ x ∧ σ = [some (.ref b), some (.int n), some (.int x), none, none, none, none] ∧ H1 = H, ?_, fun σ H1 hM => ?_⟩
        · refine ⟨.ref b, rfl, Or.inl ⟨b, _, 2, .int j, rfl, rfl, sq eb, rfl, .ref b, rfl, Or.inl ⟨b, _, 3, .ref c, rfl, rfl, sq eb, rfl, Or.inl ⟨c, _, rfl, .inl (.inl (.inl ec)), j, _, rfl, rfl, _, rfl, ite2 (fun e => ?_) (fun e => ?_)⟩⟩⟩⟩
          · have e' : j < (ns.map V.int).length := of_decide_eq_true e
            obtain ⟨i, rfl⟩ := Int.eq_ofNat_of_zero_le hj
            have hi : i < ns.length := by
              rw [List.length_map] at e'
              omega
            have gi : (ns.map V.int)[i]? = some (.int ns[i]) := by
              rw [List.getElem?_map, List.getElem?_eq_getElem hi]
              rfl
            refine ⟨.ref b, rfl, Or.inl ⟨b, _, 3, .ref c, rfl, rfl, sq eb, rfl, .ref b, rfl, Or.inl ⟨b, _, 2, .int (i : Int), rfl, rfl, sq eb, rfl, Or.inl ⟨c, _, _, .int ns[i], rfl, rfl, .inl (.inl ec), atI_nat gi, ?_⟩⟩⟩⟩
            exact ⟨ns[i], hn _ (List.getElem_mem hi), rfl, rfl⟩
          · exact ⟨0, Int.le_refl _, rfl, rfl⟩
        · obtain ⟨x, hx, rfl, rfl⟩ := hM
          refine ⟨.ref b, rfl, b, _, 2, .int j, rfl, rfl, sq eb, rfl, j, 1, rfl, rfl, rd_set eb rfl rfl fun H2 eb2 m1 k1 => ?_⟩
          have ec2 : H2 c = some (.lst (ns.map V.int)) := by rw [k1 c hcb]; exact ec
          refine ⟨fun σ H3 => ∃ z' : Int, 0 ≤ z' ∧ σ = [some (.ref b), some (.int n), some (.int x), none, none, none, none] ∧ H3 b = some (.lst [.int z', .int m, .int (j + 1), .ref c]) ∧ H3 c = some (.lst (ns.map V.int)) ∧ Mv [b] H2 H3, ?_, fun σ H3 hM => ?_⟩
          · refine ⟨.int x, rfl, x, _, rfl, rfl, _, rfl, ite2 (fun e => ?_) (fun e => ?_)⟩
            · refine ⟨.int x, rfl, .ref b, rfl, b, _, 0, 0, rfl, rfl, eb2, rfl, x, hx, rfl, upd_same, ?_, .set eb2 (by simp)⟩
              rw [upd_ne hcb]
              exact ec2
            · exact ⟨z, hz, rfl, eb2, ec2, .refl⟩
          · obtain ⟨z', hz', rfl, eb3, ec3, m3⟩ := hM
            refine ⟨.ref b, rfl, Or.inl ⟨b, _, 1, .int m, rfl, rfl, sq eb3, rfl, Or.inl ⟨m, 48271, rfl, rfl, .inr ⟨by decide, by decide⟩, .int x, rfl, Or.inl ⟨x, rfl, x, _, rfl, rfl, (by decide : (0 : Int) < _), ?_⟩⟩⟩⟩
            refine Or.inl ⟨_, _, rfl, rfl, .ref b, rfl, Or.inl ⟨b, _, 2, .int (j + 1), rfl, rfl, sq eb3, rfl, Or.inl ⟨7919, j + 1, rfl, rfl, .inl ⟨by decide, by decide⟩, Or.inl ⟨_, _, rfl, rfl, ?_⟩⟩⟩⟩
            refine ⟨_, rfl, Or.inl ⟨_, rfl, _, _, rfl, rfl, (by decide : (0 : Int) < _), .ref b, rfl, b, _, 1, 1, rfl, rfl, eb3, rfl, _, _, _, _, _, rfl, ?_, ?_⟩⟩
            · exact .mkc ((m1.trans m3).trans (.set eb3 (by simp))) hBC (Bag.set eb3 ec3 hcb hl hn hz' (by omega) (Int.emod_nonneg _ (by decide)))
            · exact Bag.set eb3 ec3 hcb hl hn hz' (by omega) (Int.emod_nonneg _ (by decide))
      · exact ⟨_, _, _, _, _, rfl, .refl, z, m, j, ns, eb, ec, hl, hn, hz, hj, hm⟩
    · obtain ⟨y2, y3, y4, y5, y6, rfl, hD, hB⟩ := hM
      have hBC1 := hB
      obtain ⟨z, m, j, ns, eb, ec, hl, hn, hz, hj, hm⟩ := hB
      have hcb : c ≠ b := Bag.ne (xs := [.int z, .int m, .int j]) eb ec
      refine ⟨.ref b, rfl, Or.inl ⟨b, _, 0, .int z, rfl, rfl, sq eb, rfl, z, 0, rfl, rfl, _, rfl, ite2 (fun e => ?_) (fun e => ?_)⟩⟩
      · -- value = int(bag[0]) % many; bag[0] = bag[0] // many; return value
        refine ⟨.ref b, rfl, Or.inl ⟨b, _, 0, .int z, rfl, rfl, sq eb, rfl, Or.inl ⟨z, rfl, .int n, rfl, z, n, rfl, rfl, h0, ?_⟩⟩⟩
        refine ⟨.ref b, rfl, Or.inl ⟨b, _, 0, .int z, rfl, rfl, sq eb, rfl, .int n, rfl, z, n, rfl, rfl, ?_, ?_⟩⟩
        · exact wide_div (b := 64) h0 (by omega) (by decide) (by decide)
        · refine ⟨.ref b, rfl, b, _, 0, 0, rfl, rfl, eb, rfl, ?_⟩
          refine ⟨.int (z % n), rfl, q _ _ (Int.emod_nonneg z (by omega)) (Int.emod_lt_of_pos z h0) (hD.trans (.mkc (.set eb (by simp)) hBC1 ?_))⟩
          exact Bag.set eb ec hcb hl hn (Int.ediv_nonneg hz (by omega)) hj hm
      · refine ⟨.ref b, rfl, Or.inl ⟨b, _, 1, .int m, rfl, rfl, sq eb, rfl, Or.inl ⟨m, 1, rfl, rfl, Or.inl ⟨_, _, rfl, rfl, .inr ⟨by decide, by decide⟩, Or.inl ⟨_, rfl, _, _, rfl, rfl, (by decide : (0 : Int) < _), ?_⟩⟩⟩⟩⟩
        have hx0 : 0 ≤ (m + 1) * 39373 % 1000000007 := Int.emod_nonneg _ (by decide)
        have hx1 : (m + 1) * 39373 % 1000000007 < 1000000007 := Int.emod_lt_of_pos _ (by decide)
        refine ⟨_, rfl, _, rfl, Or.inl ⟨(m + 1) * 39373 % 1000000007, (m + 1) * 39373 % 1000000007, rfl, rfl, .inl ⟨by omega, by omega⟩, Or.inl ⟨_, rfl, _, _, rfl, rfl, (by decide : (0 : Int) < _), Or.inl ⟨_, _, rfl, rfl, .inr ⟨by decide, by decide⟩, Or.inl ⟨_, rfl, _, _, rfl, rfl, (by decide : (0 : Int) < _), ?_⟩⟩⟩⟩⟩
        refine ⟨.int n, rfl, n, _, rfl, rfl, _, rfl, ite2 (fun e => ?_) (fun e => ?_)⟩
        · exact absurd (of_decide_eq_true e) (by omega)
        · refine ⟨_, rfl, _, 7, rfl, rfl, ⟨by decide, by decide⟩, Or.inl ⟨_, rfl, .int n, rfl, _, n, rfl, rfl, h0, ?_⟩⟩
          exact q _ _ (Int.emod_nonneg _ (by omega)) (Int.emod_lt_of_pos _ h0) hD
end
end Fm
namespace Fm
open PySem PySem.Spec PyProof.Rows L2
def sp_names : Sp := fun vs H Q _ => ∃ (b : Addr) (n : Nat), vs = [.ref b, .int n] ∧ Bag H b ∧ 0 < n ∧ n ≤ 12 ∧
  ∀ (p : Addr) (xs : List Str) H', xs.length = n → (∀ x ∈ xs, Nm x) → H p = none → H' p = some (.lst (xs.map V.str)) → Dr b H H' → Q (.ref p) H'
theorem rd_split {X : Cx} {a b : Str} {H : Hp} {Q : VK} (P : List Str → Bool) (hP : P (Txt.split a b) = true)
    (h : ∀ p ws H', P ws = true → H p = none → H' p = some (.lst (ws.map V.str)) → Mv [] H H' → Q (.ref p) H') : rNewStrs (Txt.split a b) H Q :=
  fun p np => h p _ _ hP np upd_same (.new np)
theorem str_len_append (x y : Str) : (x ++ y).length = x.length + y.length := by first | exact strLen_append x y | (show (x.cps ++ y.cps).size = _; simp [Str.length])
theorem str_cps_append (x y : Str) : (x ++ y).cps.toList = x.cps.toList ++ y.cps.toList := by
  show (x.cps ++ y.cps).toList = _
  simp
theorem join_chars : ∀ l : List Nat, Txt.join "" (l.map fun c => (⟨#[c]⟩ : Str)) = ⟨l.toArray⟩
  | [] => by decide +kernel
  | [c] => by
    show Builtin.Str.glued _ _ = _
    rw [StrLaws.glued_eq_join]
    rfl
  | c :: d :: l => by
    have ih := join_chars (d :: l)
    show Builtin.Str.glued _ _ = _
    have ih' : Builtin.Str.glued "" ((d :: l).map fun c => (⟨#[c]⟩ : Str)) = ⟨(d :: l).toArray⟩ := ih
    rw [StrLaws.glued_eq_join] at ih' ⊢
    show (⟨#[c]⟩ : Str) ++ "" ++ Str.join "" ((d :: l).map fun c => (⟨#[c]⟩ : Str)) = _
    rw [ih']
    show (⟨(#[c] ++ #[]) ++ (d :: l).toArray⟩ : Str) = _
    simp
theorem cutS_to (z : Str) (i : Nat) (h : i ≤ z.length) : (cutS z none (some (i : Int))).cps.toList = z.cps.toList.take i := by
  unfold cutS
  rw [HT.sIx_none, HT.sIx_nat, Nat.min_eq_left h]
  simp
theorem cutS_from (z : Str) (i : Nat) (h : i ≤ z.length) : (cutS z (some (i : Int)) none).cps.toList = z.cps.toList.drop i := by
  unfold cutS
  rw [HT.sIx_none, HT.sIx_nat, Nat.min_eq_left h]
  have e : z.cps.toList.length = z.length := by simp [Str.length]
  show ((z.cps.toList.drop i).take (z.length - i)).toArray.toList = _
  rw [List.take_of_length_le (by rw [List.length_drop, e]; exact Nat.le_refl _)]
theorem len_cps (z : Str) : z.cps.toList.length = z.length := by simp [Str.length]
theorem sum_ones : ∀ cs : List Nat, ((cs.map fun c => (⟨#[c]⟩ : Str)).map (·.length)).sum = cs.length
  | [] => rfl
  | c :: cs => by
    have := sum_ones cs
    simp only [List.map_cons, List.sum_cons, List.length_cons, this]
    show 1 + cs.length = _
    omega
theorem cutV_from {xs : List V} {i : Int} (h0 : 0 ≤ i) (h : i ≤ xs.length) : cutV xs (some i) none = xs.drop i.toNat := by
  obtain ⟨j, rfl⟩ := Int.eq_ofNat_of_zero_le h0
  unfold cutV
  rw [HT.sIx_none, HT.sIx_nat, Nat.min_eq_left (by omega), List.take_of_length_le (by rw [List.length_drop]; exact Nat.le_refl _)]
  rfl
theorem cutV_to {xs : List V} {i : Int} (h0 : 0 ≤ i) : cutV xs none (some i) = xs.take i.toNat := by
  obtain ⟨j, rfl⟩ := Int.eq_ofNat_of_zero_le h0
  unfold cutV
  rw [HT.sIx_none, HT.sIx_nat, List.drop_zero]
  show xs.take (min j xs.length - 0) = xs.take j
  rw [Nat.sub_zero]
  by_cases e : j ≤ xs.length
  · rw [Nat.min_eq_left e]
  · rw [Nat.min_eq_right (by omega), List.take_of_length_le (Nat.le_refl _), List.take_of_length_le (by omega)]
theorem rd_letter {K : PySem.W.Frag} {z : Str} {j : Int} {H : Hp} {Q : VK} (hz : (decide (z.length = 26) && z.cps.toList.all fun c => decide (97 ≤ c) && decide (c ≤ 122)) = true) (h0 : 0 ≤ j) (h1 : j < 26)
    (h : ∀ c : Nat, 97 ≤ c → c ≤ 122 → z.cps.toList[j.toNat]? = some c → Q (.str ⟨#[c]⟩) H) : rIx K (.str z) (.int j) H Q := by
  simp only [Bool.and_eq_true, decide_eq_true_eq, List.all_eq_true] at hz
  obtain ⟨hl, ha⟩ := hz
  obtain ⟨i, rfl⟩ := Int.eq_ofNat_of_zero_le h0
  have hi : i < z.cps.toList.length := by rw [len_cps, hl]; omega
  have e := List.getElem?_eq_getElem hi
  have hc := ha _ (List.getElem_mem hi)
  exact Or.inr (Or.inr ⟨z, i, _, rfl, rfl, by rw [hl]; decide, atI_nat e, h _ hc.1 hc.2 e⟩)
section
variable {P : Program} {w : World} {K : PySem.W.Frag} {mg : Str → Option Value} {base : Heap}
theorem ok__law_names (T : TX K mg) {k : Nat} : FnOk P w K mg base CX0 (k + 2) T.d__law_names.f T.d__law_names.fd P__law_names sp_names := by
  have G__law_take : FnOk P w K mg base CX0 (k + 1) T.d__law_take.f T.d__law_take.fd P__law_take sp_take := ok__law_take T
  refine T.d__law_names.F.ok sc__law_names (fun vs H Q E h => ?_) (fun cdv A outer s H vs Q E hr h => ?_)
  · obtain ⟨b, n, rfl, _⟩ := h
    rfl
  · obtain ⟨b, n, rfl, hB, h0, h1, q⟩ := h
    have hu64 := hr.units
    refine ⟨_, (pss_cons (ps_set (i := 2) sc__law_names.nd rfl (Or.inr rfl) pe_str) (pss_cons (ps_set (i := 3) sc__law_names.nd rfl (Or.inl rfl) pe_str) (pss_cons (ps_set (i := 3) sc__law_names.nd rfl (Or.inl rfl) (pe_bm PySem.F.plainAttrs_str PySem.F.slot_str_split PySem.F.type_str_split mt_split (pe_op (r := rAddG K) op_addG (pv 3) pe_str) (pa_cons pe_str pa_nil))) (pss_cons (ps_asg (pe_tup (pa_cons (pe_call G__law_take (hr.mono (by omega)) rfl T.d__law_take.g T.d__law_take.F.kp T.d__law_take.b .nil pass0 (pa_cons (pv 0) (pa_cons pe_int pa_nil))) (pa_cons (pe_call G__law_take (hr.mono (by omega)) rfl T.d__law_take.g T.d__law_take.F.kp T.d__law_take.b .nil pass0 (pa_cons (pv 0) (pa_cons pe_int pa_nil))) pa_nil))) (pg_tup rfl (pgs_cons (pg_name (i := 4) sc__law_names.nd rfl (Or.inl rfl)) (pgs_cons (pg_name (i := 5) sc__law_names.nd rfl (Or.inr rfl)) pgs_nil)))) (pss_cons (ps_set (i := 6) sc__law_names.nd rfl (Or.inr rfl) (pe_bm PySem.F.plainAttrs_str PySem.F.slot_str_join PySem.F.type_str_join mt_join pe_str (pa_cons (pe_lc (own := [("_law_k", 8)]) (g := gName 8) (by rfl) sc__law_names.nd (pi_range1 (by rfl) T.b_range (pa_cons (pe_op (r := rAddG K) op_addG pe_int (pe_call G__law_take (hr.mono (by omega)) rfl T.d__law_take.g T.d__law_take.F.kp T.d__law_take.b .nil pass0 (pa_cons (pv 0) (pa_cons pe_int pa_nil)))) pa_nil)) (blkOk_by (own := [("_law_k", 8)]) (N := N__law_names) (sc := defScope s__law_names) (by decide +kernel)) (fun _ _ _ _ _ => pg_name (i := 8) sc__law_names.nd rfl (Or.inl rfl)) (fun _ _ _ _ _ => pts_nil) (fun _ _ _ _ _ => (pe_ix (r := rIx K) ix_seq (pv 2) (pe_call G__law_take (hr.mono (by omega)) rfl T.d__law_take.g T.d__law_take.F.kp T.d__law_take.b .nil pass0 (pa_cons (pv 0) (pa_cons pe_int pa_nil))) (fun _ _ => rfl)))) pa_nil))) (pss_cons (ps_set (i := 7) sc__law_names.nd rfl (Or.inr rfl) (pe_call G__law_take (hr.mono (by omega)) rfl T.d__law_take.g T.d__law_take.F.kp T.d__law_take.b .nil pass0 (pa_cons (pv 0) (pa_cons (pe_op (r := rAddG K) op_addG (pe_callB (r := rLenG K) call_lenG (by rfl) T.b_len bt_len (pa_cons (pv 6) pa_nil)) pe_int) pa_nil)))) (pss_cons (ps_if (pt_cmpR (r := rEqG K) (op_eqG hu64) (pv 4) pe_int (nomark _)) (pss_one (ps_ret (pe_slice (r := rSlG K) sl_G (pe_op (r := rAddG K) op_addG (pe_slice (r := rSlG K) sl_G (pv 3) (po_some (pv 5)) po_none) (pe_slice (r := rSlG K) sl_G (pv 3) po_none (po_some (pv 5)))) po_none (po_some (pv 1))))) pss_nil) (pss_cons (ps_if (pt_cmpR (r := rEqG K) (op_eqG hu64) (pv 4) pe_int (nomark _)) (pss_one (ps_ret (pe_lc (own := [("_law_k", 8)]) (g := gName 8) (by rfl) sc__law_names.nd (pi_range1 (by rfl) T.b_range (pa_cons (pv 1) pa_nil)) (blkOk_by (own := [("_law_k", 8)]) (N := N__law_names) (sc := defScope s__law_names) (by decide +kernel)) (fun _ _ _ _ _ => pg_name (i := 8) sc__law_names.nd rfl (Or.inl rfl)) (fun _ _ _ _ _ => pts_nil) (fun _ _ _ _ _ => (pe_ix (r := rIx K) ix_seq (pv 2) (pe_op op_mod (pe_callTy call_int1 (by rfl) T.b_int bt_int (pa_cons (pe_op (r := rAddG K) op_addG (pv 5) (pe_op op_mulG pe_int (pv 8))) pa_nil)) pe_int) (fun _ _ => rfl)))))) pss_nil) (pss_one (ps_ret (pe_lc (own := [("_law_k", 8)]) (g := gName 8) (by rfl) sc__law_names.nd (pi_range1 (by rfl) T.b_range (pa_cons (pv 1) pa_nil)) (blkOk_by (own := [("_law_k", 8)]) (N := N__law_names) (sc := defScope s__law_names) (by decide +kernel)) (fun _ _ _ _ _ => pg_name (i := 8) sc__law_names.nd rfl (Or.inl rfl)) (fun _ _ _ _ _ => pts_nil) (fun _ _ _ _ _ => (pe_op (r := rAddG K) op_addG (pe_op (r := rAddG K) op_addG (pe_slice (r := rSlG K) sl_G (pv 6) po_none (po_some (pv 7))) (pe_ix (r := rIx K) ix_seq (pv 2) (pe_op op_mod (pe_callTy call_int1 (by rfl) T.b_int bt_int (pa_cons (pe_op (r := rAddG K) op_addG (pv 5) (pe_op op_mulG pe_int (pv 8))) pa_nil)) pe_int) (fun _ _ => rfl))) (pe_slice (r := rSlG K) sl_G (pv 6) (po_some (pv 7)) po_none)))))))))))))), ?_⟩
    refine ⟨_, rfl, Or.inr (Or.inl ⟨_, _, rfl, rfl, by decide +kernel, rfl, _, _, rfl, rfl, by decide +kernel, by decide +kernel, ?_⟩)⟩
    refine rd_split (X := (cxOf CX0 P w K mg base N__law_names "_law_names" (defScope s__law_names) T.d__law_names.f cdv A outer s H E)) (fun ws => decide (ws.length = 20) && ws.all fun x => decide (Nm x)) (by decide +kernel) fun wp ws H1 hws nwp ewp m1 => ?_
    simp only [Bool.and_eq_true, decide_eq_true_eq, List.all_eq_true] at hws
    obtain ⟨hw20, hwN⟩ := hws
    refine ⟨.ref b, rfl, b, 4, rfl, hB.mv m1, by decide, by decide, fun way H2 hw0 hw1 d2 => ⟨.ref b, rfl, b, 20, rfl, d2.bag (hB.mv m1), by decide, by decide, fun turn H3 ht0 ht1 d3 => ?_⟩⟩
    refine ⟨(by decide : 2 ≤ sizeLine), fun p np => ⟨p, _, rfl, .inl (.inl upd_same), rfl, _, _, rfl, _, _, rfl, rfl, ?_⟩⟩
    have d14 := (d2.trans d3).trans (Dr.new (o := .tup [.int way, .int turn]) np)
    have hB4 := d14.bag (hB.mv m1)
    generalize upd H3 p (.tup [.int way, .int turn]) = H4 at d14 hB4 ⊢
    have hwb : wp ≠ b := (hB.fneq nwp)
    have ew4 : H4 wp = some (.lst (ws.map V.str)) := d14.get hwb ewp
    refine ⟨rfl, .ref b, rfl, b, 7, rfl, hB4, by decide, by decide, fun l H5 hl0 hl1 d5 => Or.inl ⟨1, l, rfl, rfl, 1 + l, rfl, by omega, by omega, fun D nD => ?_⟩⟩
    have hB5 := d5.bag hB4
    refine lc_range (lo := 0) (n := (1 + l).toNat) (fun i H6 => ∃ cs : List Nat, H6 D = some (.lst (cs.map fun c => V.str ⟨#[c]⟩)) ∧ cs.length = i ∧ (∀ c ∈ cs, 97 ≤ c ∧ c ≤ 122) ∧ Dr b H5 H6)
      ⟨[], upd_same, rfl, by simp, Dr.new nD⟩ (fun i H6 hi h6 => ?_) (fun H6 h6 => ?_)
    · obtain ⟨cs, e6, l6, c6, d6⟩ := h6
      refine ⟨rfl, _, rfl, .ref b, rfl, b, 26, rfl, d6.bag hB5, by decide, by decide, fun j H7 hj0 hj1 d7 => rd_letter (by decide +kernel) hj0 hj1 fun c hc0 hc1 _ => ?_⟩
      refine ⟨_, d7.get (hB5.fneq nD) e6, ?_, cs ++ [c], ?_, by simp [l6], ?_, (d6.trans d7).wr nD⟩
      · rw [List.length_map, l6]
        exact small1000 (by omega)
      · rw [upd_same, List.map_append]
        rfl
      · intro z hz
        rcases List.mem_append.mp hz with hz | hz
        · exact c6 z hz
        · rw [List.mem_singleton.mp hz]
          exact ⟨hc0, hc1⟩
    · obtain ⟨cs, e6, l6, c6, d6⟩ := h6
      have hmap : cs.map (fun c => V.str ⟨#[c]⟩) = (cs.map fun c => (⟨#[c]⟩ : Str)).map V.str := by rw [List.map_map]; rfl
      refine ⟨_, D, _, rfl, rfl, .inl (.inl (.inl (by rw [← hmap]; exact e6))), ?_, ?_⟩
      · rw [sum_ones, List.length_map, l6, show ("" : Str).length = 0 from by decide]
        omega
      · rw [join_chars]
        obtain ⟨B, hB0, hBl, hBc⟩ : ∃ B : Str, B = ⟨cs.toArray⟩ ∧ B.length = (1 + l).toNat ∧ ∀ c ∈ B.cps.toList, 97 ≤ c ∧ c ≤ 122 := ⟨_, rfl, by rw [← l6]; rfl, by simpa using c6⟩
        rw [← hB0]
        have hB6 := d6.bag hB5
        refine ⟨.ref b, rfl, .str B, rfl, Or.inr (Or.inl ⟨B, rfl, Nat.le_of_lt (small1000 (by omega)), Or.inl ⟨_, 1, rfl, rfl, b, _, rfl, hB6, by omega, by omega, fun pl H7 hp0 hp1 d7 => ?_⟩⟩)⟩
        have d17 := (d14.trans d5).trans (d6.trans d7)
        have ew7 : H7 wp = some (.lst (ws.map V.str)) := d17.get hwb ewp
        have dH7 : Dr b H H7 := (Dr.of m1).trans d17
        have hB7 : Bag H7 b := dH7.bag hB
        have lenL : ∀ c : Nat, (⟨#[c]⟩ : Str).length = 1 := fun _ => rfl
        have fresh : ∀ {p H'}, Mv [] H7 H' → H' p = none → H p = none := fun m e => dH7.free hB (m.free e)
        refine ⟨.int way, rfl, Or.inl ⟨rfl, _, rfl, ite2 (fun e => ?_) (fun e => ?_)⟩⟩
        · -- the words, turned
          refine ⟨.ref wp, rfl, .int turn, rfl, turn, rfl, Or.inl ⟨wp, _, rfl, .inl (.inl ew7), fun p1 np1 => ?_⟩⟩
          have n1 : wp ≠ p1 := ne_of_none ew7 np1
          refine ⟨.ref wp, rfl, .int turn, rfl, turn, rfl, Or.inl ⟨wp, _, rfl, .inl (.inl (by rw [upd_ne n1]; exact ew7)), fun p2 np2 => ?_⟩⟩
          have n2 : p1 ≠ p2 := ne_of_none upd_same np2
          rw [cutV_from ht0 (by rw [List.length_map]; omega), cutV_to ht0] at *
          refine Or.inr (Or.inr (Or.inr ⟨p1, p2, _, _, rfl, rfl, by rw [upd_ne n2, upd_same], upd_same, ?_, fun p3 np3 => ?_⟩))
          · rw [List.length_drop, List.length_take, List.length_map]
            exact Nat.le_of_lt (small1000 (by omega))
          · refine ⟨.int n, rfl, (n : Int), rfl, Or.inl ⟨p3, _, rfl, .inl (.inl upd_same), fun p4 np4 => ?_⟩⟩
            refine q p4 ((ws.drop turn.toNat ++ ws.take turn.toNat).take n) _ ?_ (fun x hx => ?_) (fresh (((Mv.new (S := []) np1).trans (Mv.new np2)).trans (Mv.new np3)) np4) ?_ (dH7.trans (Dr.of (((Mv.new np1).trans (Mv.new np2)).trans ((Mv.new np3).trans (Mv.new np4)))))
            · rw [List.length_take, List.length_append, List.length_drop, List.length_take]
              omega
            · have h := List.mem_of_mem_take hx
              rcases List.mem_append.mp h with h | h
              · exact hwN x (List.mem_of_mem_drop h)
              · exact hwN x (List.mem_of_mem_take h)
            · rw [upd_same, cutV_to (by omega), List.map_take, List.map_append, List.map_drop, List.map_take]
              rfl
        · refine ⟨.int way, rfl, Or.inl ⟨rfl, _, rfl, ite2 (fun e => ?_) (fun e => ?_)⟩⟩
          · refine ⟨.int n, rfl, (n : Int), rfl, by omega, by omega, fun D8 nD8 => ?_⟩
            refine lc_range (lo := 0) (n := (n : Int).toNat) (fun i H8 => ∃ xs : List Str, H8 D8 = some (.lst (xs.map V.str)) ∧ xs.length = i ∧ (∀ x ∈ xs, Nm x) ∧ Mv [] H7 H8)
              ⟨[], upd_same, rfl, by simp, .new nD8⟩ (fun i H8 hi h8 => ?_) (fun H8 h8 => ?_)
            · obtain ⟨xs, e8, l8, c8, m8⟩ := h8
              refine ⟨rfl, _, rfl, .int turn, rfl, _, rfl, Or.inl ⟨3, _, rfl, rfl, .inl ⟨by decide, by decide⟩, Or.inl ⟨turn, _, rfl, rfl, Or.inl ⟨_, rfl, _, _, rfl, rfl, (by decide : (0 : Int) < _), ?_⟩⟩⟩⟩
              refine rd_letter (by decide +kernel) (Int.emod_nonneg _ (by decide)) (Int.emod_lt_of_pos _ (by decide)) fun c hc0 hc1 _ => ?_
              refine ⟨_, e8, ?_, xs ++ [⟨#[c]⟩], ?_, by simp [l8], ?_, m8.wr nD8⟩
              · rw [List.length_map, l8]
                exact small1000 (by omega)
              · rw [upd_same, List.map_append]
                rfl
              · intro z hz
                rcases List.mem_append.mp hz with hz | hz
                · exact c8 z hz
                · rw [List.mem_singleton.mp hz]
                  exact ⟨by rw [lenL]; decide, by rw [lenL]; decide, by simpa using ⟨hc0, hc1⟩⟩
            · obtain ⟨xs, e8, l8, c8, m8⟩ := h8
              exact q D8 xs H8 (by omega) c8 (dH7.free hB nD8) e8 (dH7.trans (Dr.of m8))
          · refine ⟨.int n, rfl, (n : Int), rfl, by omega, by omega, fun D8 nD8 => ?_⟩
            obtain ⟨at', rfl⟩ := Int.eq_ofNat_of_zero_le hp0
            have hat : at' ≤ B.length := by omega
            refine lc_range (lo := 0) (n := (n : Int).toNat) (fun i H8 => ∃ xs : List Str, H8 D8 = some (.lst (xs.map V.str)) ∧ xs.length = i ∧ (∀ x ∈ xs, Nm x) ∧ Mv [] H7 H8)
              ⟨[], upd_same, rfl, by simp, .new nD8⟩ (fun i H8 hi h8 => ?_) (fun H8 h8 => ?_)
            · obtain ⟨xs, e8, l8, c8, m8⟩ := h8
              have hsz : B.length ≤ sizeLine := Nat.le_of_lt (small1000 (by omega))
              have l1 : (cutS B none (some (at' : Int))).length = at' := by rw [← len_cps, cutS_to B at' hat, List.length_take, len_cps]; omega
              have l2 : (cutS B (some (at' : Int)) none).length = B.length - at' := by rw [← len_cps, cutS_from B at' hat, List.length_drop, len_cps]
              refine ⟨rfl, .str B, rfl, _, rfl, _, rfl, Or.inr (Or.inr ⟨B, rfl, hsz, _, rfl, .int turn, rfl, _, rfl, Or.inl ⟨3, _, rfl, rfl, .inl ⟨by decide, by decide⟩, Or.inl ⟨turn, _, rfl, rfl, Or.inl ⟨_, rfl, _, _, rfl, rfl, (by decide : (0 : Int) < _), ?_⟩⟩⟩⟩)⟩
              refine rd_letter (by decide +kernel) (Int.emod_nonneg _ (by decide)) (Int.emod_lt_of_pos _ (by decide)) fun c hc0 hc1 _ => ?_
              refine Or.inr (Or.inl ⟨_, _, rfl, rfl, by rw [l1, lenL]; exact Nat.le_of_lt (small1000 (by omega)), .str B, rfl, _, rfl, _, rfl, Or.inr (Or.inr ⟨B, rfl, hsz, Or.inr (Or.inl ⟨_, _, rfl, rfl, ?_, ?_⟩)⟩)⟩)
              · rw [str_len_append, l1, l2, lenL]
                exact Nat.le_of_lt (small1000 (by omega))
              · refine ⟨_, e8, ?_, xs ++ [cutS B none (some (at' : Int)) ++ ⟨#[c]⟩ ++ cutS B (some (at' : Int)) none], ?_, by simp [l8], ?_, m8.wr nD8⟩
                · rw [List.length_map, l8]
                  exact small1000 (by omega)
                · rw [upd_same, List.map_append]
                  rfl
                · intro z hz
                  rcases List.mem_append.mp hz with hz | hz
                  · exact c8 z hz
                  · rw [List.mem_singleton.mp hz]
                    refine ⟨?_, ?_, fun d hd => ?_⟩
                    · rw [str_len_append, str_len_append, l1, l2, lenL]
                      omega
                    · rw [str_len_append, str_len_append, l1, l2, lenL]
                      omega
                    · rw [str_cps_append, str_cps_append, cutS_to B at' hat, cutS_from B at' hat] at hd
                      rcases List.mem_append.mp hd with hd | hd
                      · rcases List.mem_append.mp hd with hd | hd
                        · exact hBc d (List.mem_of_mem_take hd)
                        · have : d = c := by simpa using hd
                          rw [this]
                          exact ⟨hc0, hc1⟩
                      · exact hBc d (List.mem_of_mem_drop hd)
            · obtain ⟨xs, e8, l8, c8, m8⟩ := h8
              exact q D8 xs H8 (by omega) c8 (dH7.free hB nD8) e8 (dH7.trans (Dr.of m8))
end
end Fm
namespace Fm
open PySem PySem.Spec PyProof.Rows L2
def sp_term (K : PySem.W.Frag) (d : Nat) : Sp := fun vs H Q _ => ∃ (b nm : Addr) (xs : List Str) (many deep : Int), vs = [.ref b, .ref nm, .int many, .int deep] ∧ Bag H b ∧
  H nm = some (.lst (xs.map V.str)) ∧ nm ≠ b ∧ xs ≠ [] ∧ xs.length ≤ 1000 ∧ (∀ x ∈ xs, Nm x) ∧ 0 ≤ many ∧ many ≤ 1000000 ∧ deep.toNat < d ∧
  ∀ v (t : Tm) H', t.ok (fun i => 0 ≤ i ∧ i < many) → t.dep ≤ max deep.toNat 1 → (0 < many → t.dep ≤ deep.toNat) → Im K H' v t.d → Dr b H H' → Q v H'
local macro_rules | `(tactic| walk_at "nn") => `(tactic| dsimp only [tC, tNil, tCons, tCB, tCall, gName, tSeq, tAsg, tPar, tDrop, tRet])
section
variable {P : Program} {w : World} {K : PySem.W.Frag} {mg : Str → Option Value} {base : Heap}
theorem ok__law_term (T : TX K mg) : ∀ d : Nat, FnOk P w K mg base CX0 (d + 2) T.d__law_term.f T.d__law_term.fd P__law_term (sp_term K d)
  | 0 => ⟨fun vs H Q E h => by obtain ⟨_, _, _, _, _, _, _, _, _, _, _, _, _, _, h, _⟩ := h; omega, fun _ _ _ _ _ _ _ _ _ _ _ _ _ h => by obtain ⟨_, _, _, _, _, _, _, _, _, _, _, _, _, _, h, _⟩ := h; omega⟩
  | d + 1 => by
    have G__law_term := ok__law_term T d
    have G__law_take : FnOk P w K mg base CX0 1 T.d__law_take.f T.d__law_take.fd P__law_take sp_take := ok__law_take T
    refine T.d__law_term.F.ok sc__law_term (fun vs H Q E h => ?_) (fun cdv A outer s H vs Q E hr h => ?_)
    · obtain ⟨b, nm, xs, many, deep, rfl, _⟩ := h
      rfl
    · obtain ⟨b, nm, xs, many, deep, rfl, hB, hN, hnb, hx0, hx1, hxN, hm0, hm1, hd, q⟩ := h
      have hu64 := hr.units
      have hlen : 0 < xs.length := List.length_pos_iff.mpr hx0
      refine ⟨_, (pss_cons (ps_set (i := 4) sc__law_term.nd rfl (Or.inl rfl) (pe_call G__law_take (hr.mono (by omega)) rfl T.d__law_take.g T.d__law_take.F.kp T.d__law_take.b .nil pass0 (pa_cons (pv 0) (pa_cons pe_int pa_nil)))) (pss_cons (ps_if (PW.pt (pw_and (pt_cmpR op_gt (pv 2) pe_int (nomark _)) (pw_and1 (PW.pt (pw_or (pt_cmpR op_lt (pv 3) pe_int (nomark _)) (pw_or1 (pt_cmpR (r := rEqG K) (op_eqG hu64) (pv 4) pe_int (nomark _)))))))) (pss_one (ps_ret (pe_call G__law_take (hr.mono (by omega)) rfl T.d__law_take.g T.d__law_take.F.kp T.d__law_take.b .nil pass0 (pa_cons (pv 0) (pa_cons (pv 2) pa_nil))))) pss_nil) (pss_cons (ps_par (i := 5) (j := 6) rfl sc__law_term.nd rfl rfl (by decide) rfl rfl (pa_cons (pe_ix (r := rIx K) ix_seq (pv 1) (pe_call G__law_take (hr.mono (by omega)) rfl T.d__law_take.g T.d__law_take.F.kp T.d__law_take.b .nil pass0 (pa_cons (pv 0) (pa_cons (pe_callB (r := rLenG K) call_lenG (by rfl) T.b_len bt_len (pa_cons (pv 1) pa_nil)) pa_nil))) (fun _ _ => rfl)) (pa_cons (pe_call G__law_take (hr.mono (by omega)) rfl T.d__law_take.g T.d__law_take.F.kp T.d__law_take.b .nil pass0 (pa_cons (pv 0) (pa_cons pe_int pa_nil))) pa_nil)) rfl) (pss_cons (ps_if (PW.pt (pw_or (PW.pt (pw_and (pt_cmpR op_le (pv 3) pe_int (nomark _)) (pw_and1 (pt_cmpR (r := rEqG K) (op_eqG hu64) (pv 2) pe_int (nomark _))))) (pw_or1 (pt_cmpR (r := rEqG K) (op_eqG hu64) (pv 4) pe_int (nomark _))))) (pss_one (ps_ret (pe_tup (pa_cons (pv 5) pa_nil)))) pss_nil) (pss_one (ps_ret (pe_op (r := rAddG K) op_addG (pe_tup (pa_cons (pv 5) pa_nil)) (pe_callTy (r := rTupOf K) call_tupG (by rfl) T.b_tuple bt_tuple (pa_cons (pe_lc (own := [("_law_k", 7)]) (g := gName 7) (by rfl) sc__law_term.nd (pi_range1 (by rfl) T.b_range (pa_cons (pv 6) pa_nil)) (blkOk_by (own := [("_law_k", 7)]) (N := N__law_term) (sc := defScope s__law_term) (by decide +kernel)) (fun _ _ _ _ _ => pg_name (i := 7) sc__law_term.nd rfl (Or.inl rfl)) (fun _ _ _ _ _ => pts_nil) (fun _ _ _ _ _ => (pe_call G__law_term (hr.mono (by omega)) rfl T.d__law_term.g T.d__law_term.F.kp T.d__law_term.b .nil pass0 (pa_cons (pv 0) (pa_cons (pv 1) (pa_cons (pv 2) (pa_cons (pe_op op_sub (pv 3) pe_int) pa_nil))))))) pa_nil))))))))), ?_⟩
      refine ⟨.ref b, rfl, b, 4, rfl, hB, by decide, by decide, fun way H1 hw0 hw1 d1 => ?_⟩
      have hB1 := d1.bag hB
      have hN1 := d1.get hnb hN
      dsimp only [gName, tSeq, tPar]
      refine st_if (tb_and (tb_test (tv_I (tv_var rfl) tv_c)) (tb_or (tb_test (tv_I (tv_var rfl) tv_c)) (tb_test (tv_eqI (tv_var rfl) tv_c)))) ?_ ?_
      · -- an unknown
        intro e
        simp only [Bool.and_eq_true, decide_eq_true_eq] at e
        refine ⟨.ref b, rfl, .int many, rfl, b, many, rfl, hB1, e.1, hm1, fun i H2 hi0 hi1 d2 => ?_⟩
        exact q _ (.var i) H2 ⟨hi0, hi1⟩ (by simp [Tm.dep]) (fun _ => by simp [Tm.dep]) (Im.int i) (d1.trans d2)
      · intro e
        have e1 : ¬ (0 < many ∧ deep < 1) := fun z => by simp [z.1, z.2] at e
        refine ⟨.ref nm, rfl, .ref b, rfl, .ref nm, rfl, ?_⟩
        walk_at "nn"
        refine rd_len (.inl (.inl (.inl hN1))) ?_
        refine ⟨b, _, rfl, hB1, by rw [List.length_map]; omega, by rw [List.length_map]; omega, fun ni H2 hn0 hn1 d2 => ?_⟩
        rw [List.length_map] at hn1
        have hni : ni.toNat < xs.length := by omega
        have hB2 := d2.bag hB1
        have hN2 := d2.get hnb hN1
        refine rd_ixL (.inl (.inl hN2)) hn0 (v := .str xs[ni.toNat]) (by rw [List.getElem?_map, List.getElem?_eq_getElem hni]; rfl) ?_
        obtain ⟨nx, hnx, hNm⟩ : ∃ nx, nx = xs[ni.toNat] ∧ Nm nx := ⟨_, rfl, hxN _ (List.getElem_mem hni)⟩
        rw [← hnx]
        refine ⟨.ref b, rfl, b, 4, rfl, hB2, by decide, by decide, fun parts H3 hp0 hp1 d3 => ⟨_, _, rfl, ?_⟩⟩
        have hB3 := d3.bag hB2
        have hN3 := d3.get hnb hN2
        have d13 := (d1.trans d2).trans d3
        refine st_if (tb_or (tb_and (tb_test (tv_I (tv_var rfl) tv_c)) (tb_test (tv_eqI (tv_var rfl) tv_c))) (tb_test (tv_eqI (tv_var rfl) tv_c))) ?_ ?_
        · -- a constant
          intro e
          refine ⟨_, rfl, (by decide : 1 ≤ sizeLine), fun p np => ?_⟩
          refine q _ (.op nx []) _ ⟨hNm, by simp, trivial⟩ (by simp [Tm.dep, Tm.deps]; omega) (fun z => ?_) (Im.tup (.inl (.inl upd_same)) (Ims.cons (Im.str nx) Ims.nil)) (d13.trans (Dr.new np))
          simp only [Tm.dep, Tm.deps]
          omega
        · intro e
          have e2 : ¬ (deep ≤ 1 ∧ many = 0) := fun z => by simp [z.1, z.2] at e
          have hdeep : 1 ≤ deep := by omega
          refine ⟨_, rfl, (by decide : 1 ≤ sizeLine), fun p np => ?_⟩
          have d4 := d13.trans (Dr.new (o := .tup [.str nx]) np)
          have e4 : SqT K (upd H3 p (.tup [.str nx])) p [.str nx] := .inl (.inl upd_same)
          have hB4 := d4.bag hB
          have hN4 := d4.get hnb hN
          generalize upd H3 p (.tup [.str nx]) = H4 at d4 e4 hB4 hN4 ⊢
          refine ⟨.int parts, rfl, parts, rfl, by omega, by omega, fun D nD => ?_⟩
          refine lc_range (lo := 0) (n := parts.toNat) (fun i H5 => ∃ (vs : List V) (ts : List Tm), H5 D = some (.lst vs) ∧ Ims K H5 vs (Tm.ds ts) ∧ ts.length = i ∧ Tm.oks (fun i => 0 ≤ i ∧ i < many) ts ∧ Tm.deps ts ≤ max (deep - 1).toNat 1 ∧ (0 < many → Tm.deps ts ≤ (deep - 1).toNat) ∧ Dr b H4 H5)
            ⟨[], [], upd_same, Ims.nil, rfl, trivial, by simp [Tm.deps], fun _ => by simp [Tm.deps], Dr.new nD⟩ (fun i H5 hi h5 => ?_) (fun H5 h5 => ?_)
          · obtain ⟨vs, ts, e5, i5, l5, o5, p5, r5, d5⟩ := h5
            have hB5 := d5.bag hB4
            have hN5 := d5.get hnb hN4
            refine ⟨rfl, .ref b, rfl, .ref nm, rfl, .int many, rfl, .int deep, rfl, deep, 1, rfl, rfl, b, nm, xs, many, deep - 1, rfl, hB5, hN5, hnb, hx0, hx1, hxN, hm0, hm1, by omega, fun v t H6 ho hd1 hd2 him d6 => ?_⟩
            refine ⟨_, d6.get (hB4.fneq nD) e5, ?_, vs ++ [v], ts ++ [t], upd_same, ?_, by simp [l5], ?_, ?_, fun z => ?_, (d5.trans d6).wr nD⟩
            · rw [i5.length, Tm.ds_map, List.length_map, l5]
              exact small1000 (by omega)
            · rw [show Tm.ds (ts ++ [t]) = Tm.ds ts ++ [t.d] by simp [Tm.ds_map]]
              exact ((i5.mv d6.mv).append (Ims.cons him Ims.nil)).mv (Mv.set (S := [D]) (d6.get (hB4.fneq nD) e5) (by simp))
            · rw [Tm.oks_iff] at o5 ⊢
              intro y hy
              rcases List.mem_append.mp hy with hy | hy
              · exact o5 y hy
              · rw [List.mem_singleton.mp hy]
                exact ho
            · rw [Tm.deps_le] at p5 ⊢
              intro y hy
              rcases List.mem_append.mp hy with hy | hy
              · exact p5 y hy
              · rw [List.mem_singleton.mp hy]
                exact hd1
            · have r5' := r5 z
              have hd2' := hd2 z
              rw [Tm.deps_le] at r5' ⊢
              intro y hy
              rcases List.mem_append.mp hy with hy | hy
              · exact r5' y hy
              · rw [List.mem_singleton.mp hy]
                exact hd2'
          · obtain ⟨vs, ts, e5, i5, l5, o5, p5, r5, d5⟩ := h5
            walk_at "nn"
            refine rd_tupOf (.inl (.inl e5)) fun p6 H6 m6 e6 => ?_
            refine rd_cat (m6.sqT (d5.mv.sqT e4)) e6 ?_ fun p7 H7 m7 e7 => ?_
            · rw [i5.length, Tm.ds_map, List.length_map, l5]
              exact Nat.le_of_lt (small1000 (by simp; omega))
            · refine q _ (.op nx ts) H7 ⟨hNm, by omega, o5⟩ ?_ (fun z => ?_) (Im.tup e7 ?_) (d4.trans (d5.trans (Dr.of (m6.trans m7))))
              · simp only [Tm.dep]
                omega
              · have := r5 z
                simp only [Tm.dep]
                omega
              · exact Ims.cons (Im.str nx) ((i5.mv m6).mv m7)
end
end Fm
namespace Fm
open PySem PySem.Spec PyProof.Rows L2
local macro_rules | `(tactic| walk_at "nn") => `(tactic| dsimp only [tC, tNil, tCons, tCB, tCall, gName, tSeq, tAsg, tPar, tDrop, tRet])
def Look1 (K : PySem.W.Frag) (H : Hp) (vals : V) (P : Int → Prop) (f : Int → Tm) : Prop := ∃ a, vals = .ref a ∧
  ((∃ xs, SqL K H a xs ∧ ∀ i, P i → 0 ≤ i ∧ ∃ v, xs[i.toNat]? = some v ∧ Im K H v (f i).d) ∨
   (∃ xs, SqT K H a xs ∧ ∀ i, P i → 0 ≤ i ∧ ∃ v, xs[i.toNat]? = some v ∧ Im K H v (f i).d) ∨
   (∃ kvs, H a = some (.dK kvs) ∧ ∀ i, P i → ∃ v, valV kvs (.inl i) = some v ∧ Im K H v (f i).d))
theorem Look1.mv {K : PySem.W.Frag} {H H' : Hp} {vals : V} {P : Int → Prop} {f : Int → Tm} (h : Look1 K H vals P f) (m : Mv [] H H') : Look1 K H' vals P f := by
  obtain ⟨a, rfl, h⟩ := h
  refine ⟨a, rfl, ?_⟩
  rcases h with ⟨xs, h1, h2⟩ | ⟨xs, h1, h2⟩ | ⟨xs, h1, h2⟩
  · refine .inl ⟨xs, m.same.seq h1, fun i hi => ?_⟩
    obtain ⟨h0, v, hv, hm⟩ := h2 i hi
    exact ⟨h0, v, hv, hm.mv m⟩
  · refine .inr (.inl ⟨xs, m.sqT h1, fun i hi => ?_⟩)
    obtain ⟨h0, v, hv, hm⟩ := h2 i hi
    exact ⟨h0, v, hv, hm.mv m⟩
  · refine .inr (.inr ⟨xs, m.same _ _ h1, fun i hi => ?_⟩)
    obtain ⟨v, hv, hm⟩ := h2 i hi
    exact ⟨v, hv, hm.mv m⟩
def sp_put (K : PySem.W.Frag) (d : Nat) : Sp := fun vs H Q _ => ∃ (v vals : V) (t : Tm) (P : Int → Prop) (f : Int → Tm), vs = [v, vals] ∧ Im K H v t.d ∧ t.ok P ∧ t.dep < d ∧ Look1 K H vals P f ∧
  ∀ v' H', Mv [] H H' → Im K H' v' (t.put f).d → Q v' H'
section
variable {P : Program} {w : World} {K : PySem.W.Frag} {mg : Str → Option Value} {base : Heap}

theorem ok_put (T : TX K mg) : ∀ d : Nat, FnOk P w K mg base CX0 (d + 1) T.d_put.f T.d_put.fd P_put (sp_put K d)
  | 0 => ⟨fun vs H Q E h => by obtain ⟨_, _, _, _, _, _, _, _, h, _⟩ := h; omega, fun _ _ _ _ _ _ _ _ _ _ _ _ _ h => by obtain ⟨_, _, _, _, _, _, _, _, h, _⟩ := h; omega⟩
  | d + 1 => by
    have G_put := ok_put T d
    refine T.d_put.F.ok sc_put (fun vs H Q E h => ?_) (fun cdv A outer s H vs Q E hr h => ?_)
    · obtain ⟨_, _, _, _, _, rfl, _⟩ := h
      rfl
    · obtain ⟨v, vals, t, R, f, rfl, him, hok, hdp, hlk, q⟩ := h
      have hu1 := hu_of hr
      refine ⟨_, (pss_cons (ps_if (pt_val (pe_callB (r := rIsi K) call_isi (by rfl) T.b_isinstance bt_isinstance (pa_cons (pv 0) (pa_cons (pe_ty T.b_int bt_int) pa_nil)))) (pss_one (ps_ret (pe_or2 (pe_ix (r := rIx K) ix_seq (pv 1) (pv 0) (fun _ _ => rfl)) (pe_dget hu1 (pv 1) (pv 0) (fun _ _ => rfl))))) pss_nil) (pss_one (ps_ret (pe_op (r := rAddG K) op_addG (pe_slice (r := rSlG K) sl_G (pv 0) po_none (po_some pe_int)) (pe_callTy (r := rTupOf K) call_tupG (by rfl) T.b_tuple bt_tuple (pa_cons (pe_lc (own := [("part", 2)]) (g := gName 2) (by rfl) sc_put.nd (pi_seq (pe_slice (r := rSlG K) sl_G (pv 0) (po_some pe_int) po_none)) (blkOk_by (own := [("part", 2)]) (N := N_put) (sc := defScope s_put) (by decide +kernel)) (fun _ _ _ _ _ => pg_name (i := 2) sc_put.nd rfl (Or.inl rfl)) (fun _ _ _ _ _ => pts_nil) (fun _ _ _ _ _ => (pe_call G_put (hr.mono (by omega)) rfl T.d_put.g T.d_put.F.kp T.d_put.b .nil pass0 (pa_cons (pv 2) (pa_cons (pv 1) pa_nil))))) pa_nil)))))), ?_⟩
      refine ⟨v, rfl, ?_⟩
      walk_at "nn"
      refine rd_isInt him ?_
      refine ⟨_, rfl, ?_⟩
      cases t with
      | var i =>
        cases him.intI
        obtain ⟨a, rfl, hlk⟩ := hlk
        rcases hlk with ⟨xs, h1, h2⟩ | ⟨xs, h1, h2⟩ | ⟨xs, h1, h2⟩
        · obtain ⟨h0, y, hy, hm⟩ := h2 i hok
          exact Or.inl ⟨.ref a, rfl, .int i, rfl, rd_ixL h1 h0 hy (q _ _ .refl hm)⟩
        · obtain ⟨h0, y, hy, hm⟩ := h2 i hok
          exact Or.inl ⟨.ref a, rfl, .int i, rfl, rd_ixT h1 h0 hy (q _ _ .refl hm)⟩
        · obtain ⟨y, hy, hm⟩ := h2 i hok
          exact Or.inr ⟨.ref a, rfl, .int i, rfl, a, y, rfl, by rw [← hy]; exact DGet.k (k := .inl i) h1, q _ _ .refl hm⟩
      | op x ts =>
        obtain ⟨a, xs0, rfl, ha, hxs⟩ := him.tupI
        obtain ⟨x', xs, rfl, hx', hys⟩ := hxs.invD
        cases hx'.strI
        refine ⟨.ref a, rfl, 1, rfl, rd_slA ha fun p1 H1 m1 e1 => ⟨.ref a, rfl, 1, rfl, rd_sl1 (m1.sqT ha) fun p2 H2 m2 e2 => ⟨p2, rfl, Or.inr ⟨⟨_, e2⟩, fun D nD => ?_⟩⟩⟩⟩
        have m12 := m1.trans m2
        have hl : xs.length = ts.length := by rw [hys.length, Tm.ds_map, List.length_map]
        refine lc_tup (K := K) (a := p2) (xs := xs) (fun i H3 => ∃ ys, H3 D = some (.lst ys) ∧ Ims K H3 ys (Tm.ds ((ts.take i).map (Tm.put f))) ∧ Mv [] H2 H3)
          ⟨[], upd_same, Ims.nil, .new nD⟩ (fun i H3 _ h3 => ?_) (fun i z H3 hz h3 => ?_) (fun H3 h3 => ?_)
        · obtain ⟨ys, _, _, m3⟩ := h3
          exact m3.sqT e2
        · obtain ⟨ys, e3, i3, m3⟩ := h3
          obtain ⟨zd, hzd, hzi⟩ := hys.get hz
          rw [Tm.ds_map, List.getElem?_map] at hzd
          obtain ⟨zt, hzt, rfl⟩ := Option.map_eq_some_iff.mp hzd
          have hmem := List.mem_of_getElem? hzt
          refine ⟨rfl, z, rfl, vals, rfl, z, vals, zt, R, f, rfl, hzi.mv (m12.trans m3), Tm.oks_iff.mp hok.2.2 zt hmem, ?_, hlk.mv (m12.trans m3), fun y H4 m4 h4 => ?_⟩
          · have h5 := Tm.deps_le.mp (show Tm.deps ts ≤ Tm.deps ts from Nat.le_refl _) zt hmem
            simp only [Tm.dep] at hdp
            omega
          · have e4 := m4.same _ _ e3
            refine ⟨_, e4, ?_, ys ++ [y], upd_same, ?_, (m3.trans m4).wr nD⟩
            · have h6 := (List.getElem?_eq_some_iff.mp hzt).1
              have h7 := hok.2.1
              rw [i3.length, Tm.ds_map, List.length_map, List.length_map, List.length_take]
              exact small1000 (by omega)
            · rw [List.take_add_one, hzt]
              rw [show Tm.ds (List.map (Tm.put f) (ts.take i ++ (some zt).toList)) = Tm.ds ((ts.take i).map (Tm.put f)) ++ [(zt.put f).d] by simp [Tm.ds_map]]
              exact ((i3.mv m4).append (Ims.cons h4 Ims.nil)).mv (Mv.set (S := [D]) e4 (by simp))
        · obtain ⟨ys, e3, i3, m3⟩ := h3
          rw [hl, List.take_length] at i3
          walk_at "nn"
          refine rd_tupOf (.inl (.inl e3)) fun p4 H4 m4 e4 => ?_
          refine rd_cat (m4.sqT (m3.sqT (m2.sqT e1))) e4 ?_ fun p5 H5 m5 e5 => ?_
          · have h7 := hok.2.1
            rw [i3.length, Tm.ds_map, List.length_map, List.length_map]
            exact Nat.le_of_lt (small1000 (by simp; omega))
          · refine q _ H5 (((m12.trans m3).trans m4).trans m5) (Im.tup e5 (Ims.cons (Im.str x) ?_))
            rw [← Tm.puts_map] at i3
            exact (i3.mv m4).mv m5

theorem ok__law_put (T : TX K mg) : ∀ d : Nat, FnOk P w K mg base CX0 (d + 1) T.d__law_put.f T.d__law_put.fd P__law_put (sp_put K d)
  | 0 => ⟨fun vs H Q E h => by obtain ⟨_, _, _, _, _, _, _, _, h, _⟩ := h; omega, fun _ _ _ _ _ _ _ _ _ _ _ _ _ h => by obtain ⟨_, _, _, _, _, _, _, _, h, _⟩ := h; omega⟩
  | d + 1 => by
    have G__law_put := ok__law_put T d
    refine T.d__law_put.F.ok sc__law_put (fun vs H Q E h => ?_) (fun cdv A outer s H vs Q E hr h => ?_)
    · obtain ⟨_, _, _, _, _, rfl, _⟩ := h
      rfl
    · obtain ⟨v, vals, t, R, f, rfl, him, hok, hdp, hlk, q⟩ := h
      have hu1 := hu_of hr
      refine ⟨_, (pss_cons (ps_if (pt_val (pe_callB (r := rIsi K) call_isi (by rfl) T.b_isinstance bt_isinstance (pa_cons (pv 0) (pa_cons (pe_ty T.b_int bt_int) pa_nil)))) (pss_one (ps_ret (pe_or2 (pe_ix (r := rIx K) ix_seq (pv 1) (pv 0) (fun _ _ => rfl)) (pe_dget hu1 (pv 1) (pv 0) (fun _ _ => rfl))))) pss_nil) (pss_one (ps_ret (pe_op (r := rAddG K) op_addG (pe_slice (r := rSlG K) sl_G (pv 0) po_none (po_some pe_int)) (pe_callTy (r := rTupOf K) call_tupG (by rfl) T.b_tuple bt_tuple (pa_cons (pe_lc (own := [("_law_part", 2)]) (g := gName 2) (by rfl) sc__law_put.nd (pi_seq (pe_slice (r := rSlG K) sl_G (pv 0) (po_some pe_int) po_none)) (blkOk_by (own := [("_law_part", 2)]) (N := N__law_put) (sc := defScope s__law_put) (by decide +kernel)) (fun _ _ _ _ _ => pg_name (i := 2) sc__law_put.nd rfl (Or.inl rfl)) (fun _ _ _ _ _ => pts_nil) (fun _ _ _ _ _ => (pe_call G__law_put (hr.mono (by omega)) rfl T.d__law_put.g T.d__law_put.F.kp T.d__law_put.b .nil pass0 (pa_cons (pv 2) (pa_cons (pv 1) pa_nil))))) pa_nil)))))), ?_⟩
      refine ⟨v, rfl, ?_⟩
      walk_at "nn"
      refine rd_isInt him ?_
      refine ⟨_, rfl, ?_⟩
      cases t with
      | var i =>
        cases him.intI
        obtain ⟨a, rfl, hlk⟩ := hlk
        rcases hlk with ⟨xs, h1, h2⟩ | ⟨xs, h1, h2⟩ | ⟨xs, h1, h2⟩
        · obtain ⟨h0, y, hy, hm⟩ := h2 i hok
          exact Or.inl ⟨.ref a, rfl, .int i, rfl, rd_ixL h1 h0 hy (q _ _ .refl hm)⟩
        · obtain ⟨h0, y, hy, hm⟩ := h2 i hok
          exact Or.inl ⟨.ref a, rfl, .int i, rfl, rd_ixT h1 h0 hy (q _ _ .refl hm)⟩
        · obtain ⟨y, hy, hm⟩ := h2 i hok
          exact Or.inr ⟨.ref a, rfl, .int i, rfl, a, y, rfl, by rw [← hy]; exact DGet.k (k := .inl i) h1, q _ _ .refl hm⟩
      | op x ts =>
        obtain ⟨a, xs0, rfl, ha, hxs⟩ := him.tupI
        obtain ⟨x', xs, rfl, hx', hys⟩ := hxs.invD
        cases hx'.strI
        refine ⟨.ref a, rfl, 1, rfl, rd_slA ha fun p1 H1 m1 e1 => ⟨.ref a, rfl, 1, rfl, rd_sl1 (m1.sqT ha) fun p2 H2 m2 e2 => ⟨p2, rfl, Or.inr ⟨⟨_, e2⟩, fun D nD => ?_⟩⟩⟩⟩
        have m12 := m1.trans m2
        have hl : xs.length = ts.length := by rw [hys.length, Tm.ds_map, List.length_map]
        refine lc_tup (K := K) (a := p2) (xs := xs) (fun i H3 => ∃ ys, H3 D = some (.lst ys) ∧ Ims K H3 ys (Tm.ds ((ts.take i).map (Tm.put f))) ∧ Mv [] H2 H3)
          ⟨[], upd_same, Ims.nil, .new nD⟩ (fun i H3 _ h3 => ?_) (fun i z H3 hz h3 => ?_) (fun H3 h3 => ?_)
        · obtain ⟨ys, _, _, m3⟩ := h3
          exact m3.sqT e2
        · obtain ⟨ys, e3, i3, m3⟩ := h3
          obtain ⟨zd, hzd, hzi⟩ := hys.get hz
          rw [Tm.ds_map, List.getElem?_map] at hzd
          obtain ⟨zt, hzt, rfl⟩ := Option.map_eq_some_iff.mp hzd
          have hmem := List.mem_of_getElem? hzt
          refine ⟨rfl, z, rfl, vals, rfl, z, vals, zt, R, f, rfl, hzi.mv (m12.trans m3), Tm.oks_iff.mp hok.2.2 zt hmem, ?_, hlk.mv (m12.trans m3), fun y H4 m4 h4 => ?_⟩
          · have h5 := Tm.deps_le.mp (show Tm.deps ts ≤ Tm.deps ts from Nat.le_refl _) zt hmem
            simp only [Tm.dep] at hdp
            omega
          · have e4 := m4.same _ _ e3
            refine ⟨_, e4, ?_, ys ++ [y], upd_same, ?_, (m3.trans m4).wr nD⟩
            · have h6 := (List.getElem?_eq_some_iff.mp hzt).1
              have h7 := hok.2.1
              rw [i3.length, Tm.ds_map, List.length_map, List.length_map, List.length_take]
              exact small1000 (by omega)
            · rw [List.take_add_one, hzt]
              rw [show Tm.ds (List.map (Tm.put f) (ts.take i ++ (some zt).toList)) = Tm.ds ((ts.take i).map (Tm.put f)) ++ [(zt.put f).d] by simp [Tm.ds_map]]
              exact ((i3.mv m4).append (Ims.cons h4 Ims.nil)).mv (Mv.set (S := [D]) e4 (by simp))
        · obtain ⟨ys, e3, i3, m3⟩ := h3
          rw [hl, List.take_length] at i3
          walk_at "nn"
          refine rd_tupOf (.inl (.inl e3)) fun p4 H4 m4 e4 => ?_
          refine rd_cat (m4.sqT (m3.sqT (m2.sqT e1))) e4 ?_ fun p5 H5 m5 e5 => ?_
          · have h7 := hok.2.1
            rw [i3.length, Tm.ds_map, List.length_map, List.length_map]
            exact Nat.le_of_lt (small1000 (by simp; omega))
          · refine q _ H5 (((m12.trans m3).trans m4).trans m5) (Im.tup e5 (Ims.cons (Im.str x) ?_))
            rw [← Tm.puts_map] at i3
            exact (i3.mv m4).mv m5

end
end Fm
namespace Fm
open PySem PySem.Spec PyProof.Rows L2
local macro_rules | `(tactic| walk_at "nn") => `(tactic| dsimp only [tC, tNil, tCons, tCB, tCall, gName, tSeq, tAsg, tPar, tDrop, tRet])
theorem line5 {n : Nat} (h : n ≤ 100000) : n ≤ sizeLine := Nat.le_trans h (by decide)
theorem line5lt {n : Nat} (h : n ≤ 100000) : n < sizeLine := Nat.lt_of_le_of_lt h (by decide)
theorem Tm.lv_mem : ∀ {t : Tm} {ts : List Tm}, t ∈ ts → t.lv ≤ Tm.lvs ts
  | t, u :: ts, h => by
    rcases List.mem_cons.mp h with rfl | h
    · simp only [Tm.lvs]; omega
    · have := Tm.lv_mem h
      simp only [Tm.lvs]; omega
def sp_leavesR (K : PySem.W.Frag) (d : Nat) : Sp := fun vs H Q _ => ∃ (a : Addr) (xs : List V) (ts : List Tm), vs = [.ref a] ∧ (SqL K H a xs ∨ SqT K H a xs) ∧ Ims K H xs (Tm.ds ts) ∧ Tm.deps ts < d ∧ Tm.lvs ts ≤ 100000 ∧
  ∀ p H', H p = none → Mv [] H H' → H' p = some (.lst ((Tm.leavesL ts).map V.int)) → Q (.ref p) H'
def sp_sizeR (K : PySem.W.Frag) (d : Nat) : Sp := fun vs H Q _ => ∃ (a : Addr) (xs : List V) (ts : List Tm), vs = [.ref a] ∧ (SqL K H a xs ∨ SqT K H a xs) ∧ Ims K H xs (Tm.ds ts) ∧ Tm.deps ts < d ∧ ts.length ≤ 100000 ∧ Tm.oks (fun _ => True) ts ∧
  ∀ H', Mv [] H H' → Q (.int (Tm.sizes ts)) H'
section
variable {P : Program} {w : World} {K : PySem.W.Frag} {mg : Str → Option Value} {base : Heap}
end
end Fm
namespace Fm
open PySem PySem.Spec PyProof.Rows L2
local macro_rules | `(tactic| walk_at "nn") => `(tactic| dsimp only [tC, tNil, tCons, tCB, tCall, gName, tSeq, tAsg, tPar, tDrop, tRet])
local macro_rules | `(tactic| walk_at "nc") => `(tactic| dsimp only [tC, tNil, tCons, tCB])
structure Nms (H : Hp) (b nm : Addr) (xs : List Str) : Prop where
  at_ : H nm = some (.lst (xs.map V.str))
  ne : nm ≠ b
  some_ : xs ≠ []
  few : xs.length ≤ 1000
  ok : ∀ x ∈ xs, Nm x
theorem Nms.dr {H H' : Hp} {b nm : Addr} {xs : List Str} (h : Nms H b nm xs) (d : Dr b H H') : Nms H' b nm xs := ⟨d.get h.ne h.at_, h.ne, h.some_, h.few, h.ok⟩
def sp_alike (K : PySem.W.Frag) : Sp := fun vs H Q _ => ∃ (x y : V) (d : PyData), vs = [x, y] ∧ Dp K H x d ∧ Dp K H y d ∧ Shw d ∧ Q (.bl true) H
section
variable {P : Program} {w : World} {K : PySem.W.Frag} {mg : Str → Option Value} {base : Heap}
theorem ok__law_alike (T : TX K mg) {k : Nat} : FnOkG P w K mg base CX0 (k + 1) T.d__law_alike.f T.d__law_alike.fd P__law_alike (sp_alike K) := by
  refine okG T.d__law_alike.F sc__law_alike (fun vs H Q E h => ?_) (fun cdv A outer s H vs Q E hgd hr h => ?_)
  · obtain ⟨_, _, _, rfl, _⟩ := h
    rfl
  · obtain ⟨x, y, d, rfl, hx, hy, hs, q⟩ := h
    have hu64 := hr.units
    refine ⟨_, (pss_one (ps_ret (pe_and (pe_cmpR (r := rEqG K) (op_eqG hu64) (pv 0) (pv 1) (nomark _)) (pe_one (pe_cmpR (r := rEqG K) (op_eqG hu64) (pe_callB (r := rReprG K) (call_reprG hgd hu64) (by rfl) T.b_repr bt_repr (pa_cons (pv 0) pa_nil)) (pe_callB (r := rReprG K) (call_reprG hgd hu64) (by rfl) T.b_repr bt_repr (pa_cons (pv 1) pa_nil)) (nomark _)))))), ?_⟩
    have hf := fine_lay d hs.fi
    refine ⟨x, rfl, y, rfl, Or.inr ⟨d, d, hx, hy, hs.shaped, hs.shaped, _, rfl, ?_⟩⟩
    rw [hs.eqv]
    refine ⟨x, rfl, ?_⟩
    walk_at "nc"
    refine ⟨x, d, rfl, hx, hf.2.1, hf.2.2, hs.dp, hs.len, y, rfl, ?_⟩
    refine ⟨y, d, rfl, hy, hf.2.1, hf.2.2, hs.dp, hs.len, Or.inl ⟨rfl, ?_⟩⟩
    rw [decide_eq_true rfl]
    exact q
end
end Fm
namespace Fm
open PySem PySem.Spec PyProof.Rows L2
local macro_rules | `(tactic| walk_at "nn") => `(tactic| dsimp only [tC, tNil, tCons, tCB, tCall, gName, tSeq, tAsg, tPar, tDrop, tRet])
def Tm.nod (ts : List Tm) : Nat := Tm.sizes ts + Tm.lvs ts
theorem Tm.nod_len : ∀ ts : List Tm, ts.length ≤ Tm.nod ts
  | [] => Nat.zero_le _
  | t :: ts => by
    have h := Tm.nod_len ts
    have h1 : 1 ≤ t.size + t.lv := by cases t <;> simp [Tm.size, Tm.lv] <;> omega
    simp only [Tm.nod, Tm.sizes, Tm.lvs, List.length_cons] at *
    omega
theorem Tm.nod_append (ts us : List Tm) : Tm.nod (ts ++ us) = Tm.nod ts + Tm.nod us := by
  unfold Tm.nod
  rw [Tm.sizes_append, Tm.lvs_append]
  omega
theorem Tm.nod_op (x : Str) (us : List Tm) : Tm.nod [Tm.op x us] = Tm.nod us + 1 := by
  simp only [Tm.nod, Tm.sizes, Tm.lvs, Tm.size, Tm.lv]
  omega
theorem Tm.nod_var (i : Int) : Tm.nod [Tm.var i] = 1 := by simp [Tm.nod, Tm.sizes, Tm.lvs, Tm.size, Tm.lv]
theorem Tm.nod_rev : ∀ ts : List Tm, Tm.nod ts.reverse = Tm.nod ts
  | [] => rfl
  | t :: ts => by
    rw [List.reverse_cons, Tm.nod_append, Tm.nod_rev ts, show t :: ts = [t] ++ ts from rfl, Tm.nod_append]
    omega
theorem Tm.ds_append (ts us : List Tm) : Tm.ds (ts ++ us) = Tm.ds ts ++ Tm.ds us := by simp [Tm.ds_map]
theorem Tm.ds_rev (ts : List Tm) : Tm.ds ts.reverse = (Tm.ds ts).reverse := by simp [Tm.ds_map]
section
variable {K : PySem.W.Frag} {H : Hp}
theorem Ims.reverse : ∀ {ds : List PyData} {vs : List V}, Ims K H vs ds → Ims K H vs.reverse ds.reverse
  | [], _, h => by rw [h.nilD]; exact Ims.nil
  | d :: ds, _, h => by
    obtain ⟨v, vs', rfl, h1, h2⟩ := h.invD
    rw [List.reverse_cons, List.reverse_cons]
    exact h2.reverse.append (Ims.cons h1 Ims.nil)
theorem Ims.last {vs : List V} {ds : List PyData} {d : PyData} (h : Ims K H vs (ds ++ [d])) : ∃ vs' v, vs = vs' ++ [v] ∧ Ims K H vs' ds ∧ Im K H v d := by
  have hr := h.reverse
  rw [List.reverse_append] at hr
  obtain ⟨v, vs', e, h1, h2⟩ := hr.invD
  refine ⟨vs'.reverse, v, ?_, ?_, h1⟩
  · have := congrArg List.reverse e
    simpa using this
  · have := h2.reverse
    simpa using this
theorem rd_neNil {l q : Addr} {ys : List V} {us : List Tm} {P : Int → Prop} {Q : VK} (hP : ∀ i, P i → i.natAbs < 10 ^ 40) (hl : H l = some (.lst ys)) (hq : H q = some (.lst [])) (hi : Ims K H ys (Tm.ds us)) (ho : Tm.oks P us) (hd : Tm.deps us ≤ 50)
    (h : Q (.bl (!us.isEmpty)) H) : rNeG K (.ref l) (.ref q) H Q := by
  have s1 : SeqAt.shaped (.list (Tm.ds us)) = true := by
    show (PyData.canLay0 (.list (Tm.ds us)) && decide (PyData.depth (.list (Tm.ds us)) ≤ 64)) = true
    have e := (fine_lay (.list (Tm.ds us)) (fine_ds hP us ho)).1
    have e2 : PyData.depth (.list (Tm.ds us)) ≤ 64 := by
      simp only [PyData.depth, depth_ds]
      omega
    rw [e, decide_eq_true e2]
    rfl
  refine Or.inr ⟨.list (Tm.ds us), .list [], .lst (.inl (.inl hl)) hi.dp, .lst (.inl (.inl hq)) .nil, s1, by decide, ?_⟩
  rw [eqv_nil]
  have e : (Tm.ds us).isEmpty = us.isEmpty := by cases us <;> simp [Tm.ds]
  rw [e]
  exact h
end
def sp_size (K : PySem.W.Frag) : Sp := fun vs H Q _ => ∃ (a : Addr) (xs : List V) (ts : List Tm) (P : Int → Prop), vs = [.ref a] ∧ (SqL K H a xs ∨ SqT K H a xs) ∧ Ims K H xs (Tm.ds ts) ∧ Tm.oks P ts ∧ (∀ i, P i → i.natAbs < 10 ^ 40) ∧ Tm.deps ts ≤ 50 ∧
  Tm.nod ts ≤ 100000 ∧ ∀ H', Mv [] H H' → Q (.int (Tm.sizes ts)) H'
def sp_leaves (K : PySem.W.Frag) : Sp := fun vs H Q _ => ∃ (a : Addr) (xs : List V) (ts : List Tm) (P : Int → Prop), vs = [.ref a] ∧ (SqL K H a xs ∨ SqT K H a xs) ∧ Ims K H xs (Tm.ds ts) ∧ Tm.oks P ts ∧ (∀ i, P i → i.natAbs < 10 ^ 40) ∧ Tm.deps ts ≤ 50 ∧
  Tm.nod ts ≤ 100000 ∧ ∀ p H', H p = none → Mv [] H H' → H' p = some (.lst ((Tm.leavesL ts).map V.int)) → Q (.ref p) H'
section
variable {P : Program} {w : World} {K : PySem.W.Frag} {mg : Str → Option Value} {base : Heap}
end
end Fm
namespace Fm
open PySem PySem.Spec PyProof.Rows L2
local macro_rules | `(tactic| walk_at "nn") => `(tactic| dsimp only [tC, tNil, tCons, tCB, tCall, gName, tSeq, tAsg, tPar, tDrop, tRet])
theorem Tm.leaves_le (ts : List Tm) : (Tm.leavesL ts).length ≤ Tm.nod ts := by
  rw [Tm.leavesL_len]
  unfold Tm.nod
  omega
section
variable {P : Program} {w : World} {K : PySem.W.Frag} {mg : Str → Option Value} {base : Heap}
theorem ok_leaves (T : TX K mg) {k : Nat} : FnOk P w K mg base CX0 (k + 1) T.d_leaves.f T.d_leaves.fd P_leaves (sp_leaves K) := by
  refine T.d_leaves.F.ok sc_leaves (fun vs H Q E h => ?_) (fun cdv A outer s H vs Q E hr h => ?_)
  · obtain ⟨_, _, _, _, rfl, _⟩ := h
    rfl
  · obtain ⟨a, xs, ts, R, rfl, hS, hxs, hok, hR, hdp, hnd, q⟩ := h
    have hu64 := hr.units
    refine ⟨_, (pss_cons (ps_set (i := 1) sc_leaves.nd rfl (Or.inl rfl) (pe_lst pa_nil)) (pss_cons (ps_set (i := 2) sc_leaves.nd rfl (Or.inl rfl) (pe_callTy (r := rListOf K) call_listG (by rfl) T.b_list bt_list (pa_cons (pv 0) pa_nil))) (pss_cons (ps_expr (pe_bm0 PySem.F.plainAttrs_list PySem.F.slot_list_reverse PySem.F.type_list_reverse mt_reverse (pv 2))) (pss_cons (ps_while PassesOwn.never (pt_cmpR (r := rNeG K) (op_neG hu64) (pv 2) (pe_lst pa_nil) (nomark _)) (pss_cons (ps_set (i := 3) sc_leaves.nd rfl (Or.inl rfl) (pe_bm0 PySem.F.plainAttrs_list PySem.F.slot_list_pop PySem.F.type_list_pop mt_pop (pv 2))) (pss_one (ps_if (pt_val (pe_callB (r := rIsi K) call_isi (by rfl) T.b_isinstance bt_isinstance (pa_cons (pv 3) (pa_cons (pe_ty T.b_int bt_int) pa_nil)))) (pss_one (ps_expr (pe_bm PySem.F.plainAttrs_list PySem.F.slot_list_append PySem.F.type_list_append mt_append (pv 1) (pa_cons (pv 3) pa_nil)))) (pss_one (ps_expr (pe_bm PySem.F.plainAttrs_list PySem.F.slot_list_extend PySem.F.type_list_extend (r := rExtG K) mt_extendG (pv 2) (pa_cons (pe_slice3 (pv 3)) pa_nil)))))))) (pss_one (ps_ret (pv 1))))))), ?_⟩
    refine ⟨Nat.zero_le _, fun fl nf => ⟨.ref a, rfl, ?_⟩⟩
    have m0 : Mv [] H (upd H fl (.lst [])) := .new nf
    have e0 : upd H fl (.lst []) fl = some (.lst []) := upd_same
    generalize upd H fl (.lst []) = H0 at m0 e0 ⊢
    walk_at "nn"
    refine rd_listOf (hS.elim (fun h => .inl (m0.same.seq h)) fun h => .inr (m0.sqT h)) fun l H1 nl0 m1 e1 => ?_
    have nl : H l = none := m0.free nl0
    have nlf : fl ≠ l := ne_of_none e0 nl0
    have f1 := m1.same _ _ e0
    have i1 := hxs.mv (m0.trans m1)
    refine ⟨.ref l, rfl, .inl ⟨rfl, _, .inl (.inl e1)⟩, l, xs, rfl, rfl, e1, ?_⟩
    refine ⟨fun m σ H2 => ∃ (ys : List V) (us : List Tm) (acc : List Int) (y : Option V), σ = [some (.ref a), some (.ref fl), some (.ref l), y] ∧ H2 l = some (.lst ys) ∧ H2 fl = some (.lst (acc.map V.int)) ∧ Ims K H2 ys (Tm.ds us) ∧ Tm.oks R us ∧ Tm.deps us ≤ 50 ∧
      acc ++ Tm.leavesL us.reverse = Tm.leavesL ts ∧ Tm.nod us ≤ 100000 ∧ m = Tm.nod us ∧ Mv [] H H2, ⟨_, xs.reverse, ts.reverse, [], none, rfl, upd_same, ?_, ?_, ?_, ?_, by simp, by rw [Tm.nod_rev]; exact hnd, rfl, (m0.trans m1).wr nl⟩, fun m σ H2 hW => ?_⟩
    · rw [upd_ne nlf]
      exact f1
    · rw [Tm.ds_rev]
      exact i1.reverse.mv (Mv.set (S := [l]) e1 (by simp))
    · exact Tm.oks_iff.mpr fun t ht => Tm.oks_iff.mp hok t (by simpa using ht)
    · exact Tm.deps_le.mpr fun t ht => Tm.deps_le.mp hdp t (by simpa using ht)
    obtain ⟨ys, us, acc, y, rfl, e2, f2, i2, o2, d2, s2, b2, rfl, m2⟩ := hW
    refine ⟨.ref l, rfl, Nat.zero_le _, fun q1 n1 => ?_⟩
    have m3 : Mv [] H2 (upd H2 q1 (.lst [])) := .new n1
    have e3 : upd H2 q1 (.lst []) l = some (.lst ys) := m3.same _ _ e2
    have f3 : upd H2 q1 (.lst []) fl = some (.lst (acc.map V.int)) := m3.same _ _ f2
    refine rd_neNil hR e3 upd_same (i2.mv m3) o2 d2 ?_
    have m23 := m2.trans m3
    have i3 := i2.mv m3
    generalize upd H2 q1 (.lst []) = H3 at m3 e3 f3 m23 i3 ⊢
    refine ⟨_, rfl, ?_⟩
    rcases List.eq_nil_or_concat us with rfl | ⟨us', u, rfl⟩
    · refine ⟨.ref fl, rfl, q fl H3 nf m23 ?_⟩
      rw [f3]
      simp only [List.reverse_nil, Tm.leavesL, List.append_nil] at s2
      rw [s2]
    · rw [List.concat_eq_append] at *
      rw [show (!(us' ++ [u]).isEmpty) = true by simp]
      rw [Tm.ds_append] at i3
      obtain ⟨ys', z, rfl, i4, hz⟩ := Ims.last (ds := Tm.ds us') (d := u.d) i3
      refine ⟨fun σ' H' => ∃ m', m' < Tm.nod (us' ++ [u]) ∧ _, fun _ _ h => h, ?_⟩
      refine ⟨.ref l, rfl, .inl ⟨rfl, _, .inl (.inl e3)⟩, l, _, z, rfl, rfl, e3, by simp, ?_⟩
      have m5 : Mv [l] H3 (upd H3 l (.lst (ys' ++ [z]).dropLast)) := .set e3 (by simp)
      have m25 : Mv [] H (upd H3 l (.lst (ys' ++ [z]).dropLast)) := m23.wr nl
      have e5 : upd H3 l (.lst (ys' ++ [z]).dropLast) l = some (.lst ys') := by rw [upd_same, List.dropLast_concat]
      have f5 : upd H3 l (.lst (ys' ++ [z]).dropLast) fl = some (.lst (acc.map V.int)) := by rw [upd_ne nlf]; exact f3
      generalize upd H3 l (.lst (ys' ++ [z]).dropLast) = H5 at m5 m25 e5 f5 ⊢
      refine ⟨z, rfl, ?_⟩
      walk_at "nn"
      refine rd_isInt (hz.mv m5) ?_
      refine ⟨_, rfl, ?_⟩
      have o' : Tm.oks R us' ∧ u.ok R := ⟨Tm.oks_iff.mpr fun t ht => Tm.oks_iff.mp o2 t (by simp [ht]), Tm.oks_iff.mp o2 u (by simp)⟩
      have d' : Tm.deps us' ≤ 50 ∧ u.dep ≤ 50 := ⟨Tm.deps_le.mpr fun t ht => Tm.deps_le.mp d2 t (by simp [ht]), Tm.deps_le.mp d2 u (by simp)⟩
      have hacc : acc.length ≤ 100000 := by
        have h1 := congrArg List.length s2
        have h2 := Tm.leaves_le ts
        rw [List.length_append] at h1
        omega
      have hacc1 : acc.length + (Tm.leavesL (us' ++ [u]).reverse).length ≤ 100000 := by
        have h1 := congrArg List.length s2
        have h2 := Tm.leaves_le ts
        rw [List.length_append] at h1
        omega
      rw [Tm.nod_append] at b2 ⊢
      rw [List.reverse_append] at s2
      cases u with
      | var i =>
        cases hz.intI
        refine ⟨.ref fl, rfl, .inl ⟨rfl, _, .inl (.inl f5)⟩, .int i, rfl, fl, _, _, rfl, rfl, f5, by rw [List.length_map]; exact line5lt hacc, ?_⟩
        refine ⟨Tm.nod us', by rw [Tm.nod_var]; omega, ys', us', acc ++ [i], _, rfl, ?_, ?_, ?_, o'.1, d'.1, ?_, by omega, rfl, m25.wr nf⟩
        · rw [upd_ne nlf.symm]
          exact e5
        · rw [upd_same, List.map_append]
          rfl
        · exact (i4.mv m5).mv (Mv.set (S := [fl]) f5 (by simp))
        · rw [← s2, List.append_assoc]
          simp [Tm.leavesL, Tm.leaves]
      | op x vs =>
        obtain ⟨a1, zs0, rfl, ha1, hzs0⟩ := (hz.mv m5).tupI
        obtain ⟨x', zs, rfl, hx', hzs⟩ := hzs0.invD
        refine ⟨.ref l, rfl, .inl ⟨rfl, _, .inl (.inl e5)⟩, .ref a1, rfl, a1, _, zs, rfl, ha1, fun p6 n6 => ?_⟩
        have m6 : Mv [] H5 (upd H5 p6 (.tup zs.reverse)) := .new n6
        have e6 : SqT K (upd H5 p6 (.tup zs.reverse)) p6 zs.reverse := .inl (.inl upd_same)
        generalize upd H5 p6 (.tup zs.reverse) = H6 at m6 e6 ⊢
        have e7 := m6.same _ _ e5
        have f7 := m6.same _ _ f5
        have hlen : zs.length = vs.length := by rw [hzs.length, Tm.ds_map, List.length_map]
        have hl' : ys'.length = us'.length := by rw [i4.length, Tm.ds_map, List.length_map]
        have h1 := Tm.nod_len vs
        have h2 := Tm.nod_len us'
        rw [Tm.nod_op] at b2 ⊢
        refine Or.inr ⟨l, p6, ys', zs.reverse, rfl, rfl, e7, e6, line5 (by rw [List.length_reverse]; omega), ?_⟩
        refine ⟨Tm.nod (us' ++ vs.reverse), by rw [Tm.nod_append, Tm.nod_rev]; omega, ys' ++ zs.reverse, us' ++ vs.reverse, acc, _, rfl, upd_same, ?_, ?_, ?_, ?_, ?_, by rw [Tm.nod_append, Tm.nod_rev]; omega, rfl, (m25.trans m6).wr nl⟩
        · rw [upd_ne nlf]
          exact f7
        · rw [Tm.ds_append, Tm.ds_rev]
          exact (((i4.mv m5).mv m6).append (hzs.mv m6).reverse).mv (Mv.set (S := [l]) e7 (by simp))
        · exact Tm.oks_iff.mpr fun t ht => (List.mem_append.mp ht).elim (Tm.oks_iff.mp o'.1 t) (fun h => Tm.oks_iff.mp o'.2.2.2 t (by simpa using h))
        · have hd := d'.2
          simp only [Tm.dep] at hd
          exact Tm.deps_le.mpr fun t ht => (List.mem_append.mp ht).elim (Tm.deps_le.mp d'.1 t) (fun h => Tm.deps_le.mp (show Tm.deps vs ≤ 50 by omega) t (by simpa using h))
        · rw [← s2, List.reverse_append, List.reverse_reverse, Tm.leavesL_append, Tm.leavesL_append]
          simp [Tm.leavesL, Tm.leaves]
end
end Fm
namespace Fm
open PySem PySem.Spec PyProof.Rows L2
local macro_rules | `(tactic| walk_at "nn") => `(tactic| dsimp only [tC, tNil, tCons, tCB, tCall, gName, tSeq, tAsg, tPar, tDrop, tRet])
local macro_rules | `(tactic| walk_at "nc") => `(tactic| dsimp only [tC, tNil, tCons, tCB])
def stpN (acc : List Int) (u : Int) : List Int := if u ∈ acc then acc else acc ++ [u]
def ordr (l : List Int) : List Int := l.foldl stpN []
theorem ordr_take {l : List Int} {i : Nat} {u : Int} (h : l[i]? = some u) : ordr (l.take (i + 1)) = stpN (ordr (l.take i)) u := by
  unfold ordr
  rw [List.take_add_one, h, List.foldl_append]
  rfl
theorem stp_mem {acc : List Int} {u x : Int} : x ∈ stpN acc u ↔ x ∈ acc ∨ x = u := by
  unfold stpN
  split
  · constructor
    · exact .inl
    · rintro (h | rfl) <;> assumption
  · simp
theorem foldl_mem : ∀ (l acc : List Int) (x : Int), x ∈ l.foldl stpN acc ↔ x ∈ acc ∨ x ∈ l
  | [], acc, x => by simp
  | u :: l, acc, x => by
    rw [List.foldl_cons, foldl_mem l, stp_mem, List.mem_cons, or_assoc]
theorem ordr_mem {l : List Int} {x : Int} : x ∈ ordr l ↔ x ∈ l := by simp [ordr, foldl_mem]
theorem foldl_len : ∀ (l acc : List Int), (l.foldl stpN acc).length ≤ acc.length + l.length
  | [], _ => by simp
  | u :: l, acc => by
    have := foldl_len l (stpN acc u)
    have h2 : (stpN acc u).length ≤ acc.length + 1 := by
      unfold stpN
      split <;> simp
    rw [List.foldl_cons, List.length_cons]
    omega
theorem ordr_len (l : List Int) : (ordr l).length ≤ l.length := by simpa [ordr] using foldl_len l []
mutual
theorem Tm.ok_on {P R : Int → Prop} : ∀ t : Tm, t.ok P → (∀ i ∈ t.leaves, R i) → t.ok R
  | .var i, _, h => h i (by simp [Tm.leaves])
  | .op x ts, k, h => ⟨k.1, k.2.1, Tm.oks_on ts k.2.2 fun i hi => h i (by simpa [Tm.leaves] using hi)⟩
theorem Tm.oks_on {P R : Int → Prop} : ∀ ts : List Tm, Tm.oks P ts → (∀ i ∈ Tm.leavesL ts, R i) → Tm.oks R ts
  | [], _, _ => trivial
  | t :: ts, k, h => ⟨Tm.ok_on t k.1 fun i hi => h i (by simp [Tm.leavesL, hi]), Tm.oks_on ts k.2 fun i hi => h i (by simp [Tm.leavesL, hi])⟩
end
theorem Tm.leaf_mem : ∀ {t : Tm} {ts : List Tm} {i : Int}, t ∈ ts → i ∈ t.leaves → i ∈ Tm.leavesL ts
  | t, u :: ts, i, h, hi => by
    rcases List.mem_cons.mp h with rfl | h
    · simp [Tm.leavesL, hi]
    · simp [Tm.leavesL, Tm.leaf_mem h hi]
def numF (o : List Int) (u : Int) : Tm := .var ((o.idxOf u : Nat) : Int)
def NumD (kvs : List (Key × V)) (o : List Int) : Prop := kvs.length = o.length ∧ ∀ u, valV kvs (.inl u) = if u ∈ o then some (.int ((o.idxOf u : Nat) : Int)) else none
theorem idx_new {o : List Int} {u x : Int} (h : x ∈ o) : (o ++ [u]).idxOf x = o.idxOf x := by
  rw [List.idxOf_append, if_pos h]
theorem idx_last {o : List Int} {u : Int} (h : u ∉ o) : (o ++ [u]).idxOf u = o.length := by
  rw [List.idxOf_append, if_neg h]
  simp
theorem NumD.stpN {kvs : List (Key × V)} {o : List Int} {u : Int} (h : NumD kvs o) (hu : u ∉ o) : NumD (putK kvs (.inl u) (.int ((o.length : Nat) : Int))) (o ++ [u]) := by
  have hn : valV kvs (.inl u) = none := by rw [h.2 u, if_neg hu]
  refine ⟨by rw [putK_new _ hn, List.length_append, List.length_append, h.1]; rfl, fun x => ?_⟩
  rw [valV_put, h.2 x]
  by_cases e : x = u
  · subst e
    rw [if_pos rfl, if_pos (by simp), idx_last hu]
  · rw [if_neg (fun z => e (Sum.inl.inj z))]
    by_cases hx : x ∈ o
    · rw [if_pos hx, if_pos (by simp [hx]), idx_new hx]
    · rw [if_neg hx, if_neg (by simp [hx, e])]
theorem NumD.look {K : PySem.W.Frag} {H : Hp} {a : Addr} {kvs : List (Key × V)} {o : List Int} (h : NumD kvs o) (ha : H a = some (.dK kvs)) : Look1 K H (.ref a) (fun i => i ∈ o) (numF o) := by
  refine ⟨a, rfl, .inr (.inr ⟨kvs, ha, fun i hi => ⟨_, ?_, Im.int _⟩⟩)⟩
  rw [h.2 i, if_pos hi]
theorem nd_few : ∀ {ks : List Int} {l : List Int}, ks.Nodup → (∀ k ∈ ks, k ∈ l) → ks.length ≤ l.length
  | [], _, _, _ => Nat.zero_le _
  | k :: ks, l, h, hs => by
    have h' := List.nodup_cons.mp h
    have hk := hs k (by simp)
    have := nd_few (l := l.erase k) h'.2 fun j hj => by
      have hjk : j ≠ k := fun e => h'.1 (by rw [← e]; exact hj)
      exact (List.mem_erase_of_ne hjk).mpr (hs j (by simp [hj]))
    rw [List.length_erase_of_mem hk] at this
    have hp : 0 < l.length := List.length_pos_of_mem hk
    rw [List.length_cons]
    omega
def sp_unknowns (K : PySem.W.Frag) : Sp := fun vs H Q _ => ∃ (a : Addr) (xs : List V) (ts : List Tm) (P : Int → Prop) (fw : List Int), vs = [.ref a] ∧ (SqL K H a xs ∨ SqT K H a xs) ∧ Ims K H xs (Tm.ds ts) ∧ Tm.oks P ts ∧ (∀ i, P i → i.natAbs < 10 ^ 40) ∧ Tm.deps ts ≤ 50 ∧
  Tm.nod ts ≤ 4000 ∧ (∀ i, P i → i ∈ fw) ∧ fw.length < 64 ∧ ∀ p H' (ns : List Int), H p = none → Mv [] H H' → H' p = some (.lst (ns.map V.int)) → ns.Pairwise (· < ·) → (∀ k, k ∈ ns ↔ k ∈ Tm.leavesL ts) → Q (.ref p) H'
def sp_numbered (K : PySem.W.Frag) : Sp := fun vs H Q _ => ∃ (a : Addr) (xs : List V) (ts : List Tm) (P : Int → Prop), vs = [.ref a] ∧ (SqL K H a xs ∨ SqT K H a xs) ∧ Ims K H xs (Tm.ds ts) ∧ Tm.oks P ts ∧ (∀ i, P i → i.natAbs < 10 ^ 40) ∧ Tm.deps ts ≤ 50 ∧
  Tm.nod ts ≤ 4000 ∧ ∀ p H' ys, H p = none → Mv [] H H' → H' p = some (.lst ys) → Ims K H' ys (Tm.ds (Tm.puts (numF (ordr (Tm.leavesL ts))) ts)) → Q (.ref p) H'
section
variable {P : Program} {w : World} {K : PySem.W.Frag} {mg : Str → Option Value} {base : Heap}
theorem ok_numbered (T : TX K mg) : FnOk P w K mg base CX0 53 T.d_numbered.f T.d_numbered.fd P_numbered (sp_numbered K) := by
  have G_leaves : FnOk P w K mg base CX0 1 T.d_leaves.f T.d_leaves.fd P_leaves (sp_leaves K) := ok_leaves T
  have G_put : FnOk P w K mg base CX0 52 T.d_put.f T.d_put.fd P_put (sp_put K 51) := ok_put T 51
  refine T.d_numbered.F.ok sc_numbered (fun vs H Q E h => ?_) (fun cdv A outer s H vs Q E hr h => ?_)
  · obtain ⟨_, _, _, _, rfl, _⟩ := h
    rfl
  · obtain ⟨a, xs, ts, R, rfl, hS, hxs, hok, hR, hdp, hnd, q⟩ := h
    refine ⟨_, (pss_cons (ps_set (i := 1) sc_numbered.nd rfl (Or.inr rfl) pe_dnewK) (pss_cons (ps_for PassesOwn.never rfl (pi_seq (pe_call G_leaves (hr.mono (by omega)) rfl T.d_leaves.g T.d_leaves.F.kp T.d_leaves.b .nil pass0 (pa_cons (pv 0) pa_nil))) (pg_name (i := 2) sc_numbered.nd rfl (Or.inl rfl)) (pss_one (ps_expr (pe_dsetd (pv 1) (pv 2) (pe_callB (r := rLenG K) call_lenG (by rfl) T.b_len bt_len (pa_cons (pv 1) pa_nil)) ⟨rfl, rfl, rfl, rfl⟩)))) (pss_one (ps_ret (pe_lc (own := [("term", 3)]) (g := gName 3) (by rfl) sc_numbered.nd (pi_seq (pv 0)) (blkOk_by (own := [("term", 3)]) (N := N_numbered) (sc := defScope s_numbered) (by decide +kernel)) (fun _ _ _ _ _ => pg_name (i := 3) sc_numbered.nd rfl (Or.inl rfl)) (fun _ _ _ _ _ => pts_nil) (fun _ _ _ _ _ => (pe_call G_put (hr.mono (by omega)) rfl T.d_put.g T.d_put.F.kp T.d_put.b .nil pass0 (pa_cons (pv 3) (pa_cons (pv 1) pa_nil))))))))), ?_⟩
    have hl := Tm.leaves_le ts
    have hxl : xs.length = ts.length := by rw [hxs.length, Tm.ds_map, List.length_map]
    have htl := Tm.nod_len ts
    refine fun dn nd => ?_
    have m0 : Mv [] H (upd H dn (.dK [])) := .new nd
    have e0 : upd H dn (.dK []) dn = some (.dK []) := upd_same
    generalize upd H dn (.dK []) = H0 at m0 e0 ⊢
    have hS0 : SqL K H0 a xs ∨ SqT K H0 a xs := hS.elim (fun h => .inl (m0.same.seq h)) fun h => .inr (m0.sqT h)
    refine ⟨.ref a, rfl, a, xs, ts, R, rfl, hS0, hxs.mv m0, hok, hR, hdp, by omega, fun lp H1 n1 m1 e1 => ⟨lp, rfl, Or.inl ⟨⟨_, .inl (.inl e1)⟩, ?_⟩⟩⟩
    have m01 := m0.trans m1
    have ndl : dn ≠ lp := ne_of_none e0 n1
    refine for_list (K := K) (a := lp) (xs := (Tm.leavesL ts).map V.int) (fun i σ H2 => ∃ (kvs : List (Key × V)) (y y3 : Option V), σ = [some (.ref a), some (.ref dn), y, y3] ∧ H2 dn = some (.dK kvs) ∧ NumD kvs (ordr ((Tm.leavesL ts).take i)) ∧ H2 lp = some (.lst ((Tm.leavesL ts).map V.int)) ∧ Mv [] H H2)
      ⟨[], none, none, rfl, m1.same _ _ e0, ⟨rfl, fun u => rfl⟩, e1, m01⟩ (fun i σ H2 _ h2 => ?_) (fun i x σ H2 hx h2 => ?_) (fun σ H2 h2 => ?_)
    · obtain ⟨_, _, _, _, _, _, h, _⟩ := h2
      exact .inl (.inl h)
    · obtain ⟨kvs, y, y3, rfl, e2, hN, f2, m2⟩ := h2
      rw [List.getElem?_map] at hx
      obtain ⟨u, hu, rfl⟩ := Option.map_eq_some_iff.mp hx
      have hi := (List.getElem?_eq_some_iff.mp hu).1
      have hol := ordr_len ((Tm.leavesL ts).take i)
      rw [List.length_take] at hol
      refine ⟨.ref dn, rfl, dn, rfl, .inl ⟨kvs, .inl e2⟩, .int u, rfl, .ref dn, rfl, ?_⟩
      walk_at "nn"
      refine Or.inr (Or.inr ⟨dn, kvs, rfl, e2, kvs, .inl u, e2, rfl, line5lt (by rw [hN.1]; omega), fun v hv => ?_, fun hv => ?_⟩)
      · rw [hN.2 u] at hv
        have hmem : u ∈ ordr ((Tm.leavesL ts).take i) := by
          by_cases hm : u ∈ ordr ((Tm.leavesL ts).take i)
          · exact hm
          · rw [if_neg hm] at hv
            cases hv
        refine ⟨kvs, _, y3, rfl, e2, ?_, f2, m2⟩
        rw [ordr_take hu]
        unfold stpN
        rw [if_pos hmem]
        exact hN
      · rw [hN.2 u] at hv
        have hmem : u ∉ ordr ((Tm.leavesL ts).take i) := fun hm => by
          rw [if_pos hm] at hv
          cases hv
        refine ⟨_, _, y3, rfl, upd_same, ?_, ?_, m2.wr nd⟩
        · rw [ordr_take hu]
          unfold stpN
          rw [if_neg hmem, hN.1]
          exact hN.stpN hmem
        · rw [upd_ne ndl.symm]
          exact f2
    · obtain ⟨kvs, y, y3, rfl, e2, hN, f2, m2⟩ := h2
      rw [List.length_map, List.take_length] at hN
      have hS2 : SqL K H2 a xs ∨ SqT K H2 a xs := hS.elim (fun h => .inl (m2.same.seq h)) fun h => .inr (m2.sqT h)
      refine ⟨.ref a, rfl, a, rfl, ?_⟩
      refine lc_seq (xs := xs) hS2 (fun i D H3 => ∃ ys, H3 D = some (.lst ys) ∧ Ims K H3 ys (Tm.ds ((ts.take i).map (Tm.put (numF (ordr (Tm.leavesL ts)))))) ∧ Mv [] H2 H3)
        (fun D nD => ⟨[], upd_same, Ims.nil, .new nD⟩) (fun i D H3 nD h3 => h3.elim fun _ h => h.2.2) (fun D nD i x H3 hx h3 => ?_) (fun D H3 nD h3 => ?_)
      · obtain ⟨ys, e3, i3, m3⟩ := h3
        obtain ⟨xd, hxd, him⟩ := hxs.get hx
        rw [Tm.ds_map, List.getElem?_map] at hxd
        obtain ⟨t, ht, rfl⟩ := Option.map_eq_some_iff.mp hxd
        have hmem := List.mem_of_getElem? ht
        have hi := (List.getElem?_eq_some_iff.mp ht).1
        have htd := Tm.deps_le.mp hdp t hmem
        have hlk := (hN.look (K := K) e2).mv m3
        have hokt := Tm.oks_iff.mp hok t hmem
        refine ⟨rfl, x, rfl, .ref dn, rfl, x, .ref dn, t, _, _, rfl, him.mv (m2.trans m3), Tm.ok_on t hokt fun i hi => ordr_mem.mpr (Tm.leaf_mem hmem hi), by omega, hlk, fun y H4 m4 h4 => ?_⟩
        have e4 := m4.same _ _ e3
        refine ⟨_, e4, ?_, ys ++ [y], upd_same, ?_, (m3.trans m4).wr nD⟩
        · rw [i3.length, Tm.ds_map, List.length_map, List.length_map, List.length_take]
          exact line5lt (by omega)
        · rw [List.take_add_one, ht]
          rw [show Tm.ds (List.map (Tm.put (numF (ordr (Tm.leavesL ts)))) (ts.take i ++ (some t).toList)) = Tm.ds ((ts.take i).map (Tm.put (numF (ordr (Tm.leavesL ts))))) ++ [(t.put (numF (ordr (Tm.leavesL ts)))).d] by simp [Tm.ds_map]]
          exact ((i3.mv m4).append (Ims.cons h4 Ims.nil)).mv (Mv.set (S := [D]) e4 (by simp))
      · obtain ⟨ys, e3, i3, m3⟩ := h3
        rw [hxl, List.take_length, ← Tm.puts_map] at i3
        exact q D H3 ys (m2.free nD) (m2.trans m3) e3 i3
theorem paired_snocN {α β : Type} {F : α → β → Prop} {a : α} {b : β} : ∀ {l : List α} {m : List β}, Paired F l m → F a b → Paired F (l ++ [a]) (m ++ [b])
  | _, _, .nil, h => .cons h .nil
  | _, _, .cons r t, h => .cons r (paired_snocN t h)
theorem paired_imp {α β : Type} {F G : α → β → Prop} (hFG : ∀ a b, F a b → G a b) : ∀ {l : List α} {m : List β}, Paired F l m → Paired G l m
  | _, _, .nil => .nil
  | _, _, .cons r t => .cons (hFG _ _ r) (paired_imp hFG t)
end
end Fm
namespace Fm
open PySem PySem.Spec PyProof.Rows L2
mutual
theorem eqv_d : ∀ t u : Tm, PyData.eqv t.d u.d = true → t = u
  | .var i, .var j, h => by
    simp [Tm.d, PyData.eqv] at h
    rw [h]
  | .var i, .op y us, h => by simp [Tm.d, PyData.eqv] at h
  | .op x ts, .var j, h => by simp [Tm.d, PyData.eqv] at h
  | .op x ts, .op y us, h => by
    simp only [Tm.d, PyData.eqv, PyData.eqvAll, Bool.and_eq_true, beq_iff_eq] at h
    rw [h.1, eqv_ds ts us h.2]
theorem eqv_ds : ∀ ts us : List Tm, PyData.eqvAll (Tm.ds ts) (Tm.ds us) = true → ts = us
  | [], [], _ => rfl
  | [], u :: us, h => by simp [Tm.ds, PyData.eqvAll] at h
  | t :: ts, [], h => by simp [Tm.ds, PyData.eqvAll] at h
  | t :: ts, u :: us, h => by
    simp only [Tm.ds, PyData.eqvAll, Bool.and_eq_true] at h
    rw [eqv_d t u h.1, eqv_ds ts us h.2]
end
mutual
def Tm.sg : Tm → List Nat
  | .var i => (((toString i : String) : Str)).cps.toList
  | .op x [] => [40, 39] ++ x.cps.toList ++ [39, 44, 41]
  | .op x (t :: ts) => [40, 39] ++ x.cps.toList ++ [39, 44] ++ ([32] ++ t.sg ++ Tm.sgs ts)
def Tm.sgs : List Tm → List Nat
  | [] => [41]
  | t :: ts => [44, 32] ++ t.sg ++ Tm.sgs ts
end
theorem cps_append (x y : Str) : (x ++ y).cps.toList = x.cps.toList ++ y.cps.toList := by
  show (x.cps ++ y.cps).toList = _
  simp
theorem letter_sg {c : Nat} (h : 97 ≤ c ∧ c ≤ 122) : Builtin.Str.reprChar 39 c = [c] := by
  have : ∀ c : Fin 123, 97 ≤ c.val → Builtin.Str.reprChar 39 c.val = [c.val] := by decide +kernel
  exact this ⟨c, by omega⟩ h.1
theorem letters_sg : ∀ (l : List Nat) (acc : Array Nat), (∀ c ∈ l, 97 ≤ c ∧ c ≤ 122) → l.foldl (fun out c => out ++ (Builtin.Str.reprChar 39 c).toArray) acc = acc ++ l.toArray
  | [], acc, _ => by simp
  | c :: l, acc, h => by
    rw [List.foldl_cons, letter_sg (h c (by simp)), letters_sg l _ fun c hc => h c (by simp [hc])]
    simp
theorem name_sg {x : Str} (h : Nm x) : (reprText x).cps.toList = [39] ++ x.cps.toList ++ [39] := by
  have hc := h.2.2
  have n39 : x.cps.contains 39 = false := by
    rw [Bool.eq_false_iff]
    intro z
    have z' : 39 ∈ x.cps.toList := by simpa using z
    have := hc 39 z'
    omega
  have hq : reprQuote x = 39 := by
    unfold reprQuote
    rw [n39]
    rfl
  unfold reprText
  rw [hq, ← Array.foldl_toList, letters_sg _ _ hc]
  simp
mutual
theorem sg_d {P : Int → Prop} : ∀ t : Tm, t.ok P → t.d.shown.cps.toList = t.sg
  | .var i, _ => by simp only [Tm.d, PyData.shown_int, Tm.sg]
  | .op x [], h => by
    simp only [Tm.d, Tm.ds, PyData.shown_tuple, PyData.shownAll, PyData.shown_str, cps_append, Str.join, Tm.sg, name_sg h.1]
    have e5 : (Str.ofString (if ([PyData.str x].length == 1) = true then ",)" else ")")).cps.toList = [44, 41] := by
      rw [show ([PyData.str x].length == 1) = true from rfl]
      decide +kernel
    have e6 : (("(" : String) : Str).cps.toList = [40] := by decide +kernel
    rw [e5, e6]
    simp
  | .op x (t :: ts), h => by
    have e1 := sg_d t h.2.2.1
    have e2 := sgs_d ts h.2.2.2
    simp only [Tm.d, Tm.ds, PyData.shown_tuple, PyData.shownAll, PyData.shown_str, cps_append, Tm.sg]
    rw [show Str.join ", " (reprText x :: t.d.shown :: PyData.shownAll (Tm.ds ts)) = reprText x ++ ", " ++ Str.join ", " (t.d.shown :: PyData.shownAll (Tm.ds ts)) from rfl, cps_append, cps_append, name_sg h.1]
    have e3 : (List.length (PyData.str x :: t.d :: Tm.ds ts) == 1) = false := by simp
    rw [e3]
    have e4 : (Str.join ", " (t.d.shown :: PyData.shownAll (Tm.ds ts))).cps.toList ++ [41] = t.sg ++ Tm.sgs ts := by rw [e2, e1]
    have e5 : ((if false = true then ",)" else ")" : String) : Str).cps.toList = [41] := by decide +kernel
    have e6 : (("(" : String) : Str).cps.toList = [40] := by decide +kernel
    have e7 : ((", " : String) : Str).cps.toList = [44, 32] := by decide +kernel
    rw [e5, e6, e7, List.append_assoc, List.append_assoc _ _ [41], e4]
    simp
theorem sgs_d {P : Int → Prop} : ∀ ts : List Tm, Tm.oks P ts → ∀ y : Str, (Str.join ", " (y :: PyData.shownAll (Tm.ds ts))).cps.toList ++ [41] = y.cps.toList ++ Tm.sgs ts
  | [], _, y => by simp only [Tm.ds, PyData.shownAll, Str.join, Tm.sgs]
  | t :: ts, h, y => by
    have e1 := sg_d t h.1
    have e2 := sgs_d ts h.2
    have e7 : ((", " : String) : Str).cps.toList = [44, 32] := by decide +kernel
    simp only [Tm.ds, PyData.shownAll, Tm.sgs]
    rw [show Str.join ", " (y :: t.d.shown :: PyData.shownAll (Tm.ds ts)) = y ++ ", " ++ Str.join ", " (t.d.shown :: PyData.shownAll (Tm.ds ts)) from rfl, cps_append, cps_append, List.append_assoc, e2, e1, e7]
    simp
end
theorem names_parted : ∀ (x y r s : List Nat), (∀ c ∈ x, 97 ≤ c ∧ c ≤ 122) → (∀ c ∈ y, 97 ≤ c ∧ c ≤ 122) → x ++ 39 :: r = y ++ 39 :: s → x = y ∧ r = s
  | [], [], r, s, _, _, h => ⟨rfl, by simpa using h⟩
  | [], c :: y, r, s, _, hy, h => by
    have e : 39 = c := (List.cons.inj h).1
    have := hy c (by simp)
    omega
  | c :: x, [], r, s, hx, _, h => by
    have e : c = 39 := (List.cons.inj h).1
    have := hx c (by simp)
    omega
  | c :: x, e :: y, r, s, hx, hy, h => by
    obtain ⟨h1, h2⟩ := List.cons.inj h
    obtain ⟨h3, h4⟩ := names_parted x y r s (fun c hc => hx c (by simp [hc])) (fun c hc => hy c (by simp [hc])) h2
    exact ⟨by rw [h1, h3], h4⟩
def fig (i : Int) : Prop := 0 ≤ i ∧ i < 10
theorem fig_sg {i : Int} (h : fig i) : (Tm.var i).sg = [48 + i.toNat] := by
  obtain ⟨j, rfl⟩ := Int.eq_ofNat_of_zero_le h.1
  have h2 : j < 10 := by have := h.2; omega
  have : ∀ j : Fin 10, (((toString ((j.val : Nat) : Int) : String) : Str)).cps.toList = [48 + j.val] := by decide +kernel
  simp only [Tm.sg, Int.toNat_natCast]
  exact this ⟨j, h2⟩
theorem op_sg (x : Str) (ts : List Tm) : ∃ r, (Tm.op x ts).sg = 40 :: r := by cases ts <;> exact ⟨_, by simp only [Tm.sg]; rfl⟩
theorem op_eq {x y : Str} {us : List Tm} (h1 : x.cps.toList = y.cps.toList) : Tm.op x us = Tm.op y us := by
  have : x = y := by
    cases x; cases y
    congr
    exact Array.toList_inj.mp h1
  rw [this]
mutual
theorem sg_inj : ∀ (t u : Tm) (r s : List Nat), t.ok fig → u.ok fig → t.sg ++ r = u.sg ++ s → t = u ∧ r = s
  | .var i, .var j, r, s, ht, hu, h => by
    rw [fig_sg ht, fig_sg hu] at h
    obtain ⟨h1, h2⟩ := List.cons.inj h
    have a1 := ht.1
    have a2 := hu.1
    exact ⟨by rw [show i = j by omega], h2⟩
  | .var i, .op y us, r, s, ht, hu, h => by
    obtain ⟨z, e⟩ := op_sg y us
    rw [fig_sg ht, e] at h
    have := (List.cons.inj h).1
    omega
  | .op x ts, .var j, r, s, ht, hu, h => by
    obtain ⟨z, e⟩ := op_sg x ts
    rw [fig_sg hu, e] at h
    have := (List.cons.inj h).1
    omega
  | .op x [], .op y [], r, s, ht, hu, h => by
    simp only [Tm.sg, List.append_assoc, List.cons_append, List.nil_append, List.cons.injEq, true_and] at h
    obtain ⟨h1, h2⟩ := names_parted _ _ _ _ ht.1.2.2 hu.1.2.2 h
    exact ⟨op_eq h1, by simpa using h2⟩
  | .op x [], .op y (u :: us), r, s, ht, hu, h => by
    simp only [Tm.sg, List.append_assoc, List.cons_append, List.nil_append, List.cons.injEq, true_and] at h
    obtain ⟨h1, h2⟩ := names_parted _ _ _ _ ht.1.2.2 hu.1.2.2 h
    simp at h2
  | .op x (t :: ts), .op y [], r, s, ht, hu, h => by
    simp only [Tm.sg, List.append_assoc, List.cons_append, List.nil_append, List.cons.injEq, true_and] at h
    obtain ⟨h1, h2⟩ := names_parted _ _ _ _ ht.1.2.2 hu.1.2.2 h
    simp at h2
  | .op x (t :: ts), .op y (u :: us), r, s, ht, hu, h => by
    simp only [Tm.sg, List.append_assoc, List.cons_append, List.nil_append, List.cons.injEq, true_and] at h
    obtain ⟨h1, h2⟩ := names_parted _ _ _ _ ht.1.2.2 hu.1.2.2 h
    simp only [List.cons.injEq, true_and] at h2
    obtain ⟨h3, h4⟩ := sg_inj t u _ _ ht.2.2.1 hu.2.2.1 h2
    obtain ⟨h5, h6⟩ := sgs_inj ts us _ _ ht.2.2.2 hu.2.2.2 h4
    rw [h3, h5]
    exact ⟨op_eq h1, h6⟩
theorem sgs_inj : ∀ (ts us : List Tm) (r s : List Nat), Tm.oks fig ts → Tm.oks fig us → Tm.sgs ts ++ r = Tm.sgs us ++ s → ts = us ∧ r = s
  | [], [], r, s, _, _, h => ⟨rfl, by simpa [Tm.sgs] using h⟩
  | [], u :: us, r, s, _, _, h => by simp [Tm.sgs] at h
  | t :: ts, [], r, s, _, _, h => by simp [Tm.sgs] at h
  | t :: ts, u :: us, r, s, ht, hu, h => by
    simp only [Tm.sgs, List.append_assoc, List.cons_append, List.nil_append, List.cons.injEq, true_and] at h
    obtain ⟨h3, h4⟩ := sg_inj t u _ _ ht.1 hu.1 h
    obtain ⟨h5, h6⟩ := sgs_inj ts us _ _ ht.2 hu.2 h4
    rw [h3, h5]
    exact ⟨rfl, h6⟩
end
end Fm
namespace Fm
open PySem PySem.Spec PyProof.Rows L2
noncomputable instance : DecidableEq Tm := fun a b => Classical.propDecidable _
section
variable {α β γ : Type}
def stpg [DecidableEq α] (acc : List α) (u : α) : List α := if u ∈ acc then acc else acc ++ [u]
def ordg [DecidableEq α] (l : List α) : List α := l.foldl stpg []
section
variable [DecidableEq α]
theorem stpg_mem {acc : List α} {u x : α} : x ∈ stpg acc u ↔ x ∈ acc ∨ x = u := by
  unfold stpg
  split
  · constructor
    · exact .inl
    · rintro (h | rfl) <;> assumption
  · simp
theorem foldg_mem : ∀ (l acc : List α) (x : α), x ∈ l.foldl stpg acc ↔ x ∈ acc ∨ x ∈ l
  | [], acc, x => by simp
  | u :: l, acc, x => by
    rw [List.foldl_cons, foldg_mem l, stpg_mem, List.mem_cons, or_assoc]
theorem ordg_mem {l : List α} {x : α} : x ∈ ordg l ↔ x ∈ l := by simp [ordg, foldg_mem]
theorem foldg_nd : ∀ (l acc : List α), acc.Nodup → (l.foldl stpg acc).Nodup
  | [], _, h => h
  | u :: l, acc, h => by
    refine foldg_nd l _ ?_
    unfold stpg
    split
    · exact h
    · rename_i hu
      rw [List.nodup_append]
      exact ⟨h, by simp, fun a ha b hb => by rintro rfl; rw [List.mem_singleton.mp hb] at ha; exact hu ha⟩
theorem ordg_nd (l : List α) : (ordg l).Nodup := foldg_nd l [] List.nodup_nil
theorem foldg_pre : ∀ (l acc : List α), ∃ r, l.foldl stpg acc = acc ++ r
  | [], acc => ⟨[], by simp⟩
  | u :: l, acc => by
    obtain ⟨r, hr⟩ := foldg_pre l (stpg acc u)
    rw [List.foldl_cons, hr]
    unfold stpg
    split
    · exact ⟨r, rfl⟩
    · exact ⟨[u] ++ r, by simp⟩
theorem idx_pre {acc r : List α} {x : α} (h : x ∈ acc) : (acc ++ r).idxOf x = acc.idxOf x := by
  rw [List.idxOf_append, if_pos h]
theorem idx_inj {l : List α} {x y : α} (hx : x ∈ l) (hy : y ∈ l) (e : l.idxOf x = l.idxOf y) : x = y := by
  have h1 := List.getElem_idxOf (List.idxOf_lt_length_iff.mpr hx)
  have h2 := List.getElem_idxOf (List.idxOf_lt_length_iff.mpr hy)
  simp only [e] at h1
  exact h1.symm.trans h2
end
theorem foldg_map [DecidableEq α] [DecidableEq β] {f : α → β} : ∀ (l acc : List α), (∀ x ∈ acc ++ l, ∀ y ∈ acc ++ l, f x = f y → x = y) → (l.map f).foldl stpg (acc.map f) = (l.foldl stpg acc).map f
  | [], acc, _ => rfl
  | u :: l, acc, h => by
    have e : stpg (acc.map f) (f u) = (stpg acc u).map f := by
      unfold stpg
      by_cases hu : u ∈ acc
      · rw [if_pos hu, if_pos (List.mem_map.mpr ⟨u, hu, rfl⟩)]
      · rw [if_neg hu, if_neg (fun z => by
          obtain ⟨v, hv, e⟩ := List.mem_map.mp z
          exact hu (h v (by simp [hv]) u (by simp) e ▸ hv)), List.map_append]
        rfl
    rw [List.map_cons, List.foldl_cons, List.foldl_cons, e]
    refine foldg_map l _ fun x hx y hy => h x ?_ y ?_
    · rcases List.mem_append.mp hx with hx | hx
      · rcases stpg_mem.mp hx with hx | rfl <;> simp_all
      · simp [hx]
    · rcases List.mem_append.mp hy with hy | hy
      · rcases stpg_mem.mp hy with hy | rfl <;> simp_all
      · simp [hy]
theorem ordg_map [DecidableEq α] [DecidableEq β] {f : α → β} {l : List α} (h : ∀ x ∈ l, ∀ y ∈ l, f x = f y → x = y) : ordg (l.map f) = (ordg l).map f := by
  have := foldg_map (f := f) l [] (by simpa using h)
  simpa [ordg] using this
theorem idxOf_map [DecidableEq α] [DecidableEq β] {f : α → β} : ∀ {l : List α} {a : α}, (∀ x ∈ l, f x = f a → x = a) → (l.map f).idxOf (f a) = l.idxOf a
  | [], a, _ => rfl
  | x :: l, a, h => by
    rw [List.map_cons, List.idxOf_cons, List.idxOf_cons]
    by_cases hx : x = a
    · subst hx
      simp
    · have hf : f x ≠ f a := fun e => hx (h x (by simp) e)
      have ih := idxOf_map (f := f) (l := l) (a := a) fun y hy => h y (by simp [hy])
      rw [show (f x == f a) = false by simp [hf], show (x == a) = false by simp [hx]]
      simp only [cond_false, ih]
inductive Gt (α : Type) where
  | leaf (a : α)
  | op (x : Str) (gs : List (Gt α))
mutual
def Gt.lab : Gt α → List α
  | .leaf a => [a]
  | .op _ gs => Gt.labs gs
def Gt.labs : List (Gt α) → List α
  | [] => []
  | g :: gs => Gt.lab g ++ Gt.labs gs
end
mutual
def Gt.map (f : α → β) : Gt α → Gt β
  | .leaf a => .leaf (f a)
  | .op x gs => .op x (Gt.maps f gs)
def Gt.maps (f : α → β) : List (Gt α) → List (Gt β)
  | [] => []
  | g :: gs => Gt.map f g :: Gt.maps f gs
end
mutual
def Gt.num (f : α → Int) : Gt α → Tm
  | .leaf a => .var (f a)
  | .op x gs => .op x (Gt.nums f gs)
def Gt.nums (f : α → Int) : List (Gt α) → List Tm
  | [] => []
  | g :: gs => Gt.num f g :: Gt.nums f gs
end
def idxN [DecidableEq α] (l : List α) (a : α) : Int := ((l.idxOf a : Nat) : Int)
def canon [DecidableEq α] (gs : List (Gt α)) : List Tm := Gt.nums (idxN (ordg (Gt.labs gs))) gs
mutual
theorem Gt.lab_map (f : α → β) : ∀ g : Gt α, (g.map f).lab = g.lab.map f
  | .leaf a => rfl
  | .op x gs => by simp only [Gt.map, Gt.lab, Gt.labs_maps f gs]
theorem Gt.labs_maps (f : α → β) : ∀ gs : List (Gt α), Gt.labs (Gt.maps f gs) = (Gt.labs gs).map f
  | [] => rfl
  | g :: gs => by simp only [Gt.maps, Gt.labs, Gt.lab_map f g, Gt.labs_maps f gs, List.map_append]
end
mutual
theorem Gt.num_map (h : β → Int) (f : α → β) : ∀ g : Gt α, (g.map f).num h = g.num (fun a => h (f a))
  | .leaf a => rfl
  | .op x gs => by simp only [Gt.map, Gt.num, Gt.nums_maps h f gs]
theorem Gt.nums_maps (h : β → Int) (f : α → β) : ∀ gs : List (Gt α), Gt.nums h (Gt.maps f gs) = Gt.nums (fun a => h (f a)) gs
  | [] => rfl
  | g :: gs => by simp only [Gt.maps, Gt.nums, Gt.num_map h f g, Gt.nums_maps h f gs]
end
mutual
theorem Gt.num_congr {f h : α → Int} : ∀ g : Gt α, (∀ a ∈ g.lab, f a = h a) → g.num f = g.num h
  | .leaf a, k => by simp only [Gt.num]; rw [k a (by simp [Gt.lab])]
  | .op x gs, k => by simp only [Gt.num]; rw [Gt.nums_congr gs (by simpa [Gt.lab] using k)]
theorem Gt.nums_congr {f h : α → Int} : ∀ gs : List (Gt α), (∀ a ∈ Gt.labs gs, f a = h a) → Gt.nums f gs = Gt.nums h gs
  | [], _ => rfl
  | g :: gs, k => by
    simp only [Gt.nums]
    rw [Gt.num_congr g fun a ha => k a (by simp [Gt.labs, ha]), Gt.nums_congr gs fun a ha => k a (by simp [Gt.labs, ha])]
end
mutual
theorem Gt.map_congr {f h : α → β} : ∀ g : Gt α, (∀ a ∈ g.lab, f a = h a) → g.map f = g.map h
  | .leaf a, k => by simp only [Gt.map]; rw [k a (by simp [Gt.lab])]
  | .op x gs, k => by simp only [Gt.map]; rw [Gt.maps_congr gs (by simpa [Gt.lab] using k)]
theorem Gt.maps_congr {f h : α → β} : ∀ gs : List (Gt α), (∀ a ∈ Gt.labs gs, f a = h a) → Gt.maps f gs = Gt.maps h gs
  | [], _ => rfl
  | g :: gs, k => by
    simp only [Gt.maps]
    rw [Gt.map_congr g fun a ha => k a (by simp [Gt.labs, ha]), Gt.maps_congr gs fun a ha => k a (by simp [Gt.labs, ha])]
end
mutual
theorem Gt.map_map (f : α → β) (h : β → γ) : ∀ g : Gt α, (g.map f).map h = g.map (fun a => h (f a))
  | .leaf a => rfl
  | .op x gs => by simp only [Gt.map, Gt.maps_maps f h gs]
theorem Gt.maps_maps (f : α → β) (h : β → γ) : ∀ gs : List (Gt α), Gt.maps h (Gt.maps f gs) = Gt.maps (fun a => h (f a)) gs
  | [] => rfl
  | g :: gs => by simp only [Gt.maps, Gt.map_map f h g, Gt.maps_maps f h gs]
end
theorem Gt.nums_len (f : α → Int) : ∀ gs : List (Gt α), (Gt.nums f gs).length = gs.length
  | [] => rfl
  | g :: gs => by simp [Gt.nums, Gt.nums_len f gs]
theorem canon_map [DecidableEq α] [DecidableEq β] {f : α → β} {gs : List (Gt α)} (h : ∀ x ∈ Gt.labs gs, ∀ y ∈ Gt.labs gs, f x = f y → x = y) : canon (Gt.maps f gs) = canon gs := by
  unfold canon
  rw [Gt.labs_maps, ordg_map h, Gt.nums_maps]
  refine Gt.nums_congr gs fun a ha => ?_
  unfold idxN
  rw [idxOf_map fun x hx e => h x (ordg_mem.mp hx) a ha e]
mutual
theorem Gt.num_zip {f : α → Int} {h : β → Int} : ∀ (g : Gt α) (k : Gt β), g.num f = k.num h → ∃ z : Gt (α × β), z.map (·.1) = g ∧ z.map (·.2) = k ∧ ∀ p ∈ z.lab, f p.1 = h p.2
  | .leaf a, .leaf b, e => ⟨.leaf (a, b), rfl, rfl, fun p hp => by
      simp only [Gt.lab, List.mem_singleton] at hp
      subst hp
      simpa [Gt.num] using e⟩
  | .leaf a, .op y ks, e => by simp [Gt.num] at e
  | .op x gs, .leaf b, e => by simp [Gt.num] at e
  | .op x gs, .op y ks, e => by
    simp only [Gt.num, Tm.op.injEq] at e
    obtain ⟨rfl, e⟩ := e
    obtain ⟨zs, h1, h2, h3⟩ := Gt.nums_zip gs ks e
    exact ⟨.op x zs, by simp only [Gt.map, h1], by simp only [Gt.map, h2], by simpa [Gt.lab] using h3⟩
theorem Gt.nums_zip {f : α → Int} {h : β → Int} : ∀ (gs : List (Gt α)) (ks : List (Gt β)), Gt.nums f gs = Gt.nums h ks → ∃ zs : List (Gt (α × β)), Gt.maps (·.1) zs = gs ∧ Gt.maps (·.2) zs = ks ∧ ∀ p ∈ Gt.labs zs, f p.1 = h p.2
  | [], [], _ => ⟨[], rfl, rfl, by simp [Gt.labs]⟩
  | [], k :: ks, e => by simp [Gt.nums] at e
  | g :: gs, [], e => by simp [Gt.nums] at e
  | g :: gs, k :: ks, e => by
    simp only [Gt.nums, List.cons.injEq] at e
    obtain ⟨z, h1, h2, h3⟩ := Gt.num_zip g k e.1
    obtain ⟨zs, h4, h5, h6⟩ := Gt.nums_zip gs ks e.2
    refine ⟨z :: zs, by simp only [Gt.maps, h1, h4], by simp only [Gt.maps, h2, h5], fun p hp => ?_⟩
    simp only [Gt.labs, List.mem_append] at hp
    exact hp.elim (h3 p) (h6 p)
end
theorem canon_iff [DecidableEq α] [DecidableEq β] {gs : List (Gt α)} {ks : List (Gt β)} : canon gs = canon ks ↔ ∃ zs : List (Gt (α × β)), Gt.maps (·.1) zs = gs ∧ Gt.maps (·.2) zs = ks ∧ ∀ p ∈ Gt.labs zs, ∀ q ∈ Gt.labs zs, (p.1 = q.1 ↔ p.2 = q.2) := by
  constructor
  · intro e
    obtain ⟨zs, h1, h2, h3⟩ := Gt.nums_zip gs ks e
    refine ⟨zs, h1, h2, fun p hp q hq => ?_⟩
    have l1 : ∀ p ∈ Gt.labs zs, p.1 ∈ ordg (Gt.labs gs) := fun p hp => ordg_mem.mpr (by rw [← h1, Gt.labs_maps]; exact List.mem_map.mpr ⟨p, hp, rfl⟩)
    have l2 : ∀ p ∈ Gt.labs zs, p.2 ∈ ordg (Gt.labs ks) := fun p hp => ordg_mem.mpr (by rw [← h2, Gt.labs_maps]; exact List.mem_map.mpr ⟨p, hp, rfl⟩)
    have e1 := h3 p hp
    have e2 := h3 q hq
    unfold idxN at e1 e2
    constructor
    · intro h
      rw [h] at e1
      exact idx_inj (l2 p hp) (l2 q hq) (by omega)
    · intro h
      rw [h] at e1
      exact idx_inj (l1 p hp) (l1 q hq) (by omega)
  · rintro ⟨zs, rfl, rfl, h⟩
    haveI : DecidableEq (α × β) := fun a b => Classical.propDecidable _
    rw [canon_map (f := fun p : α × β => p.1) (gs := zs) fun x hx y hy e => Prod.ext e ((h x hx y hy).mp e), canon_map (f := fun p : α × β => p.2) (gs := zs) fun x hx y hy e => Prod.ext ((h x hx y hy).mpr e) e]
end
mutual
def Tm.gt : Tm → Gt Int
  | .var i => .leaf i
  | .op x ts => .op x (Tm.gts ts)
def Tm.gts : List Tm → List (Gt Int)
  | [] => []
  | t :: ts => Tm.gt t :: Tm.gts ts
end
mutual
theorem Tm.lab_gt : ∀ t : Tm, t.gt.lab = t.leaves
  | .var i => rfl
  | .op x ts => by simp only [Tm.gt, Gt.lab, Tm.leaves, Tm.labs_gts ts]
theorem Tm.labs_gts : ∀ ts : List Tm, Gt.labs (Tm.gts ts) = Tm.leavesL ts
  | [] => rfl
  | t :: ts => by simp only [Tm.gts, Gt.labs, Tm.leavesL, Tm.lab_gt t, Tm.labs_gts ts]
end
mutual
theorem Tm.num_gt (f : Int → Int) : ∀ t : Tm, t.gt.num f = t.put (fun i => .var (f i))
  | .var i => rfl
  | .op x ts => by simp only [Tm.gt, Gt.num, Tm.put, Tm.nums_gts f ts]
theorem Tm.nums_gts (f : Int → Int) : ∀ ts : List Tm, Gt.nums f (Tm.gts ts) = Tm.puts (fun i => .var (f i)) ts
  | [] => rfl
  | t :: ts => by simp only [Tm.gts, Gt.nums, Tm.puts, Tm.num_gt f t, Tm.nums_gts f ts]
end
theorem ordg_int (l : List Int) : ordg l = ordr l := by
  unfold ordg ordr
  congr 1
theorem numbered_canon (ts : List Tm) : Tm.puts (numF (ordr (Tm.leavesL ts))) ts = canon (Tm.gts ts) := by
  unfold canon
  rw [Tm.labs_gts, ordg_int, Tm.nums_gts]
  rfl
def Tm.hd : Tm → Option (Str × Nat)
  | .var _ => none
  | .op x ts => some (x, ts.length)
def Tm.arg (k : Nat) : Tm → Tm
  | .var i => .var i
  | .op _ ts => ts.getD k (.var 0)
mutual
def skT : Tm → List Tm → Gt (List Tm)
  | .var i, us => .leaf (.var i :: us)
  | .op x ts, us => if us.all (fun u => decide (Tm.hd u = some (x, ts.length))) = true then .op x (skL ts 0 us) else .leaf (.op x ts :: us)
def skL : List Tm → Nat → List Tm → List (Gt (List Tm))
  | [], _, _ => []
  | t :: ts, k, us => skT t (us.map (Tm.arg k)) :: skL ts (k + 1) us
end
noncomputable def genL (ts : List Tm) (rest : List (List Tm)) : List Tm := canon (skL ts 0 (rest.map (Tm.op "")))
mutual
def mgT : Tm → Tm → Option (Gt (Int × Tm))
  | .var i, v => some (.leaf (i, v))
  | .op _ _, .var _ => none
  | .op x ts, .op y us => if x = y ∧ ts.length = us.length then (mgL ts us).map (Gt.op x) else none
def mgL : List Tm → List Tm → Option (List (Gt (Int × Tm)))
  | [], _ => some []
  | _ :: _, [] => none
  | t :: ts, u :: us => match mgT t u, mgL ts us with
    | some g, some gs => some (g :: gs)
    | _, _ => none
end
def Inst (ts vs : List Tm) : Prop := ∃ ks, mgL ts vs = some ks ∧ ∀ p ∈ Gt.labs ks, ∀ q ∈ Gt.labs ks, p.1 = q.1 → p.2 = q.2
end Fm
namespace Fm
open PySem PySem.Spec PyProof.Rows L2
mutual
theorem skT_nil : ∀ t : Tm, skT t [] = t.gt.map (fun i => [Tm.var i])
  | .var i => rfl
  | .op x ts => by simp only [skT, List.all_nil, if_true, Tm.gt, Gt.map, skL_nil ts 0]
theorem skL_nil : ∀ (ts : List Tm) (k : Nat), skL ts k [] = Gt.maps (fun i => [Tm.var i]) (Tm.gts ts)
  | [], k => rfl
  | t :: ts, k => by simp only [skL, List.map_nil, Tm.gts, Gt.maps, skT_nil t, skL_nil ts (k + 1)]
end
theorem genL_nil (ts : List Tm) : genL ts [] = canon (Tm.gts ts) := by
  unfold genL
  rw [List.map_nil, skL_nil, canon_map]
  intro x _ y _ e
  simpa using e
abbrev pairC (p : Int × Tm) : List Tm := [.var p.1, p.2]
theorem getD_drop {ws us : List Tm} {u : Tm} {k : Nat} (h : ws.drop k = u :: us) : ws.getD k (.var 0) = u ∧ ws.drop (k + 1) = us := by
  have h1 : ws[k]? = some u := by
    have := congrArg (fun l => l[0]?) h
    simpa using this
  refine ⟨by rw [List.getD_eq_getElem?_getD, h1]; rfl, ?_⟩
  have := congrArg List.tail h
  simpa using this
mutual
theorem mgT_sk : ∀ (t v : Tm) (g : Gt (Int × Tm)), mgT t v = some g → skT t [v] = g.map pairC ∧ g.map (·.1) = t.gt
  | .var i, v, g, h => by
    simp only [mgT, Option.some.injEq] at h
    subst h
    exact ⟨rfl, rfl⟩
  | .op x ts, .var j, g, h => by simp [mgT] at h
  | .op x ts, .op y us, g, h => by
    simp only [mgT] at h
    split at h
    · rename_i hc
      obtain ⟨rfl, hl⟩ := hc
      obtain ⟨gs, hg, rfl⟩ := Option.map_eq_some_iff.mp h
      obtain ⟨h1, h2⟩ := mgL_sk ts us gs 0 x us hg rfl
      refine ⟨?_, by simp only [Gt.map, Tm.gt, h2]⟩
      simp only [skT, List.all_cons, List.all_nil, Tm.hd, hl, decide_true, Bool.and_self, if_true, Gt.map, h1]
    · cases h
theorem mgL_sk : ∀ (ts us : List Tm) (gs : List (Gt (Int × Tm))) (k : Nat) (x : Str) (ws : List Tm), mgL ts us = some gs → ws.drop k = us → skL ts k [.op x ws] = Gt.maps pairC gs ∧ Gt.maps (·.1) gs = Tm.gts ts
  | [], us, gs, k, x, ws, h, _ => by
    simp only [mgL, Option.some.injEq] at h
    subst h
    exact ⟨rfl, rfl⟩
  | t :: ts, [], gs, k, x, ws, h, _ => by simp [mgL] at h
  | t :: ts, u :: us, gs, k, x, ws, h, hd => by
    obtain ⟨hg, hr⟩ := getD_drop hd
    simp only [mgL] at h
    cases h1 : mgT t u with
    | none => rw [h1] at h; cases h
    | some g =>
      cases h2 : mgL ts us with
      | none => rw [h1, h2] at h; cases h
      | some gs' =>
        rw [h1, h2] at h
        simp only [Option.some.injEq] at h
        subst h
        obtain ⟨a1, a2⟩ := mgT_sk t u g h1
        obtain ⟨b1, b2⟩ := mgL_sk ts us gs' (k + 1) x ws h2 hr
        refine ⟨?_, by simp only [Gt.maps, Tm.gts, a2, b2]⟩
        simp only [skL, List.map_cons, List.map_nil, Tm.arg, Gt.maps]
        rw [hg, a1, b1]
end
mutual
theorem sk_mgT : ∀ (t v : Tm) (z : Gt (List Tm × Int)), z.map (·.1) = skT t [v] → z.map (·.2) = t.gt → ∃ g, mgT t v = some g ∧ ∀ p ∈ g.lab, ∃ q ∈ z.lab, q.1 = pairC p ∧ q.2 = p.1
  | .var i, v, .leaf a, h1, h2 => by
    simp only [Gt.map, skT, Tm.gt, Gt.leaf.injEq] at h1 h2
    refine ⟨.leaf (i, v), rfl, fun p hp => ?_⟩
    simp only [Gt.lab, List.mem_singleton] at hp
    subst hp
    exact ⟨a, by simp [Gt.lab], h1, h2⟩
  | .var i, v, .op y zs, h1, h2 => by simp [Gt.map, Tm.gt] at h2
  | .op x ts, v, .leaf a, h1, h2 => by simp [Gt.map, Tm.gt] at h2
  | .op x ts, v, .op y zs, h1, h2 => by
    simp only [Gt.map, Tm.gt, Gt.op.injEq] at h2
    obtain ⟨rfl, h2⟩ := h2
    simp only [skT, List.all_cons, List.all_nil, Bool.and_true] at h1
    split at h1
    · rename_i hc
      have hc := of_decide_eq_true hc
      cases v with
      | var j => cases hc
      | op y' us =>
        simp only [Tm.hd, Option.some.injEq, Prod.mk.injEq] at hc
        obtain ⟨rfl, hl⟩ := hc
        simp only [Gt.map, Gt.op.injEq, true_and] at h1
        obtain ⟨gs, hg, hp⟩ := sk_mgL ts us zs 0 y' us (by omega) rfl h1 h2
        refine ⟨.op y' gs, ?_, by simpa [Gt.lab] using hp⟩
        simp only [mgT, hl.symm, and_self, if_true, hg, Option.map_some]
    · simp [Gt.map] at h1
theorem sk_mgL : ∀ (ts us : List Tm) (zs : List (Gt (List Tm × Int))) (k : Nat) (x : Str) (ws : List Tm), ts.length ≤ us.length → ws.drop k = us → Gt.maps (·.1) zs = skL ts k [.op x ws] → Gt.maps (·.2) zs = Tm.gts ts →
    ∃ gs, mgL ts us = some gs ∧ ∀ p ∈ Gt.labs gs, ∃ q ∈ Gt.labs zs, q.1 = pairC p ∧ q.2 = p.1
  | [], us, zs, k, x, ws, _, _, _, _ => ⟨[], rfl, fun p hp => by simp [Gt.labs] at hp⟩
  | t :: ts, [], zs, k, x, ws, hl, _, _, _ => by simp at hl
  | t :: ts, u :: us, [], k, x, ws, hl, hd, h1, h2 => by simp [Gt.maps, Tm.gts] at h2
  | t :: ts, u :: us, z :: zs, k, x, ws, hl, hd, h1, h2 => by
    obtain ⟨hg, hr⟩ := getD_drop hd
    simp only [Gt.maps, Tm.gts, List.cons.injEq] at h2
    simp only [Gt.maps, skL, List.map_cons, List.map_nil, Tm.arg, List.cons.injEq] at h1
    rw [hg] at h1
    obtain ⟨g, a1, a2⟩ := sk_mgT t u z h1.1 h2.1
    obtain ⟨gs, b1, b2⟩ := sk_mgL ts us zs (k + 1) x ws (by simpa using hl) hr h1.2 h2.2
    refine ⟨g :: gs, by simp only [mgL, a1, b1], fun p hp => ?_⟩
    simp only [Gt.labs, List.mem_append] at hp ⊢
    rcases hp with hp | hp
    · obtain ⟨q, h3, h4⟩ := a2 p hp
      exact ⟨q, .inl h3, h4⟩
    · obtain ⟨q, h3, h4⟩ := b2 p hp
      exact ⟨q, .inr h3, h4⟩
end
theorem genL_inst {ts vs : List Tm} (hl : ts.length = vs.length) : genL ts [vs] = canon (Tm.gts ts) ↔ Inst ts vs := by
  unfold genL
  constructor
  · intro e
    obtain ⟨zs, h1, h2, h3⟩ := canon_iff.mp e
    obtain ⟨ks, hk, hp⟩ := sk_mgL ts vs zs 0 "" vs (by omega) rfl h1 h2
    refine ⟨ks, hk, fun p h p' h' e => ?_⟩
    obtain ⟨q, hq, q1, q2⟩ := hp p h
    obtain ⟨q', hq', q1', q2'⟩ := hp p' h'
    have := (h3 q hq q' hq').mpr (by rw [q2, q2', e])
    rw [q1, q1'] at this
    simpa using (List.cons.inj this).2
  · rintro ⟨ks, hk, hc⟩
    obtain ⟨h1, h2⟩ := mgL_sk ts vs ks 0 "" vs hk rfl
    haveI : DecidableEq (Int × Tm) := fun a b => Classical.propDecidable _
    show canon (skL ts 0 [Tm.op "" vs]) = _
    rw [h1, ← h2, canon_map (f := pairC) (gs := ks), canon_map (f := fun p : Int × Tm => p.1) (gs := ks)]
    · intro p hp q hq e
      exact Prod.ext e (hc p hp q hq e)
    · intro p hp q hq e
      simp only [pairC, List.cons.injEq, Tm.var.injEq, and_true] at e
      exact Prod.ext e.1 e.2
def Con (l : List (Int × Tm)) : Prop := ∀ p ∈ l, ∀ q ∈ l, p.1 = q.1 → p.2 = q.2
def Fit (W : List (Tm × Tm)) (D : List (Int × Tm)) : Prop := ∃ ks, mgL (W.map (·.1)) (W.map (·.2)) = some ks ∧ Con (D ++ Gt.labs ks)
theorem Gt.labs_app {α : Type} : ∀ xs ys : List (Gt α), Gt.labs (xs ++ ys) = Gt.labs xs ++ Gt.labs ys
  | [], ys => by simp [Gt.labs]
  | x :: xs, ys => by simp only [List.cons_append, Gt.labs, Gt.labs_app xs ys, List.append_assoc]
theorem mgL_app : ∀ {a b c d : List Tm} {ks : List (Gt (Int × Tm))}, a.length = b.length → (mgL (a ++ c) (b ++ d) = some ks ↔ ∃ x y, mgL a b = some x ∧ mgL c d = some y ∧ ks = x ++ y)
  | [], [], c, d, ks, _ => by
    constructor
    · exact fun h => ⟨[], ks, rfl, h, rfl⟩
    · rintro ⟨x, y, h1, h2, rfl⟩
      simp only [mgL, Option.some.injEq] at h1
      subst h1
      exact h2
  | [], u :: b, c, d, ks, h => by simp at h
  | t :: a, [], c, d, ks, h => by simp at h
  | t :: a, u :: b, c, d, ks, h => by
    have hl : a.length = b.length := by simpa using h
    simp only [List.cons_append, mgL]
    cases h1 : mgT t u with
    | none =>
      constructor
      · intro h
        cases h
      · rintro ⟨x, y, h2, _⟩
        cases h2
    | some g =>
      have ih := fun ks => mgL_app (a := a) (b := b) (c := c) (d := d) (ks := ks) hl
      constructor
      · intro h
        cases h2 : mgL (a ++ c) (b ++ d) with
        | none => rw [h2] at h; cases h
        | some ks' =>
          rw [h2] at h
          simp only [Option.some.injEq] at h
          subst h
          obtain ⟨x, y, h3, h4, rfl⟩ := (ih ks').mp h2
          exact ⟨g :: x, y, by rw [h3], h4, rfl⟩
      · rintro ⟨x, y, h3, h4, rfl⟩
        cases h5 : mgL a b with
        | none => rw [h5] at h3; cases h3
        | some x' =>
          rw [h5] at h3
          simp only [Option.some.injEq] at h3
          subst h3
          rw [(ih (x' ++ y)).mpr ⟨x', y, h5, h4, rfl⟩]
          rfl
theorem con_mem {l l' : List (Int × Tm)} (h : ∀ p, p ∈ l' → p ∈ l) (c : Con l) : Con l' := fun p hp q hq => c p (h p hp) q (h q hq)
theorem fit_app {W W' : List (Tm × Tm)} {D : List (Int × Tm)} : Fit (W ++ W') D ↔ ∃ x y, mgL (W.map (·.1)) (W.map (·.2)) = some x ∧ mgL (W'.map (·.1)) (W'.map (·.2)) = some y ∧ Con (D ++ (Gt.labs x ++ Gt.labs y)) := by
  unfold Fit
  rw [List.map_append, List.map_append]
  constructor
  · rintro ⟨ks, h, c⟩
    obtain ⟨x, y, h1, h2, rfl⟩ := (mgL_app (by simp)).mp h
    exact ⟨x, y, h1, h2, by rwa [Gt.labs_app] at c⟩
  · rintro ⟨x, y, h1, h2, c⟩
    exact ⟨x ++ y, (mgL_app (by simp)).mpr ⟨x, y, h1, h2, rfl⟩, by rwa [Gt.labs_app]⟩
theorem fit_var {W : List (Tm × Tm)} {D : List (Int × Tm)} {i : Int} {v : Tm} : Fit (W ++ [(.var i, v)]) D ↔ Fit W (D ++ [(i, v)]) := by
  rw [fit_app]
  constructor
  · rintro ⟨x, y, h1, h2, c⟩
    simp only [List.map_cons, List.map_nil, mgL, mgT, Option.some.injEq] at h2
    subst h2
    refine ⟨x, h1, con_mem (fun p hp => ?_) c⟩
    simp only [Gt.labs, Gt.lab, List.mem_append, List.append_nil] at hp ⊢
    rcases hp with (h | h) | h
    · exact .inl h
    · exact .inr (.inr h)
    · exact .inr (.inl h)
  · rintro ⟨x, h1, c⟩
    refine ⟨x, [.leaf (i, v)], h1, rfl, con_mem (fun p hp => ?_) c⟩
    simp only [Gt.labs, Gt.lab, List.mem_append, List.append_nil] at hp ⊢
    rcases hp with h | h | h
    · exact .inl (.inl h)
    · exact .inr h
    · exact .inl (.inr h)
theorem fit_op {W : List (Tm × Tm)} {D : List (Int × Tm)} {x : Str} {ts us : List Tm} (hl : ts.length = us.length) : Fit (W ++ [(.op x ts, .op x us)]) D ↔ Fit (W ++ ts.zip us) D := by
  rw [fit_app, fit_app]
  have e1 : (ts.zip us).map (·.1) = ts := List.map_fst_zip (by omega)
  have e2 : (ts.zip us).map (·.2) = us := List.map_snd_zip (by omega)
  rw [e1, e2]
  have e : ∀ y, mgL [Tm.op x ts] [Tm.op x us] = some y ↔ ∃ gs, mgL ts us = some gs ∧ y = [.op x gs] := fun y => by
    simp only [mgL, mgT, hl, and_self, if_true]
    cases mgL ts us with
    | none => simp
    | some gs => simp [eq_comm]
  constructor
  · rintro ⟨a, y, h1, h2, c⟩
    obtain ⟨gs, h3, rfl⟩ := (e y).mp h2
    exact ⟨a, gs, h1, h3, by simpa [Gt.labs, Gt.lab] using c⟩
  · rintro ⟨a, gs, h1, h3, c⟩
    exact ⟨a, [.op x gs], h1, (e _).mpr ⟨gs, h3, rfl⟩, by simpa [Gt.labs, Gt.lab] using c⟩
theorem fit_clash {W : List (Tm × Tm)} {D : List (Int × Tm)} {x : Str} {ts : List Tm} {v : Tm} (h : Tm.hd v ≠ some (x, ts.length)) : ¬ Fit (W ++ [(.op x ts, v)]) D := by
  rw [fit_app]
  rintro ⟨a, y, h1, h2, c⟩
  cases v with
  | var j => simp [mgL, mgT] at h2
  | op z us =>
    simp only [List.map_cons, List.map_nil, mgL, mgT] at h2
    rw [if_neg (fun hc => h (by simp [Tm.hd, hc.1, hc.2]))] at h2
    cases h2
theorem fit_con {W : List (Tm × Tm)} {D : List (Int × Tm)} (h : ¬ Con D) : ¬ Fit W D := fun ⟨ks, _, c⟩ => h (con_mem (fun p hp => List.mem_append.mpr (.inl hp)) c)
theorem fit_nil {D : List (Int × Tm)} : Fit [] D ↔ Con D := by
  constructor
  · rintro ⟨ks, h, c⟩
    exact con_mem (fun p hp => List.mem_append.mpr (.inl hp)) c
  · exact fun c => ⟨[], rfl, by simpa [Gt.labs] using c⟩
theorem fit_mem {W : List (Tm × Tm)} {D D' : List (Int × Tm)} (h : ∀ p, p ∈ D ↔ p ∈ D') : Fit W D ↔ Fit W D' := by
  constructor
  · rintro ⟨ks, h1, c⟩
    refine ⟨ks, h1, con_mem (fun p hp => ?_) c⟩
    simp only [List.mem_append] at hp ⊢
    rwa [h p]
  · rintro ⟨ks, h1, c⟩
    refine ⟨ks, h1, con_mem (fun p hp => ?_) c⟩
    simp only [List.mem_append] at hp ⊢
    rwa [← h p]
theorem fit_inst {ts vs : List Tm} (hl : ts.length = vs.length) : Fit (ts.zip vs) [] ↔ Inst ts vs := by
  unfold Fit Inst Con
  rw [List.map_fst_zip (by omega), List.map_snd_zip (by omega)]
  simp
end Fm
namespace Fm
open PySem PySem.Spec PyProof.Rows L2
namespace Tm
mutual
theorem put_put (f g : Int → Tm) : ∀ t : Tm, put g (put f t) = put (fun i => put g (f i)) t
  | .var _ => by simp [put]
  | .op _ ts => by simp [put, puts_puts f g ts]
theorem puts_puts (f g : Int → Tm) : ∀ ts : List Tm, puts g (puts f ts) = puts (fun i => put g (f i)) ts
  | [] => by simp [puts]
  | t :: ts => by simp [puts, put_put f g t, puts_puts f g ts]
end
mutual
theorem put_id : ∀ t : Tm, put .var t = t
  | .var _ => by simp [put]
  | .op _ ts => by simp [put, puts_id ts]
theorem puts_id : ∀ ts : List Tm, puts .var ts = ts
  | [] => by simp [puts]
  | t :: ts => by simp [puts, put_id t, puts_id ts]
end
mutual
theorem size_put (f : Int → Tm) : ∀ t : Tm, size (put f t) = size t + ((leaves t).map fun i => size (f i)).sum
  | .var _ => by simp [put, size, leaves]
  | .op _ ts => by
    simp only [put, size, leaves, sizes_puts f ts]
    omega
theorem sizes_puts (f : Int → Tm) : ∀ ts : List Tm, sizes (puts f ts) = sizes ts + ((leavesL ts).map fun i => size (f i)).sum
  | [] => by simp [puts, sizes, leavesL]
  | t :: ts => by
    simp only [puts, sizes, leavesL, size_put f t, sizes_puts f ts, List.map_append, List.sum_append]
    omega
end
mutual
theorem lv_le {P : Int → Prop} : ∀ t : Tm, ok P t → lv t ≤ 2 * size t + 1
  | .var _, _ => by simp [lv, size]
  | .op _ ts, h => by
    have := lvs_le ts h.2.2
    have := h.2.1
    simp only [lv, size]
    omega
theorem lvs_le {P : Int → Prop} : ∀ ts : List Tm, oks P ts → lvs ts ≤ 2 * sizes ts + ts.length
  | [], _ => by simp [lvs]
  | t :: ts, h => by
    have := lv_le t h.1
    have := lvs_le ts h.2
    simp only [lvs, sizes, List.length_cons]
    omega
end
theorem size_le {t : Tm} : ∀ {ts : List Tm}, t ∈ ts → size t ≤ sizes ts
  | u :: ts, h => by
    rcases List.mem_cons.mp h with rfl | h
    · simp only [sizes]; omega
    · have := size_le h
      simp only [sizes]; omega
theorem sizes_small {P : Int → Prop} : ∀ (n : Nat) (t : Tm), ok P t → dep t ≤ n → 2 * size t + 1 ≤ 3 ^ n := by
  intro n
  induction n with
  | zero =>
    intro t h hd
    cases t with
    | var i => simp [size]
    | op x ts => simp [dep] at hd
  | succ n ih =>
    intro t h hd
    have hp : 1 ≤ 3 ^ n := Nat.one_le_pow _ _ (by decide)
    cases t with
    | var i =>
      simp only [size, Nat.pow_succ]
      omega
    | op x ts =>
      have hs : ∀ us : List Tm, oks P us → deps us ≤ n → 2 * sizes us + us.length ≤ us.length * 3 ^ n := by
        intro us
        induction us with
        | nil => intro _ _; simp [sizes]
        | cons u us ih2 =>
          intro ho hdd
          have h1 := ih u ho.1 (by simp only [deps] at hdd; omega)
          have h2 := ih2 ho.2 (by simp only [deps] at hdd; omega)
          simp only [sizes, List.length_cons, Nat.add_mul, Nat.one_mul]
          omega
      have h1 := hs ts h.2.2 (by simp only [dep] at hd; omega)
      have h3 := h.2.1
      simp only [size, Nat.pow_succ]
      generalize 3 ^ n = m at *
      have : ts.length = 0 ∨ ts.length = 1 ∨ ts.length = 2 ∨ ts.length = 3 := by omega
      rcases this with e | e | e | e <;> rw [e] at h1 <;> omega
end Tm
def vat (vs : List Tm) (i : Int) : Tm := (vs[i.toNat]?).getD (.var i)
theorem vat_some {vs : List Tm} {i : Int} (h0 : 0 ≤ i) (h1 : i < vs.length) : vs[i.toNat]? = some (vat vs i) := by
  have h : i.toNat < vs.length := by omega
  unfold vat
  rw [List.getElem?_eq_getElem h]
  rfl
theorem vat_mem {vs : List Tm} {i : Int} (h0 : 0 ≤ i) (h1 : i < vs.length) : vat vs i ∈ vs := List.mem_of_getElem? (vat_some h0 h1)
def chAt (chs : List (Int × Tm)) (i : Nat) : Tm := ((chs.find? fun c => c.1 == (i : Int)).map (·.2)).getD (.var i)
def chT (n : Nat) (chs : List (Int × Tm)) : List Tm := (List.range n).map (chAt chs)
def chg (vs : List Tm) (chs : List (Int × Tm)) : List Tm := (chT vs.length chs).map (Tm.put (vat vs))
structure ChDp (many : Int) (dc : Nat) (chs : List (Int × Tm)) : Prop where
  ok : ∀ c ∈ chs, c.2.ok fun i => 0 ≤ i ∧ i < many
  dp : ∀ c ∈ chs, c.2.dep ≤ dc
end Fm
namespace Fm
open PySem PySem.Spec PyProof.Rows L2
inductive Th where
  | non
  | bl (b : Bool)
  | int (i : Int)
  | str (x : Str)
  | tup (ts : List Th)
  | lst
  | dct
mutual
def Is (K : PySem.W.Frag) (b : Addr) (H : Hp) (v : V) : Th → Prop
  | .non => v = .non
  | .bl c => v = .bl c
  | .int i => v = .int i
  | .str x => v = .str x ∧ x.length ≤ 1000
  | .tup ts => ∃ a xs, v = .ref a ∧ SqT K H a xs ∧ IsAll K b H xs ts
  | .lst => ∃ a xs, v = .ref a ∧ a ≠ b ∧ H a = some (.lst xs)
  | .dct => ∃ a kvs, v = .ref a ∧ a ≠ b ∧ H a = some (.dK kvs)
def IsAll (K : PySem.W.Frag) (b : Addr) (H : Hp) (xs : List V) : List Th → Prop
  | [] => xs = []
  | t :: ts => ∃ y ys, xs = y :: ys ∧ Is K b H y t ∧ IsAll K b H ys ts
end
section
variable {K : PySem.W.Frag} {b : Addr} {H H' : Hp}
mutual
theorem Is.mv (m : Mv [b] H H') : ∀ (t : Th) (v : V), Is K b H v t → Is K b H' v t
  | .non, v, h => h
  | .bl _, v, h => h
  | .int _, v, h => h
  | .str _, v, h => h
  | .tup ts, v, h => by
    obtain ⟨a, xs, e, hs, ha⟩ := h
    exact ⟨a, xs, e, m.sqT hs, IsAll.mv m ts xs ha⟩
  | .lst, v, h => by
    obtain ⟨a, xs, e, hb, ha⟩ := h
    exact ⟨a, xs, e, hb, m.keep a _ (by simpa using hb) ha⟩
  | .dct, v, h => by
    obtain ⟨a, xs, e, hb, ha⟩ := h
    exact ⟨a, xs, e, hb, m.keep a _ (by simpa using hb) ha⟩
theorem IsAll.mv (m : Mv [b] H H') : ∀ (ts : List Th) (xs : List V), IsAll K b H xs ts → IsAll K b H' xs ts
  | [], xs, h => h
  | t :: ts, xs, h => by
    obtain ⟨y, ys, e, h1, h2⟩ := h
    exact ⟨y, ys, e, Is.mv m t y h1, IsAll.mv m ts ys h2⟩
end
theorem Is.mv0 {t : Th} {v : V} (h : Is K b H v t) (m : Mv [] H H') : Is K b H' v t := Is.mv (m.mono (by simp)) t v h
theorem IsAll.mv0 {ts : List Th} {xs : List V} (h : IsAll K b H xs ts) (m : Mv [] H H') : IsAll K b H' xs ts := IsAll.mv (m.mono (by simp)) ts xs h
theorem Is.dr {t : Th} {v : V} (h : Is K b H v t) (m : Dr b H H') : Is K b H' v t := Is.mv m.mv t v h
theorem IsAll.dr {ts : List Th} {xs : List V} (h : IsAll K b H xs ts) (m : Dr b H H') : IsAll K b H' xs ts := IsAll.mv m.mv ts xs h
theorem IsAll.length : ∀ {ts : List Th} {xs : List V}, IsAll K b H xs ts → xs.length = ts.length
  | [], xs, h => by
    have h' : xs = [] := h
    rw [h']
    rfl
  | t :: ts, xs, h => by
    obtain ⟨y, ys, rfl, _, k⟩ := h
    simp [k.length]
theorem IsAll.append : ∀ {ts us : List Th} {xs ys : List V}, IsAll K b H xs ts → IsAll K b H ys us → IsAll K b H (xs ++ ys) (ts ++ us)
  | [], _, xs, _, h, k => by
    have h' : xs = [] := h
    rw [h']
    exact k
  | t :: ts, _, xs, _, h, k => by
    obtain ⟨y, zs, rfl, h1, h2⟩ := h
    exact ⟨y, zs ++ _, rfl, h1, h2.append k⟩
theorem IsAll.nil : IsAll K b H [] [] := rfl
theorem IsAll.cons {t : Th} {ts : List Th} {y : V} {ys : List V} (h : Is K b H y t) (k : IsAll K b H ys ts) : IsAll K b H (y :: ys) (t :: ts) := ⟨y, ys, rfl, h, k⟩
theorem IsAll.get : ∀ {ts : List Th} {xs : List V} {i : Nat} {v : V}, IsAll K b H xs ts → xs[i]? = some v → ∃ t, ts[i]? = some t ∧ Is K b H v t
  | [], xs, _, _, h, e => by
    have h' : xs = [] := h
    rw [h'] at e
    simp at e
  | t :: ts, _, 0, _, h, e => by
    obtain ⟨y, ys, rfl, h1, h2⟩ := h
    simp at e
    subst e
    exact ⟨t, rfl, h1⟩
  | t :: ts, _, i + 1, _, h, e => by
    obtain ⟨y, ys, rfl, h1, h2⟩ := h
    exact h2.get (i := i) (by simpa using e)
theorem IsAll.take : ∀ {ts : List Th} {xs : List V} (n : Nat), IsAll K b H xs ts → IsAll K b H (xs.take n) (ts.take n)
  | [], xs, n, h => by
    have h' : xs = [] := h
    rw [h']
    simpa using IsAll.nil
  | t :: ts, _, 0, h => by simpa using IsAll.nil
  | t :: ts, _, n + 1, h => by
    obtain ⟨y, ys, rfl, h1, h2⟩ := h
    exact IsAll.cons h1 (h2.take n)
theorem IsAll.drop : ∀ {ts : List Th} {xs : List V} (n : Nat), IsAll K b H xs ts → IsAll K b H (xs.drop n) (ts.drop n)
  | [], xs, n, h => by
    have h' : xs = [] := h
    rw [h']
    simpa using IsAll.nil
  | t :: ts, _, 0, h => by simpa using h
  | t :: ts, _, n + 1, h => by
    obtain ⟨y, ys, rfl, h1, h2⟩ := h
    exact h2.drop n
theorem IsAll.last {ts : List Th} {t : Th} : ∀ {us : List Th} {xs : List V}, us = ts ++ [t] → IsAll K b H xs us → ∃ ys y, xs = ys ++ [y] ∧ IsAll K b H ys ts ∧ Is K b H y t := by
  induction ts with
  | nil =>
    intro us xs e h
    subst e
    obtain ⟨y, ys, rfl, h1, h2⟩ := h
    have h3 : ys = [] := h2
    exact ⟨[], y, by rw [h3]; rfl, IsAll.nil, h1⟩
  | cons u ts ih =>
    intro us xs e h
    subst e
    obtain ⟨y, ys, rfl, h1, h2⟩ := h
    obtain ⟨zs, z, rfl, h3, h4⟩ := ih rfl h2
    exact ⟨y :: zs, z, rfl, IsAll.cons h1 h3, h4⟩
def tyN : Th → String
  | .non => "NoneType"
  | .bl _ => "bool"
  | .int _ => "int"
  | .str _ => "str"
  | .tup _ => "tuple"
  | .lst => "list"
  | .dct => "dict"
theorem tyx_is {t : Th} {v : V} (h : Is K b H v t) : TyX K H v (.type (tyN t)) := by
  cases t with
  | non => cases (show v = V.non from h); exact .base .non
  | bl c => cases (show v = V.bl c from h); exact .base (.bl c)
  | int i => cases (show v = V.int i from h); exact .base (.int i)
  | str x => cases (show v = V.str x from h.1); exact .base (.str x)
  | tup ts =>
    obtain ⟨a, xs, rfl, hs, _⟩ := h
    rcases hs with (hs | ⟨o, hs⟩) | ⟨o, its, n, hk, hc, _⟩
    · exact .base (.tup hs)
    · exact .fTuple hs
    · exact .kTuple hk hc
  | lst =>
    obtain ⟨a, xs, rfl, _, ha⟩ := h
    exact .base (.lst ha)
  | dct =>
    obtain ⟨a, kvs, rfl, _, ha⟩ := h
    exact .base (.dK ha)
theorem rd_isi {t : Th} {v : V} {T : String} {c : Bool} {Q : VK} (h : Is K b H v t) (k : kitB (tyN t) T = some c) (q : Q (.bl c) H) : rIsi K [v, .ty T] H Q := ⟨v, .ty T, _, _, c, rfl, .ty T, tyx_is h, kit_ty k, q⟩
def isIntT : Th → Bool
  | .int _ => true
  | .bl _ => true
  | _ => false
def isBoolT : Th → Bool
  | .bl _ => true
  | _ => false
def isStrT : Th → Bool
  | .str _ => true
  | _ => false
def isTupT : Th → Bool
  | .tup _ => true
  | _ => false
def isLstT : Th → Bool
  | .lst => true
  | _ => false
theorem kit_int (t : Th) : kitB (tyN t) "int" = some (isIntT t) := by cases t <;> (simp only [tyN, isIntT]; decide +kernel)
theorem kit_bool (t : Th) : kitB (tyN t) "bool" = some (isBoolT t) := by cases t <;> (simp only [tyN, isBoolT]; decide +kernel)
theorem kit_str (t : Th) : kitB (tyN t) "str" = some (isStrT t) := by cases t <;> (simp only [tyN, isStrT]; decide +kernel)
theorem kit_tup (t : Th) : kitB (tyN t) "tuple" = some (isTupT t) := by cases t <;> (simp only [tyN, isTupT]; decide +kernel)
theorem kit_lst (t : Th) : kitB (tyN t) "list" = some (isLstT t) := by cases t <;> (simp only [tyN, isLstT]; decide +kernel)
end
def lettersS : Str := "abcdefghijklmnopqrstuvwxyz"
def nmd (x : Str) : Bool := decide (1 ≤ x.length) && decide (x.length ≤ 8) && x.cps.toList.all fun c => decide (c ∈ lettersS.cps.toList)
def isWhole : Th → Bool
  | .int _ => true
  | _ => false
def isNamed : Th → Bool
  | .str x => nmd x
  | _ => false
mutual
def isTerm : Th → Bool
  | .int i => decide (0 ≤ i)
  | .tup [] => false
  | .tup (t :: ts) => isNamed t && decide (ts.length ≤ 3) && isTerms ts
  | _ => false
def isTerms : List Th → Bool
  | [] => true
  | t :: ts => isTerm t && isTerms ts
end
mutual
def Th.cnt : Th → Nat
  | .tup ts => Th.cnts ts + 1
  | _ => 1
def Th.cnts : List Th → Nat
  | [] => 0
  | t :: ts => t.cnt + Th.cnts ts
end
theorem isTerms_all : ∀ ts : List Th, isTerms ts = ts.all isTerm
  | [] => by simp [isTerms]
  | t :: ts => by simp [isTerms, isTerms_all ts]
theorem Th.cnts_append : ∀ ts us : List Th, Th.cnts (ts ++ us) = Th.cnts ts + Th.cnts us
  | [], us => by simp [Th.cnts]
  | t :: ts, us => by
    simp only [List.cons_append, Th.cnts, Th.cnts_append ts us]
    omega
mutual
def Tm.th : Tm → Th
  | .var i => .int i
  | .op x ts => .tup (.str x :: Tm.ths ts)
def Tm.ths : List Tm → List Th
  | [] => []
  | t :: ts => t.th :: Tm.ths ts
end
section
variable {K : PySem.W.Frag} {b : Addr} {H : Hp}
mutual
theorem Is.of_im {R : Int → Prop} : ∀ (t : Tm) (v : V), t.ok R → Im K H v t.d → Is K b H v t.th
  | .var i, v, _, h => h.intI
  | .op x ts, v, k, h => by
    obtain ⟨a, xs0, rfl, ha, hxs⟩ := h.tupI
    obtain ⟨x', xs, rfl, hx', hys⟩ := hxs.invD
    exact ⟨a, x' :: xs, rfl, ha, IsAll.cons ⟨hx'.strI, by have := k.1.2.1; omega⟩ (IsAll.of_ims ts xs k.2.2 hys)⟩
theorem IsAll.of_ims {R : Int → Prop} : ∀ (ts : List Tm) (xs : List V), Tm.oks R ts → Ims K H xs (Tm.ds ts) → IsAll K b H xs (Tm.ths ts)
  | [], xs, _, h => h.nilD
  | t :: ts, xs, k, h => by
    obtain ⟨v, vs, rfl, h1, h2⟩ := h.invD
    exact IsAll.cons (Is.of_im t v k.1 h1) (IsAll.of_ims ts vs k.2 h2)
end
end
theorem nmd_nm {x : Str} (h : Nm x) : nmd x = true := by
  unfold nmd
  have h3 : (x.cps.toList.all fun c => decide (c ∈ lettersS.cps.toList)) = true := by
    rw [List.all_eq_true]
    intro c hc
    have := h.2.2 c hc
    have k : ∀ c : Fin 123, 97 ≤ c.val → decide (c.val ∈ lettersS.cps.toList) = true := by decide +kernel
    exact k ⟨c, by omega⟩ this.1
  rw [h3, decide_eq_true h.1, decide_eq_true h.2.1]
  rfl
end Fm
namespace Fm
open PySem PySem.Spec PyProof.Rows L2
local macro_rules | `(tactic| walk_at "nn") => `(tactic| dsimp only [tC, tNil, tCons, tCB, tCall, gName, tSeq, tAsg, tPar, tDrop, tRet])
local macro_rules | `(tactic| walk_at "nc") => `(tactic| dsimp only [tC, tNil, tCons, tCB])
theorem hu65_of {k : Nat} {A : Around} (h : Room k A) : A.units + 65 < cLine := by
  have := h.un
  omega
def sp_kind (K : PySem.W.Frag) (f : Th → Bool) : Sp := fun vs H Q _ => ∃ (v : V) (t : Th) (b : Addr), vs = [v] ∧ Is K b H v t ∧ ∀ H', Mv [] H H' → Q (.bl (f t)) H'
section
variable {P : Program} {w : World} {K : PySem.W.Frag} {mg : Str → Option Value} {base : Heap}
theorem ok_is_integer (T : TX K mg) {k : Nat} : FnOk P w K mg base CX0 (k + 1) T.d_is_integer.f T.d_is_integer.fd P_is_integer (sp_kind K isWhole) := by
  refine T.d_is_integer.F.ok sc_is_integer (fun vs H Q E h => ?_) (fun cdv A outer s H vs Q E hr h => ?_)
  · obtain ⟨_, _, _, rfl, _⟩ := h
    rfl
  · obtain ⟨v, t, b, rfl, hv, q⟩ := h
    refine ⟨_, (pss_one (ps_ret (pe_and (pe_callB (r := rIsi K) call_isi (by rfl) T.b_isinstance bt_isinstance (pa_cons (pv 0) (pa_cons (pe_ty T.b_int bt_int) pa_nil))) (pe_one (pe_not (pe_callB (r := rIsi K) call_isi (by rfl) T.b_isinstance bt_isinstance (pa_cons (pv 0) (pa_cons (pe_ty T.b_bool bt_bool) pa_nil)))))))), ?_⟩
    refine ⟨v, rfl, ?_⟩
    walk_at "nn"
    refine rd_isi hv (kit_int t) ?_
    refine ⟨_, rfl, ?_⟩
    cases t with
    | int j =>
      refine ⟨v, rfl, ?_⟩
      walk_at "nc"
      exact rd_isi hv (kit_bool (.int j)) ⟨_, rfl, q H .refl⟩
    | bl c =>
      refine ⟨v, rfl, ?_⟩
      walk_at "nc"
      exact rd_isi hv (kit_bool (.bl c)) ⟨_, rfl, q H .refl⟩
    | non => exact q H .refl
    | str x => exact q H .refl
    | tup ts => exact q H .refl
    | lst => exact q H .refl
    | dct => exact q H .refl
theorem ok_is_name (T : TX K mg) {k : Nat} : FnOk P w K mg base CX0 (k + 1) T.d_is_name.f T.d_is_name.fd P_is_name (sp_kind K isNamed) := by
  refine T.d_is_name.F.ok sc_is_name (fun vs H Q E h => ?_) (fun cdv A outer s H vs Q E hr h => ?_)
  · obtain ⟨_, _, _, rfl, _⟩ := h
    rfl
  · obtain ⟨v, t, b, rfl, hv, q⟩ := h
    have hu65 := hu65_of hr
    refine ⟨_, (pss_cons (ps_if (PW.pt (pw_or (pt_not (pt_val (pe_callB (r := rIsi K) call_isi (by rfl) T.b_isinstance bt_isinstance (pa_cons (pv 0) (pa_cons (pe_ty T.b_str bt_str) pa_nil))))) (pw_or1 (pt_not (pt_chain op_le op_le pe_int (pe_callB (r := rLenG K) call_lenG (by rfl) T.b_len bt_len (pa_cons (pv 0) pa_nil)) (pe_glob rfl T.c_MOST_LETTERS T.r_MOST_LETTERS)))))) (pss_one (ps_ret pe_bl)) pss_nil) (pss_one (ps_ret (pe_callB (r := rAll K) (cr_all rfl) (by rfl) T.b_all bt_all (pa_cons (pe_lc (own := [("sign", 1)]) (g := gName 1) (by rfl) sc_is_name.nd (pi_str (pv 0)) (blkOk_by (own := [("sign", 1)]) (N := N_is_name) (sc := defScope s_is_name) (by decide +kernel)) (fun _ _ _ _ _ => pg_name (i := 1) sc_is_name.nd rfl (Or.inl rfl)) (fun _ _ _ _ _ => pts_nil) (fun _ _ _ _ _ => (pe_cmpR (r := rInG K) (op_inG hu65) (pv 1) (pe_glob rfl T.c_LETTERS T.r_LETTERS) rfl))) pa_nil))))), ?_⟩
    refine ⟨v, rfl, ?_⟩
    walk_at "nn"
    refine rd_isi hv (kit_str t) ?_
    refine ⟨_, rfl, ?_⟩
    cases t with
    | int j => exact q H .refl
    | bl c => exact q H .refl
    | non => exact q H .refl
    | tup ts => exact q H .refl
    | lst => exact q H .refl
    | dct => exact q H .refl
    | str x =>
      obtain ⟨rfl, hlen⟩ := hv
      refine ⟨.str x, rfl, ?_⟩
      walk_at "nc"
      refine Or.inr (Or.inl ⟨x, rfl, Nat.le_of_lt (small1000 (by omega)), 1, _, rfl, rfl, _, rfl, ite2 (fun e1 => ?_) (fun e1 => ?_)⟩)
      · refine ⟨_, 8, rfl, rfl, _, rfl, ite2 (fun e2 => ?_) (fun e2 => ?_)⟩
        · have e : isNamed (.str x) = false := by
            simp only [isNamed, nmd]
            have : ¬ x.length ≤ 8 := by simp at e2; omega
            rw [decide_eq_false this]
            simp
          rw [e] at q
          exact q H .refl
        · have h1 : 1 ≤ x.length := by simp at e1; omega
          have h2 : x.length ≤ 8 := by simp at e2; omega
          refine ⟨.str x, rfl, x, rfl, fun D nD => ?_⟩
          have hsz : x.cps.toList.length = x.cps.size := by simp
          have hsl : x.cps.size = x.length := rfl
          refine lc_it walk_str (fun i H1 => H1 D = some (.lst (((x.cps.toList.take i).map fun c => decide (c ∈ lettersS.cps.toList)).map V.bl)) ∧ Mv [] H H1) ⟨upd_same, .new nD⟩ (fun _ _ _ _ => trivial) (fun i y H1 H2 hi h1 hy => ?_) (fun H1 h1 => ?_)
          · obtain ⟨e1, m1⟩ := h1
            obtain ⟨rfl, c, hc, rfl⟩ := hy
            have hc' : x.cps.toList[i]? = some c := by simpa using hc
            refine ⟨rfl, .str ⟨#[c]⟩, rfl, Or.inr ⟨c, _, rfl, rfl, _, e1, ?_, ?_, m1.wr nD⟩⟩
            · rw [List.length_map, List.length_map, List.length_take]
              exact small1000 (by omega)
            · rw [upd_same, List.take_add_one, hc']
              simp
              rfl
          · obtain ⟨e1, m1⟩ := h1
            rw [← hsz, List.take_length] at e1
            refine ⟨D, _, rfl, .inl (.inl e1), ?_⟩
            have e : isNamed (.str x) = ((x.cps.toList.map fun c => decide (c ∈ lettersS.cps.toList)).all id) := by
              simp only [isNamed, nmd]
              rw [decide_eq_true h1, decide_eq_true h2, List.all_map]
              rfl
            rw [← e]
            exact q H1 m1
      · have e : isNamed (.str x) = false := by
          simp only [isNamed, nmd]
          have : ¬ 1 ≤ x.length := by simp at e1; omega
          rw [decide_eq_false this]
          simp
        rw [e] at q
        exact ⟨_, rfl, q H .refl⟩
end
end Fm
namespace Fm
open PySem PySem.Spec PyProof.Rows L2
local macro_rules | `(tactic| walk_at "nn") => `(tactic| dsimp only [tC, tNil, tCons, tCB, tCall, gName, tSeq, tAsg, tPar, tDrop, tRet])
local macro_rules | `(tactic| walk_at "nc") => `(tactic| dsimp only [tC, tNil, tCons, tCB])
theorem isTerms_append (ts us : List Th) : isTerms (ts ++ us) = (isTerms ts && isTerms us) := by
  rw [isTerms_all, isTerms_all, isTerms_all, List.all_append]
theorem Th.cnt_pos (t : Th) : 1 ≤ t.cnt := by cases t <;> simp [Th.cnt]
theorem Th.cnts_len : ∀ ts : List Th, ts.length ≤ Th.cnts ts
  | [] => Nat.zero_le _
  | t :: ts => by
    have := Th.cnts_len ts
    have := t.cnt_pos
    simp only [Th.cnts, List.length_cons]
    omega
def sp_isTerm (K : PySem.W.Frag) : Sp := fun vs H Q _ => ∃ (v : V) (t : Th) (b : Addr), vs = [v] ∧ Is K b H v t ∧ t.cnt ≤ 90000 ∧ ∀ H', Mv [] H H' → Q (.bl (isTerm t)) H'
section
variable {P : Program} {w : World} {K : PySem.W.Frag} {mg : Str → Option Value} {base : Heap}
theorem ok_is_term (T : TX K mg) {k : Nat} : FnOk P w K mg base CX0 (k + 2) T.d_is_term.f T.d_is_term.fd P_is_term (sp_isTerm K) := by
  have G_is_integer : FnOk P w K mg base CX0 1 T.d_is_integer.f T.d_is_integer.fd P_is_integer (sp_kind K isWhole) := ok_is_integer T
  have G_is_name : FnOk P w K mg base CX0 1 T.d_is_name.f T.d_is_name.fd P_is_name (sp_kind K isNamed) := ok_is_name T
  refine T.d_is_term.F.ok sc_is_term (fun vs H Q E h => ?_) (fun cdv A outer s H vs Q E hr h => ?_)
  · obtain ⟨_, _, _, rfl, _⟩ := h
    rfl
  · obtain ⟨v, t, b, rfl, hv, hcn, q⟩ := h
    have hu65 := hu65_of hr
    refine ⟨_, (pss_cons (ps_set (i := 1) sc_is_term.nd rfl (Or.inl rfl) (pe_lst (pa_cons (pv 0) pa_nil))) (pss_cons (ps_while PassesOwn.never (pt_cmpR (r := rNeNil K) (op_neNil (Nat.lt_of_le_of_lt (Nat.le_add_right _ 65) hu65)) (pv 1) (pe_lst pa_nil) (nomark _)) (pss_cons (ps_set (i := 2) sc_is_term.nd rfl (Or.inl rfl) (pe_bm0 PySem.F.plainAttrs_list PySem.F.slot_list_pop PySem.F.type_list_pop mt_pop (pv 1))) (pss_one (ps_if (pt_val (pe_call G_is_integer (hr.mono (by omega)) rfl T.d_is_integer.g T.d_is_integer.F.kp T.d_is_integer.b .nil pass0 (pa_cons (pv 2) pa_nil))) (pss_one (ps_if (pt_cmpR op_lt (pv 2) pe_int (nomark _)) (pss_one (ps_ret pe_bl)) pss_nil)) (pss_one (ps_if (PW.pt (pw_or (pt_not (pt_val (pe_callB (r := rIsi K) call_isi (by rfl) T.b_isinstance bt_isinstance (pa_cons (pv 2) (pa_cons (pe_ty T.b_tuple bt_tuple) pa_nil))))) (pw_or (pt_not (pt_chain op_le op_le pe_int (pe_callB (r := rLenG K) call_lenG (by rfl) T.b_len bt_len (pa_cons (pv 2) pa_nil)) (pe_op (r := rAddG K) op_addG pe_int (pe_glob rfl T.c_MOST_PARTS T.r_MOST_PARTS)))) (pw_or1 (pt_not (pt_val (pe_call G_is_name (hr.mono (by omega)) rfl T.d_is_name.g T.d_is_name.F.kp T.d_is_name.b .nil pass0 (pa_cons (pe_ix (r := rIx K) ix_seq (pv 2) pe_int (fun _ _ => rfl)) pa_nil)))))))) (pss_one (ps_ret pe_bl)) (pss_one (ps_expr (pe_bm PySem.F.plainAttrs_list PySem.F.slot_list_extend PySem.F.type_list_extend (r := rExtG K) mt_extendG (pv 1) (pa_cons (pe_slice (r := rSlG K) sl_G (pv 2) (po_some pe_int) po_none) pa_nil)))))))))) (pss_one (ps_ret pe_bl)))), ?_⟩
    refine ⟨v, rfl, (by decide : 1 ≤ sizeLine), fun l nl => ?_⟩
    refine ⟨fun m σ H2 => ∃ (ys : List V) (us : List Th) (y : Option V), σ = [some v, some (.ref l), y] ∧ H2 l = some (.lst ys) ∧ IsAll K b H ys us ∧ isTerms us = isTerm t ∧ Th.cnts us ≤ 90000 ∧ m = Th.cnts us ∧ Mv [] H H2,
      ⟨_, [v], [t], none, rfl, upd_same, IsAll.cons hv IsAll.nil, by simp [isTerms], by simp only [Th.cnts]; omega, rfl, .new nl⟩, fun m σ H2 hW => ?_⟩
    obtain ⟨ys, us, y, rfl, e2, i2, s2, b2, rfl, m2⟩ := hW
    refine ⟨.ref l, rfl, Nat.zero_le _, fun q1 n1 => ⟨l, q1, ys, rfl, rfl, .inl (.inl (same_new n1 _ _ e2)), .inl (.inl upd_same), ?_⟩⟩
    have m23 : Mv [] H (upd H2 q1 (.lst [])) := m2.trans (.new n1)
    have e3 : upd H2 q1 (.lst []) l = some (.lst ys) := same_new n1 _ _ e2
    generalize upd H2 q1 (.lst []) = H3 at m23 e3 ⊢
    refine ⟨_, rfl, ?_⟩
    rcases List.eq_nil_or_concat us with rfl | ⟨us', u, rfl⟩
    · have hy : ys = [] := i2
      subst hy
      rw [show isTerms ([] : List Th) = true from by simp [isTerms]] at s2
      rw [← s2] at q
      exact q H3 m23
    · rw [List.concat_eq_append] at *
      obtain ⟨ys', z, rfl, i4, hz⟩ := IsAll.last rfl i2
      rw [show (!(ys' ++ [z]).isEmpty) = true by simp]
      refine ⟨fun σ' H' => ∃ m', m' < Th.cnts (us' ++ [u]) ∧ _, fun _ _ h => h, ?_⟩
      refine ⟨.ref l, rfl, .inl ⟨rfl, _, .inl (.inl e3)⟩, l, _, z, rfl, rfl, e3, by simp, ?_⟩
      have m25 : Mv [] H (upd H3 l (.lst (ys' ++ [z]).dropLast)) := m23.wr nl
      have e5 : upd H3 l (.lst (ys' ++ [z]).dropLast) l = some (.lst ys') := by rw [upd_same, List.dropLast_concat]
      generalize upd H3 l (.lst (ys' ++ [z]).dropLast) = H5 at m25 e5 ⊢
      rw [Th.cnts_append] at b2 ⊢
      rw [isTerms_append] at s2
      have e1u : isTerms [u] = isTerm u := by simp [isTerms]
      have c1u : Th.cnts [u] = u.cnt := by simp [Th.cnts]
      rw [e1u] at s2
      rw [c1u] at b2 ⊢
      have hpos := u.cnt_pos
      have hbad : isTerm u = false → isTerm t = false := fun e => by rw [← s2, e, Bool.and_false]
      refine ⟨z, rfl, z, u, b, rfl, hz.mv0 m25, fun H6 m6 => ?_⟩
      have m26 := m25.trans m6
      have e6 := m6.same _ _ e5
      refine ⟨_, rfl, ?_⟩
      have bad : isTupT u = false → isWhole u = false → isTerm u = false := fun h1 h2 => by
        cases u <;> simp [isTupT, isWhole, isTerm] at *
      cases u with
      | int i =>
        cases (show z = V.int i from hz)
        refine ⟨.int i, rfl, i, 0, rfl, rfl, _, rfl, ite2 (fun e => ?_) (fun e => ?_)⟩
        · have h0 : ¬ 0 ≤ i := by simp at e; omega
          have e9 := hbad (by simp only [isTerm]; exact decide_eq_false h0)
          rw [e9] at q
          exact q H6 m26
        · have h0 : 0 ≤ i := by simp at e; omega
          refine ⟨Th.cnts us', by omega, ys', us', _, rfl, e6, i4, ?_, by omega, rfl, m26⟩
          rw [← s2]
          simp only [isTerm]
          rw [decide_eq_true h0, Bool.and_true]
      | tup ts =>
        obtain ⟨a1, zs0, rfl, ha1, hzs0⟩ := hz
        have hl0 := hzs0.length
        have ha6 := m26.sqT ha1
        refine ⟨.ref a1, rfl, ?_⟩
        walk_at "nn"
        refine rd_isi (show Is K b H6 (.ref a1) (.tup ts) from ⟨a1, zs0, rfl, ha6, hzs0.mv0 m26⟩) (kit_tup (.tup ts)) ⟨_, rfl, ?_⟩
        refine ⟨.ref a1, rfl, ?_⟩
        walk_at "nc"
        refine rd_len (.inr ha6) ⟨1, _, rfl, rfl, _, rfl, ite2 (fun e => ?_) (fun e => ?_)⟩
        · have h1 : 1 ≤ zs0.length := by simp at e; omega
          refine Or.inl ⟨1, 3, rfl, rfl, _, _, rfl, rfl, _, rfl, ite2 (fun e1 => ?_) (fun e1 => ?_)⟩
          · have h2 : ¬ zs0.length ≤ 4 := by simp at e1; omega
            have e9 := hbad (by
              cases ts with
              | nil => simp [isTerm]
              | cons t0 tr =>
                simp only [List.length_cons] at hl0
                simp only [isTerm]
                rw [decide_eq_false (show ¬ tr.length ≤ 3 by omega)]
                simp)
            rw [e9] at q
            exact q H6 m26
          · have h2 : zs0.length ≤ 4 := by simp at e1; omega
            cases ts with
            | nil =>
              simp only [List.length_nil] at hl0
              omega
            | cons t0 tr =>
              obtain ⟨z0, zs, rfl, hz0, hzs⟩ := hzs0
              simp only [List.length_cons] at hl0 h2
              refine ⟨.ref a1, rfl, rd_ixT ha6 (by decide) (v := z0) rfl ?_⟩
              refine ⟨z0, t0, b, rfl, hz0.mv0 m26, fun H7 m7 => ⟨_, rfl, ite2 (fun e2 => ?_) (fun e2 => ?_)⟩⟩
              · have e9 := hbad (by
                  simp only [isTerm]
                  rw [show isNamed t0 = false by simpa using e2]
                  simp)
                rw [e9] at q
                exact q H7 (m26.trans m7)
              · have m27 := m26.trans m7
                have e7 := m7.same _ _ e6
                refine ⟨.ref l, rfl, .inl ⟨rfl, _, .inl (.inl e7)⟩, .ref a1, rfl, 1, rfl, rd_sl1 (m27.sqT ha1) fun p8 H8 m8 e8 => ?_⟩
                have hl4 := i4.length
                have hc4 := Th.cnts_len us'
                simp only [Th.cnt, Th.cnts] at b2 ⊢
                have hpos0 := t0.cnt_pos
                have hczs := Th.cnts_len tr
                refine Or.inr ⟨l, p8, ys', zs, rfl, rfl, m8.same _ _ e7, e8, Nat.le_trans (show ys'.length + zs.length ≤ 100000 by omega) (by decide), ?_⟩
                refine ⟨Th.cnts (us' ++ tr), by rw [Th.cnts_append]; omega, ys' ++ zs, us' ++ tr, _, rfl, upd_same, i4.append hzs, ?_, by rw [Th.cnts_append]; omega, rfl, (m27.trans m8).wr nl⟩
                rw [← s2, isTerms_append]
                simp only [isTerm]
                rw [show isNamed t0 = true by simpa using e2, decide_eq_true (show tr.length ≤ 3 by omega)]
                rfl
        · have h1 : ¬ 1 ≤ zs0.length := by simp at e; omega
          have e9 := hbad (by
            cases ts with
            | nil => simp [isTerm]
            | cons t0 tr =>
              simp only [List.length_cons] at hl0
              omega)
          rw [e9] at q
          exact ⟨_, rfl, q H6 m26⟩
      | non =>
        refine ⟨z, rfl, ?_⟩
        walk_at "nn"
        refine rd_isi (hz.mv0 m26) (kit_tup .non) ⟨_, rfl, ?_⟩
        have e9 := hbad (by simp [isTerm])
        rw [e9] at q
        exact q H6 m26
      | bl c =>
        refine ⟨z, rfl, ?_⟩
        walk_at "nn"
        refine rd_isi (hz.mv0 m26) (kit_tup (.bl c)) ⟨_, rfl, ?_⟩
        have e9 := hbad (by simp [isTerm])
        rw [e9] at q
        exact q H6 m26
      | str x =>
        refine ⟨z, rfl, ?_⟩
        walk_at "nn"
        refine rd_isi (hz.mv0 m26) (kit_tup (.str x)) ⟨_, rfl, ?_⟩
        have e9 := hbad (by simp [isTerm])
        rw [e9] at q
        exact q H6 m26
      | lst =>
        refine ⟨z, rfl, ?_⟩
        walk_at "nn"
        refine rd_isi (hz.mv0 m26) (kit_tup .lst) ⟨_, rfl, ?_⟩
        have e9 := hbad (by simp [isTerm])
        rw [e9] at q
        exact q H6 m26
      | dct =>
        refine ⟨z, rfl, ?_⟩
        walk_at "nn"
        refine rd_isi (hz.mv0 m26) (kit_tup .dct) ⟨_, rfl, ?_⟩
        have e9 := hbad (by simp [isTerm])
        rw [e9] at q
        exact q H6 m26
end
end Fm
namespace Fm
open PySem PySem.Spec PyProof.Rows L2
local macro_rules | `(tactic| walk_at "nn") => `(tactic| dsimp only [tC, tNil, tCons, tCB, tCall, gName, tSeq, tAsg, tPar, tDrop, tRet])
local macro_rules | `(tactic| walk_at "nc") => `(tactic| dsimp only [tC, tNil, tCons, tCB])
def initS (x : Str) : Str := ⟨(x.cps.toList.take (x.length - 1)).toArray⟩
def dashed (x : Str) : Bool := decide (x.cps.toList.drop (x.length - 1) = [45])
def isOutc : Th → Bool
  | .str x => if dashed x = true then nmd (initS x) else nmd x
  | _ => false
def sp_vals (K : PySem.W.Frag) : Sp := fun vs H Q _ => ∃ (n : Int) (v : V) (t : Th) (b : Addr), vs = [.int n, v] ∧ Is K b H v t ∧ t.cnt ≤ 90000 ∧ ∀ H', Mv [] H H' → Q (.bl (match t with | .tup ts => decide ((ts.length : Int) = n) && isTerms ts | _ => false)) H'
section
variable {P : Program} {w : World} {K : PySem.W.Frag} {mg : Str → Option Value} {base : Heap}
theorem ok_are_values (T : TX K mg) {k : Nat} : FnOk P w K mg base CX0 (k + 3) T.d_are_values.f T.d_are_values.fd P_are_values (sp_vals K) := by
  have G_is_term : FnOk P w K mg base CX0 2 T.d_is_term.f T.d_is_term.fd P_is_term (sp_isTerm K) := ok_is_term T
  refine T.d_are_values.F.ok sc_are_values (fun vs H Q E h => ?_) (fun cdv A outer s H vs Q E hr h => ?_)
  · obtain ⟨_, _, _, _, rfl, _⟩ := h
    rfl
  · obtain ⟨n, v, t, b, rfl, hv, hcn, q⟩ := h
    have hu64 := hr.units
    refine ⟨_, (pss_one (ps_ret (pe_and (pe_callB (r := rIsi K) call_isi (by rfl) T.b_isinstance bt_isinstance (pa_cons (pv 1) (pa_cons (pe_ty T.b_tuple bt_tuple) pa_nil))) (pe_and (pe_cmpR (r := rEqG K) (op_eqG hu64) (pe_callB (r := rLenG K) call_lenG (by rfl) T.b_len bt_len (pa_cons (pv 1) pa_nil)) (pv 0) (nomark _)) (pe_one (pe_callB (r := rAll K) (cr_all rfl) (by rfl) T.b_all bt_all (pa_cons (pe_lc (own := [("one", 2)]) (g := gName 2) (by rfl) sc_are_values.nd (pi_seq (pv 1)) (blkOk_by (own := [("one", 2)]) (N := N_are_values) (sc := defScope s_are_values) (by decide +kernel)) (fun _ _ _ _ _ => pg_name (i := 2) sc_are_values.nd rfl (Or.inl rfl)) (fun _ _ _ _ _ => pts_nil) (fun _ _ _ _ _ => (pe_call G_is_term (hr.mono (by omega)) rfl T.d_is_term.g T.d_is_term.F.kp T.d_is_term.b .nil pass0 (pa_cons (pv 2) pa_nil)))) pa_nil))))))), ?_⟩
    refine ⟨v, rfl, ?_⟩
    walk_at "nn"
    refine rd_isi hv (kit_tup t) ⟨_, rfl, ?_⟩
    cases t with
    | int j => exact q H .refl
    | bl c => exact q H .refl
    | non => exact q H .refl
    | str x => exact q H .refl
    | lst => exact q H .refl
    | dct => exact q H .refl
    | tup ts =>
      obtain ⟨a, xs, rfl, ha, hxs⟩ := hv
      have hl := hxs.length
      refine ⟨.ref a, rfl, ?_⟩
      walk_at "nc"
      refine rd_len (.inr ha) ⟨.int n, rfl, Or.inl ⟨rfl, _, rfl, ?_⟩⟩
      rw [vint_eq, hl]
      refine ite2 (fun e => ?_) (fun e => ?_)
      · simp only [Th.cnt] at hcn
        have hcl := Th.cnts_len ts
        refine ⟨.ref a, rfl, a, rfl, ?_⟩
        refine lc_seq (xs := xs) (.inr ha) (fun i D H1 => H1 D = some (.lst (((ts.take i).map isTerm).map V.bl)) ∧ Mv [] H H1)
          (fun D nD => ⟨upd_same, .new nD⟩) (fun i D H1 nD h1 => h1.2) (fun D nD i x H1 hx h1 => ?_) (fun D H1 nD h1 => ?_)
        · obtain ⟨e1, m1⟩ := h1
          obtain ⟨u, hu, hi⟩ := hxs.get hx
          have hul := (List.getElem?_eq_some_iff.mp hu).1
          refine ⟨rfl, x, rfl, x, u, b, rfl, hi.mv0 m1, ?_, fun H2 m2 => ?_⟩
          · have : u.cnt ≤ Th.cnts ts := by
              have h5 : ts = ts.take i ++ u :: ts.drop (i + 1) := by
                rw [← (List.getElem?_eq_some_iff.mp hu).2, List.getElem_cons_drop, List.take_append_drop]
              rw [h5, Th.cnts_append]
              simp only [Th.cnts]
              omega
            omega
          · refine ⟨_, m2.same _ _ e1, ?_, ?_, (m1.trans m2).wr nD⟩
            · rw [List.length_map, List.length_map, List.length_take]
              exact Nat.lt_of_le_of_lt (show min i ts.length ≤ 100000 by omega) (by decide)
            · rw [upd_same, List.take_add_one, hu]
              simp
        · obtain ⟨e1, m1⟩ := h1
          rw [hl, List.take_length] at e1
          refine ⟨D, _, rfl, .inl (.inl e1), ?_⟩
          have e9 : (ts.map isTerm).all id = (decide ((ts.length : Int) = n) && isTerms ts) := by
            rw [e, isTerms_all, List.all_map]
            rfl
          rw [e9]
          exact q H1 m1
      · have := q H .refl
        simp only [show decide ((ts.length : Int) = n) = false by simpa using e, Bool.false_and] at this
        exact this
end
end Fm
namespace Fm
open PySem PySem.Spec PyProof.Rows L2
local macro_rules | `(tactic| walk_at "nn") => `(tactic| dsimp only [tC, tNil, tCons, tCB, tCall, gName, tSeq, tAsg, tPar, tDrop, tRet])
local macro_rules | `(tactic| walk_at "nc") => `(tactic| dsimp only [tC, tNil, tCons, tCB, tCall])
mutual
def under (many : Int) : Th → Bool
  | .int i => decide (i < many)
  | .tup (_ :: ts) => unders many ts
  | _ => true
def unders (many : Int) : List Th → Bool
  | [] => true
  | t :: ts => under many t && unders many ts
end
def sp_termOver (K : PySem.W.Frag) : Sp := fun vs H Q _ => ∃ (many : Int) (v : V) (t : Th) (b : Addr), vs = [.int many, v] ∧ Is K b H v t ∧ t.cnt ≤ 90000 ∧ ∀ H', Mv [] H H' → Q (.bl (isTerm t && under many t)) H'
section
variable {P : Program} {w : World} {K : PySem.W.Frag} {mg : Str → Option Value} {base : Heap}
end
mutual
theorem isTerm_th {R : Int → Prop} (hR : ∀ i, R i → 0 ≤ i) : ∀ t : Tm, t.ok R → isTerm t.th = true
  | .var i, h => by simpa [Tm.th, isTerm] using hR i h
  | .op x ts, h => by
    simp only [Tm.th, isTerm, isNamed, nmd_nm h.1, isTerms_ths hR ts h.2.2, Bool.true_and, Bool.and_true, ths_len, decide_eq_true_eq]
    exact h.2.1
theorem isTerms_ths {R : Int → Prop} (hR : ∀ i, R i → 0 ≤ i) : ∀ ts : List Tm, Tm.oks R ts → isTerms (Tm.ths ts) = true
  | [], _ => by simp [Tm.ths, isTerms]
  | t :: ts, h => by simp [Tm.ths, isTerms, isTerm_th hR t h.1, isTerms_ths hR ts h.2]
theorem ths_len : ∀ ts : List Tm, (Tm.ths ts).length = ts.length
  | [] => by simp [Tm.ths]
  | t :: ts => by simp [Tm.ths, ths_len ts]
end
mutual
theorem under_th {R : Int → Prop} {n : Int} (hR : ∀ i, R i → i < n) : ∀ t : Tm, t.ok R → under n t.th = true
  | .var i, h => by simpa [Tm.th, under] using hR i h
  | .op x ts, h => by
    simp only [Tm.th, under]
    exact unders_ths hR ts h.2.2
theorem unders_ths {R : Int → Prop} {n : Int} (hR : ∀ i, R i → i < n) : ∀ ts : List Tm, Tm.oks R ts → unders n (Tm.ths ts) = true
  | [], _ => by simp [Tm.ths, unders]
  | t :: ts, h => by simp [Tm.ths, unders, under_th hR t h.1, unders_ths hR ts h.2]
end
mutual
theorem cnt_th : ∀ t : Tm, t.th.cnt ≤ t.cst + t.lv
  | .var i => by simp [Tm.th, Th.cnt, Tm.lv]
  | .op x ts => by
    have := cnts_ths ts
    simp only [Tm.th, Th.cnt, Th.cnts, Tm.cst, Tm.lv]
    omega
theorem cnts_ths : ∀ ts : List Tm, Th.cnts (Tm.ths ts) ≤ Tm.csts ts + Tm.lvs ts
  | [] => by simp [Tm.ths, Th.cnts]
  | t :: ts => by
    have := cnt_th t
    have := cnts_ths ts
    simp only [Tm.ths, Th.cnts, Tm.csts, Tm.lvs]
    omega
end
end Fm
namespace Fm
open PySem PySem.Spec PyProof.Rows L2 SlX
section
variable {X : Cx} {K : PySem.W.Frag} {o e : Expr} {es : List Expr} {to : TE} {t : TA} {apos cpos : Pos} {T id : String} {name f : Str} {r : V → List V → Hp → VK → Prop}
theorem pe_slC (hK : X.K = K) (he : PE X e to) (hb : attributeBase e f X.env (eval e X.env) = eval e X.env := by rfl) : PE X (.Attribute e f apos) (SlX.tSl K to f) := by
  subst hK
  exact pe_sl he hb
end
structure TotO {κ : Type} (le : κ → κ → Bool) : Prop where
  tr : ∀ a b c, le a b = true → le b c = true → le a c = true
  to : ∀ a b, (le a b || le b a) = true
  an : ∀ a b, le a b = true → le b a = true → a = b
def leS (x y : Str) : Bool := !decide (y.cps.toList < x.cps.toList)
def leZ (i j : Int) : Bool := decide (i ≤ j)
section
variable {α κ : Type} {le : κ → κ → Bool} {k : α → κ}
def srt (le : κ → κ → Bool) (k : α → κ) (xs : List α) : List α := xs.mergeSort fun a b => le (k a) (k b)
end
section
variable {κ : Type} [DecidableEq κ]
theorem valV_mem {kvs : List (κ × V)} {k : κ} {v : V} (n : (kvs.map (·.1)).Nodup) (h : (k, v) ∈ kvs) : valV kvs k = some v := by
  induction kvs with
  | nil => exact absurd h List.not_mem_nil
  | cons p r ih =>
    rw [List.map_cons, List.nodup_cons] at n
    rcases List.mem_cons.mp h with rfl | h
    · exact valV_pos rfl
    · rw [valV_neg (fun e => n.1 (by rw [e]; exact List.mem_map.mpr ⟨_, h, rfl⟩))]
      exact ih n.2 h
theorem valV_none {kvs : List (κ × V)} {k : κ} (h : k ∉ kvs.map (·.1)) : valV kvs k = none := by
  induction kvs with
  | nil => rfl
  | cons p r ih =>
    rw [List.map_cons, List.mem_cons, not_or] at h
    rw [valV_neg (fun e => h.1 e.symm)]
    exact ih h.2
theorem putK_new {kvs : List (κ × V)} {k : κ} {v : V} (h : k ∉ kvs.map (·.1)) : putK kvs k v = kvs ++ [(k, v)] := by
  unfold putK
  rw [valV_any, valV_none h]
  rfl
end
section
variable {K : PySem.W.Frag} {H : Hp}
end
section
variable {X : Cx}
def rNeE : R2 := fun x y H Q => ∃ (a b : Addr) (kvs : List (L2.Key × V)), x = .ref a ∧ y = .ref b ∧ H a = some (.dK kvs) ∧ H b = some (.dK []) ∧ Q (.bl (!kvs.isEmpty)) H
def rEqE : R2 := fun x y H Q => ∃ (a b : Addr) (kvs : List (L2.Key × V)), x = .ref a ∧ y = .ref b ∧ H a = some (.dK kvs) ∧ H b = some (.dK []) ∧ Q (.bl kvs.isEmpty) H
end
section
variable {b p : Addr} {H H' : Hp} {o : HO}
theorem Dr.getK (d : Dr b H H') (hB : Bag H b) (h : H p = some o) (ho : ∀ xs, o ≠ .lst xs) : H' p = some o := by
  refine d.get ?_ h
  rintro rfl
  obtain ⟨xs, e⟩ := hB.lst
  rw [e] at h
  exact ho xs (Option.some.inj h).symm
theorem Mv.put {d : Addr} {u o : HO} (h : H d = some u) (hu : ∀ xs, u ≠ .tup xs) (hv : ∀ o xs, u ≠ .frz o (.tup xs)) : Mv [d] H (upd H d o) := by
  refine ⟨fun a xs r => ?_, fun a o n e => ?_⟩
  · have hd : a ≠ d := by
      rintro rfl
      rcases r with r | ⟨o, r⟩
      · rw [h] at r
        exact hu xs (Option.some.inj r)
      · rw [h] at r
        exact hv o xs (Option.some.inj r)
    exact r.imp (fun r => by rw [upd_ne hd]; exact r) fun ⟨o, r⟩ => ⟨o, by rw [upd_ne hd]; exact r⟩
  · rw [upd_ne (fun z => n (by rw [z]; exact List.mem_singleton.mpr rfl))]
    exact e
theorem Mv.putD {d : Addr} {kvs : List (L2.Key × V)} {o : HO} (h : H d = some (.dK kvs)) : Mv [d] H (upd H d o) := .put h (fun _ z => by cases z) (fun _ _ z => by cases z)
theorem slO_nolst {a C dx : Addr} {vs : List (Option V)} (xs : List V) : SlO a C dx vs ≠ .lst xs := fun z => by
  unfold SlO at z
  cases z
theorem Slt.mv {a C dx : Addr} {vs : List (Option V)} (h : Slt H a C dx vs) (m : Mv [] H H') : Slt H' a C dx vs := h.imp (fun h => ⟨m.same _ _ h.1, h.2⟩) fun h => ⟨m.same _ _ h.1, m.same _ _ h.2⟩
theorem Slt.dr {a C dx : Addr} {vs : List (Option V)} (h : Slt H a C dx vs) (d : Dr b H H') (hB : Bag H b) : Slt H' a C dx vs :=
  h.imp (fun h => ⟨d.getK hB h.1 (fun _ z => by cases z), h.2⟩) fun h => ⟨d.getK hB h.1 slO_nolst, d.getK hB h.2 (fun _ z => by cases z)⟩
end
structure ActR where
  nm : Str
  ar : Int
  outs : List (Str × Int)
structure ActA where
  r : ActR
  a : Addr
  o : Addr
def ActA.kv (z : ActA) : L2.Key × V := (.inr z.r.nm, .ref z.a)
structure ActsAt (K : PySem.W.Frag) (H : Hp) (d : Addr) (zs : List ActA) : Prop where
  at_ : H d = some (.dK (zs.map ActA.kv))
  nd : (zs.map (·.r.nm)).Nodup
  tup : ∀ z ∈ zs, SqT K H z.a [.int z.r.ar, .ref z.o]
  out : ∀ z ∈ zs, H z.o = some (.dK (z.r.outs.map rowK))
  ond : ∀ z ∈ zs, (z.r.outs.map (·.1)).Nodup
section
variable {K : PySem.W.Frag} {H H' : Hp} {b d : Addr} {zs : List ActA}
theorem ActsAt.mv (h : ActsAt K H d zs) (m : Mv [] H H') : ActsAt K H' d zs := ⟨m.same _ _ h.at_, h.nd, fun z hz => m.sqT (h.tup z hz), fun z hz => m.same _ _ (h.out z hz), h.ond⟩
theorem ActsAt.dr (h : ActsAt K H d zs) (m : Dr b H H') (hB : Bag H b) : ActsAt K H' d zs :=
  ⟨m.getK hB h.at_ (fun _ z => by cases z), h.nd, fun z hz => m.mv.sqT (h.tup z hz), fun z hz => m.getK hB (h.out z hz) (fun _ z => by cases z), h.ond⟩
theorem kv_keys (zs : List ActA) : (zs.map ActA.kv).map (·.1) = (zs.map (·.r.nm)).map Sum.inr := by
  rw [List.map_map, List.map_map]
  rfl
theorem nd_inr {xs : List Str} (n : xs.Nodup) : (xs.map (Sum.inr : Str → L2.Key)).Nodup := by
  refine List.Pairwise.map _ (fun a b h => ?_) n
  exact fun e => h (Sum.inr.inj e)
theorem ActsAt.nk (h : ActsAt K H d zs) : ((zs.map ActA.kv).map (·.1)).Nodup := by
  rw [kv_keys]
  exact nd_inr h.nd
theorem ActsAt.val (h : ActsAt K H d zs) {z : ActA} (hz : z ∈ zs) : valV (zs.map ActA.kv) (.inr z.r.nm) = some (.ref z.a) := valV_mem h.nk (List.mem_map.mpr ⟨z, hz, rfl⟩)
end
def ActR.norm (r : ActR) : ActR := { r with outs := srt leS (·.1) r.outs }
def normW (rs : List ActR) : List ActR := srt leS (·.nm) (rs.map ActR.norm)
def WldAt (K : PySem.W.Frag) (H : Hp) (C x : Addr) (rs : List ActR) : Prop := ∃ dx d zs, Slt H x C dx [some (.ref d)] ∧ ActsAt K H d zs ∧ zs.map (·.r) = rs
section
variable {K : PySem.W.Frag} {H H' : Hp} {b C x : Addr} {rs : List ActR}
theorem WldAt.mv (h : WldAt K H C x rs) (m : Mv [] H H') : WldAt K H' C x rs := by
  obtain ⟨dx, d, zs, h1, h2, h3⟩ := h
  exact ⟨dx, d, zs, Slt.mv h1 m, h2.mv m, h3⟩
theorem WldAt.dr (h : WldAt K H C x rs) (m : Dr b H H') (hB : Bag H b) : WldAt K H' C x rs := by
  obtain ⟨dx, d, zs, h1, h2, h3⟩ := h
  exact ⟨dx, d, zs, Slt.dr h1 m hB, h2.dr m hB, h3⟩
end
end Fm
namespace Fm
open PySem PySem.Spec PyProof.Rows L2 SlX
local macro_rules | `(tactic| walk_at "nn") => `(tactic| dsimp only [tC, tNil, tCons, tCB, tCall, gName, tSeq, tAsg, tPar, tDrop, tRet])
local macro_rules | `(tactic| walk_at "nc") => `(tactic| dsimp only [tC, tNil, tCons, tCB, tCall])
def On (x : Str) : Prop := isOutc (.str x) = true ∧ x.length ≤ 9
structure ActR.ok (r : ActR) : Prop where
  nm : Nm r.nm
  ar0 : 0 ≤ r.ar
  ar2 : r.ar ≤ 2
  o1 : 1 ≤ r.outs.length
  o6 : r.outs.length ≤ 6
  on : ∀ e ∈ r.outs, On e.1 ∧ 0 ≤ e.2 ∧ e.2 ≤ 2
def within (m : Int) : Th → Bool
  | .int i => decide (0 ≤ i) && decide (i ≤ m)
  | _ => false
def sp_within (K : PySem.W.Frag) : Sp := fun vs H Q _ => ∃ (v : V) (t : Th) (b : Addr) (m : Int), vs = [v, .int m] ∧ Is K b H v t ∧ ∀ H', Mv [] H H' → Q (.bl (within m t)) H'
def sp_outs : Sp := fun vs H Q _ => ∃ (o : Addr) (rows : List (Str × Int)), vs = [.ref o] ∧ H o = some (.dK (rows.map rowK)) ∧ (rows.map (·.1)).Nodup ∧ 1 ≤ rows.length ∧ rows.length ≤ 6 ∧ (∀ e ∈ rows, On e.1 ∧ 0 ≤ e.2 ∧ e.2 ≤ 2) ∧ ∀ H', Mv [] H H' → Q (.bl true) H'
def sp_act (K : PySem.W.Frag) : Sp := fun vs H Q _ => ∃ (r : ActR) (a o : Addr), vs = [.ref a] ∧ SqT K H a [.int r.ar, .ref o] ∧ H o = some (.dK (r.outs.map rowK)) ∧ (r.outs.map (·.1)).Nodup ∧ r.ok ∧ ∀ H', Mv [] H H' → Q (.bl true) H'
theorem tyx_sqT {K : PySem.W.Frag} {H : Hp} {a : Addr} {xs : List V} (h : SqT K H a xs) : TyX K H (.ref a) (.type "tuple") := by
  rcases h with (hs | ⟨o, hs⟩) | ⟨o, its, n, hk, hc, _⟩
  · exact .base (.tup hs)
  · exact .fTuple hs
  · exact .kTuple hk hc
theorem hu1_of {k : Nat} {A : Around} (h : Room k A) : A.units + 1 < cLine := by
  have := hu65_of h
  omega
section
variable {P : Program} {w : World} {K : PySem.W.Frag} {mg : Str → Option Value} {base : Heap}
end
end Fm
namespace Fm
open PySem PySem.Spec PyProof.Rows L2 SlX
local macro_rules | `(tactic| walk_at "nn") => `(tactic| dsimp only [tC, tNil, tCons, tCB, tCall, gName, tSeq, tAsg, tPar, tDrop, tRet])
local macro_rules | `(tactic| walk_at "nc") => `(tactic| dsimp only [tC, tNil, tCons, tCB, tCall])
def WldF (K : PySem.W.Frag) (H0 H : Hp) (C x : Addr) (rs : List ActR) : Prop := ∃ dx d zs, Slt H x C dx [some (.ref d)] ∧ ActsAt K H d zs ∧ zs.map (·.r) = rs ∧ H0 d = none ∧ ∀ z ∈ zs, H0 z.o = none
theorem WldF.at_ {K : PySem.W.Frag} {H0 H : Hp} {C x : Addr} {rs : List ActR} (h : WldF K H0 H C x rs) : WldAt K H C x rs := by
  obtain ⟨dx, d, zs, h1, h2, h3, _⟩ := h
  exact ⟨dx, d, zs, h1, h2, h3⟩
def sp_World (K : PySem.W.Frag) (C : Addr) : Sp := fun vs H Q _ => ∃ (x dx d : Addr) (zs : List ActA) (H0 : Hp), vs = [.ref x, .ref d] ∧ H = upd (upd H0 dx (.own x)) x (.ins C dx []) ∧ H0 x = none ∧ H0 dx = none ∧ dx ≠ x ∧ ActsAt K H0 d zs ∧ (∀ z ∈ zs, z.r.ok) ∧ zs.length < 60 ∧
  ∀ H', Mv [] H0 H' → WldF K H0 H' C x (normW (zs.map (·.r))) → Q .non H'
section
variable {P : Program} {w : World} {K : PySem.W.Frag} {mg : Str → Option Value} {base : Heap}
end
end Fm
namespace Fm
open PySem PySem.Spec PyProof.Rows L2 SlX
local macro_rules | `(tactic| walk_at "nn") => `(tactic| dsimp only [tC, tNil, tCons, tCB, tCall, gName, tSeq, tAsg, tPar, tDrop, tRet])
local macro_rules | `(tactic| walk_at "nc") => `(tactic| dsimp only [tC, tNil, tCons, tCB, tCall])
def sp_Wacts (K : PySem.W.Frag) (C : Addr) : Sp := fun vs H Q _ => ∃ (x : Addr) (rs : List ActR), vs = [.ref x] ∧ WldAt K H C x rs ∧ ∀ p, H p = none → Q (.ref p) (upd H p (.lst ((rs.map (·.nm)).map V.str)))
def sp_Wargs (K : PySem.W.Frag) (C : Addr) : Sp := fun vs H Q _ => ∃ (x : Addr) (rs : List ActR) (r : ActR), vs = [.ref x, .str r.nm] ∧ WldAt K H C x rs ∧ r ∈ rs ∧ Q (.int r.ar) H
def sp_Wouts (K : PySem.W.Frag) (C : Addr) : Sp := fun vs H Q _ => ∃ (x : Addr) (rs : List ActR) (r : ActR), vs = [.ref x, .str r.nm] ∧ WldAt K H C x rs ∧ r ∈ rs ∧ ∀ p, H p = none → Q (.ref p) (upd H p (.lst ((r.outs.map (·.1)).map V.str)))
def sp_Wbrings (K : PySem.W.Frag) (C : Addr) : Sp := fun vs H Q _ => ∃ (x : Addr) (rs : List ActR) (r : ActR) (y : Str) (i : Int), vs = [.ref x, .str r.nm, .str y] ∧ WldAt K H C x rs ∧ r ∈ rs ∧ (y, i) ∈ r.outs ∧ Q (.int i) H
section
variable {P : Program} {w : World} {K : PySem.W.Frag} {mg : Str → Option Value} {base : Heap}
end
end Fm
namespace Fm
open PySem PySem.Spec PyProof.Rows L2 SlX
local macro_rules | `(tactic| walk_at "nn") => `(tactic| dsimp only [tC, tNil, tCons, tCB, tCall, gName, tSeq, tAsg, tPar, tDrop, tRet])
local macro_rules | `(tactic| walk_at "nc") => `(tactic| dsimp only [tC, tNil, tCons, tCB, tCall])
inductive Sta where
  | set (chs : List (Int × Tm)) (goal : Int)
  | ask (act : Str) (ts : List Tm) (ways : List (Str × List Int × Int))
  | fin (word : Str) (ts : List Tm)
def chD (c : Int × Tm) : PyData := .tuple [.int c.1, c.2.d]
def wayD (w : Str × List Int × Int) : PyData := .tuple [.str w.1, .tuple (w.2.1.map .int), .int w.2.2]
def Sta.d : Sta → PyData
  | .set chs goal => .tuple [.str "set", .tuple (chs.map chD), .int goal]
  | .ask act ts ways => .tuple [.str "ask", .str act, .tuple (Tm.ds ts), .tuple (ways.map wayD)]
  | .fin word ts => .tuple [.str "end", .str word, .tuple (Tm.ds ts)]
def TmOver (many : Int) (t : Tm) : Prop := t.ok (fun i => 0 ≤ i ∧ i < many) ∧ t.th.cnt ≤ 5000 ∧ t.dep ≤ 50
def ChOk (many : Int) (chs : List (Int × Tm)) : Prop := (chs.map (·.1)).Nodup ∧ chs.length ≤ 24 ∧ ∀ c ∈ chs, 0 ≤ c.1 ∧ c.1 < many ∧ TmOver many c.2
def WayOk (r : ActR) (many places : Int) (w : Str × List Int × Int) : Prop := ∃ i, (w.1, i) ∈ r.outs ∧ (w.2.1.length : Int) = i ∧ w.2.1.Nodup ∧ (∀ j ∈ w.2.1, 0 ≤ j ∧ j < many) ∧ 0 ≤ w.2.2 ∧ w.2.2 < places
structure AskOk (r : ActR) (many places : Int) (ts : List Tm) (ways : List (Str × List Int × Int)) : Prop where
  len : (ts.length : Int) = r.ar
  ts : ∀ t ∈ ts, TmOver many t
  pm : (ways.map (·.1)).Perm (r.outs.map (·.1))
  ways : ∀ w ∈ ways, WayOk r many places w
def Sta.ok (rs : List ActR) (many places : Int) : Sta → Prop
  | .set chs goal => ChOk many chs ∧ 0 ≤ goal ∧ goal < places
  | .ask act ts ways => ∃ r ∈ rs, r.nm = act ∧ AskOk r many places ts ways
  | .fin word ts => Nm word ∧ ts.length ≤ 2 ∧ ∀ t ∈ ts, TmOver many t
structure WOk (rs : List ActR) : Prop where
  ok : ∀ r ∈ rs, r.ok
  nd : (rs.map (·.nm)).Nodup
  few : rs.length < 60
  ond : ∀ r ∈ rs, (r.outs.map (·.1)).Nodup
  pw : ∀ r ∈ rs, (r.outs.map (·.1)).Pairwise fun a b => leS a b = true
def inPl (places : Int) : Th → Bool
  | .int i => decide (0 ≤ i) && decide (i < places)
  | _ => false
def sp_diff (K : PySem.W.Frag) : Sp := fun vs H Q _ => ∃ (many : Int) (a : Addr) (ns : List Int), vs = [.int many, .ref a] ∧ SqT K H a (ns.map V.int) ∧ ns.Nodup ∧ ns.length ≤ 1000 ∧ (∀ i ∈ ns, 0 ≤ i ∧ i < many) ∧ ∀ H', Mv [] H H' → Q (.bl true) H'
def sp_termsOver (K : PySem.W.Frag) : Sp := fun vs H Q _ => ∃ (many : Int) (v : V) (ts : List Tm), vs = [.int many, v] ∧ Im K H v (.tuple (Tm.ds ts)) ∧ ts.length ≤ 1000 ∧ (∀ t ∈ ts, TmOver many t) ∧ ∀ H', Mv [] H H' → Q (.bl true) H'
def sp_place (K : PySem.W.Frag) : Sp := fun vs H Q _ => ∃ (places : Int) (v : V) (t : Th) (b : Addr), vs = [.int places, v] ∧ Is K b H v t ∧ ∀ H', Mv [] H H' → Q (.bl (inPl places t)) H'
def sp_pair (K : PySem.W.Frag) : Sp := fun vs H Q _ => ∃ (v : V) (d e : PyData), vs = [v] ∧ Im K H v (.tuple [d, e]) ∧ Q (.bl true) H
section
variable {P : Program} {w : World} {K : PySem.W.Frag} {mg : Str → Option Value} {base : Heap}
end
end Fm
namespace Fm
open PySem PySem.Spec PyProof.Rows L2 SlX
local macro_rules | `(tactic| walk_at "nn") => `(tactic| dsimp only [tC, tNil, tCons, tCB, tCall, gName, tSeq, tAsg, tPar, tDrop, tRet])
local macro_rules | `(tactic| walk_at "nc") => `(tactic| dsimp only [tC, tNil, tCons, tCB, tCall])
def sp_set (K : PySem.W.Frag) : Sp := fun vs H Q _ => ∃ (many places : Int) (v : V) (chs : List (Int × Tm)) (goal : Int), vs = [.int many, .int places, v] ∧ Im K H v (Sta.set chs goal).d ∧ ChOk many chs ∧ 0 ≤ goal ∧ goal < places ∧ ∀ H', Mv [] H H' → Q (.bl true) H'
def sp_end (K : PySem.W.Frag) : Sp := fun vs H Q _ => ∃ (many : Int) (v : V) (word : Str) (ts : List Tm), vs = [.int many, v] ∧ Im K H v (Sta.fin word ts).d ∧ Nm word ∧ ts.length ≤ 2 ∧ (∀ t ∈ ts, TmOver many t) ∧ ∀ H', Mv [] H H' → Q (.bl true) H'
def sp_way (K : PySem.W.Frag) (C : Addr) : Sp := fun vs H Q _ => ∃ (x : Addr) (many places : Int) (v : V) (rs : List ActR) (r : ActR) (wy : Str × List Int × Int), vs = [.ref x, .int many, .int places, .str r.nm, v] ∧ WldAt K H C x rs ∧ r ∈ rs ∧ Im K H v (wayD wy) ∧ WayOk r many places wy ∧
  (∀ e ∈ r.outs, 0 ≤ e.2 ∧ e.2 ≤ 2) ∧ ∀ H', Mv [] H H' → Q (.bl true) H'
theorem Im.tup2 {K : PySem.W.Frag} {H : Hp} {v : V} {d e : PyData} (h : Im K H v (.tuple [d, e])) : ∃ a x y, v = .ref a ∧ SqT K H a [x, y] ∧ Im K H x d ∧ Im K H y e := by
  obtain ⟨a, xs, rfl, ha, hx⟩ := h.tupI
  obtain ⟨x, xs1, rfl, h1, hx⟩ := hx.invD
  obtain ⟨y, xs2, rfl, h2, hx⟩ := hx.invD
  rw [hx.nilD] at ha
  exact ⟨a, x, y, rfl, ha, h1, h2⟩
section
variable {P : Program} {w : World} {K : PySem.W.Frag} {mg : Str → Option Value} {base : Heap}
end
end Fm
namespace Fm
open PySem PySem.Spec PyProof.Rows L2 SlX
local macro_rules | `(tactic| walk_at "nn") => `(tactic| dsimp only [tC, tNil, tCons, tCB, tCall, gName, tSeq, tAsg, tPar, tDrop, tRet])
local macro_rules | `(tactic| walk_at "nc") => `(tactic| dsimp only [tC, tNil, tCons, tCB, tCall])
def sp_ask (K : PySem.W.Frag) (C : Addr) : Sp := fun vs H Q _ => ∃ (x : Addr) (many places : Int) (v : V) (rs : List ActR) (r : ActR) (ts : List Tm) (ways : List (Str × List Int × Int)), vs = [.ref x, .int many, .int places, v] ∧ WldAt K H C x rs ∧ WOk rs ∧ r ∈ rs ∧ Im K H v (Sta.ask r.nm ts ways).d ∧ AskOk r many places ts ways ∧
  ∀ H', Mv [] H H' → Q (.bl true) H'
section
variable {P : Program} {w : World} {K : PySem.W.Frag} {mg : Str → Option Value} {base : Heap}
end
end Fm
namespace Fm
open PySem PySem.Spec PyProof.Rows L2 SlX
local macro_rules | `(tactic| walk_at "nn") => `(tactic| dsimp only [tC, tNil, tCons, tCB, tCall, gName, tSeq, tAsg, tPar, tDrop, tRet])
local macro_rules | `(tactic| walk_at "nc") => `(tactic| dsimp only [tC, tNil, tCons, tCB, tCall])
section
variable {P : Program} {w : World} {K : PySem.W.Frag} {mg : Str → Option Value} {base : Heap}
end
end Fm
namespace Fm
open PySem PySem.Spec PyProof.Rows L2 SlX
local macro_rules | `(tactic| walk_at "nn") => `(tactic| dsimp only [tC, tNil, tCons, tCB, tCall, gName, tSeq, tAsg, tPar, tDrop, tRet])
local macro_rules | `(tactic| walk_at "nc") => `(tactic| dsimp only [tC, tNil, tCons, tCB, tCall])
theorem Ims.pairs {α : Type} {K : PySem.W.Frag} {H : Hp} {D : α → PyData} : ∀ {rows : List α} {xs : List V}, Ims K H xs (rows.map D) → ∀ z ∈ rows.zip xs, Im K H z.2 (D z.1)
  | [], _, _, z, hz => by simp at hz
  | r :: rows, _, h, z, hz => by
    obtain ⟨v, vs, rfl, h1, h2⟩ := h.invD
    rw [List.zip_cons_cons, List.mem_cons] at hz
    rcases hz with rfl | hz
    · exact h1
    · exact Ims.pairs h2 z hz
def kI : V → Int
  | .int i => i
  | _ => 0
def kS : V → Str
  | .str x => x
  | _ => ""
def Sta.ord : Sta → Sta
  | .set chs goal => .set (srt leZ (·.1) chs) goal
  | .ask act ts ways => .ask act ts (srt leS (·.1) ways)
  | .fin word ts => .fin word ts
def Sta.keyed : Sta → Prop
  | .set chs _ => (chs.map (·.1)).Nodup ∧ chs.length ≤ 1000
  | .ask _ _ ways => (ways.map (·.1)).Nodup ∧ ways.length ≤ 1000
  | .fin _ _ => True
def sp_stmt (K : PySem.W.Frag) (C : Addr) : Sp := fun vs H Q _ => ∃ (x : Addr) (many places : Int) (v : V) (rs : List ActR) (st : Sta), vs = [.ref x, .int many, .int places, v] ∧ WldAt K H C x rs ∧ WOk rs ∧ Im K H v st.d ∧ st.ok rs many places ∧ many ≤ 1000000 ∧ places ≤ 1000000 ∧
  ∀ H', Mv [] H H' → Q (.bl true) H'
theorem sta_tup : ∀ st : Sta, ∃ y e es, st.d = .tuple (.str y :: e :: es)
  | .set _ _ => ⟨_, _, _, rfl⟩
  | .ask _ _ _ => ⟨_, _, _, rfl⟩
  | .fin _ _ => ⟨_, _, _, rfl⟩
section
variable {P : Program} {w : World} {K : PySem.W.Frag} {mg : Str → Option Value} {base : Heap}
end
end Fm
namespace Fm
open PySem PySem.Spec PyProof.Rows L2 SlX
local macro_rules | `(tactic| walk_at "nn") => `(tactic| dsimp only [tC, tNil, tCons, tCB, tCall, gName, tSeq, tAsg, tPar, tDrop, tRet])
local macro_rules | `(tactic| walk_at "nc") => `(tactic| dsimp only [tC, tNil, tCons, tCB, tCall])
def sp_first_of (K : PySem.W.Frag) : Sp := fun vs H Q _ => ∃ (a : Addr) (x : V) (xs : List V), vs = [.ref a] ∧ SqT K H a (x :: xs) ∧ Q x H
def sp_ordered (K : PySem.W.Frag) : Sp := fun vs H Q _ => ∃ (v : V) (st : Sta), vs = [v] ∧ Im K H v st.d ∧ st.keyed ∧ ∀ v' H', Mv [] H H' → Im K H' v' st.ord.d → Q v' H'
section
variable {P : Program} {w : World} {K : PySem.W.Frag} {mg : Str → Option Value} {base : Heap}
end
end Fm
namespace Fm
open PySem PySem.Spec PyProof.Rows L2 SlX
local macro_rules | `(tactic| walk_at "nn") => `(tactic| dsimp only [tC, tNil, tCons, tCB, tCall, gName, tSeq, tAsg, tPar, tDrop, tRet])
local macro_rules | `(tactic| walk_at "nc") => `(tactic| dsimp only [tC, tNil, tCons, tCB, tCall])
section
variable {H0 H : Hp} {x dx C : Addr} {vs : List (Option V)}
theorem Mv.sl (m : Mv [] H0 H) (nx : H0 x = none) (ndx : H0 dx = none) : Mv [] H0 (slH H x C dx vs) := by
  unfold slH
  exact (m.wr ndx).wr nx
theorem Mv.slP {u u2 : HO} (hne : dx ≠ x) (hx : H x = some u) (h1 : ∀ xs, u ≠ .tup xs) (h2 : ∀ o xs, u ≠ .frz o (.tup xs)) (hd : H dx = some u2) (h3 : ∀ xs, u2 ≠ .tup xs) (h4 : ∀ o xs, u2 ≠ .frz o (.tup xs)) : Mv [x, dx] H (slH H x C dx vs) := by
  have m1 : Mv [x, dx] H (upd H dx (.xd [])) := (Mv.put hd h3 h4).mono (by simp)
  have m2 : Mv [x, dx] (upd H dx (.xd [])) (slH H x C dx vs) := (Mv.put (u := u) (by rw [upd_ne hne.symm]; exact hx) h1 h2).mono (by simp)
  exact m1.trans m2
theorem Mv.slA (hne : dx ≠ x) (hx : H x = some (.ins C dx [])) (hd : H dx = some (.own x)) {us : List (Option V)} : Mv [x, dx] H (slH H x C dx us) := .slP hne hx (fun _ z => by cases z) (fun _ _ z => by cases z) hd (fun _ z => by cases z) (fun _ _ z => by cases z)
end
def CodAt (K : PySem.W.Frag) (H : Hp) (C CW x wx : Addr) (rs : List ActR) (many given : Int) (sts : List Sta) : Prop := ∃ dx l xs, Slt H x C dx [some (.int given), some (.ref l), some (.int many), some (.ref wx)] ∧ WldAt K H CW wx rs ∧ H l = some (.lst xs) ∧ Ims K H xs (sts.map Sta.d)
def CodL (K : PySem.W.Frag) (H : Hp) (C CW l x wx : Addr) (rs : List ActR) (many given : Int) (sts : List Sta) : Prop := ∃ dx xs, Slt H x C dx [some (.int given), some (.ref l), some (.int many), some (.ref wx)] ∧ WldAt K H CW wx rs ∧ H l = some (.lst xs) ∧ Ims K H xs (sts.map Sta.d)
theorem CodL.at_ {K : PySem.W.Frag} {H : Hp} {C CW l x wx : Addr} {rs : List ActR} {many given : Int} {sts : List Sta} : CodL K H C CW l x wx rs many given sts → CodAt K H C CW x wx rs many given sts := fun ⟨dx, xs, h⟩ => ⟨dx, l, xs, h⟩
theorem Slt.put {H : Hp} {p a C dx : Addr} {o : HO} {zs : List V} {vs : List (Option V)} (h : Slt H a C dx vs) (hp : H p = some (.lst zs)) : Slt (upd H p o) a C dx vs := by
  have ne : ∀ {q u}, H q = some u → (∀ xs, u ≠ .lst xs) → q ≠ p := fun e n z => by
    subst z
    rw [hp] at e
    exact n _ (Option.some.inj e).symm
  rcases h with ⟨h1, h2⟩ | ⟨h1, h2⟩
  · exact .inl ⟨by rw [upd_ne (ne h1 (fun _ z => by cases z))]; exact h1, h2⟩
  · exact .inr ⟨by rw [upd_ne (ne h1 slO_nolst)]; exact h1, by rw [upd_ne (ne h2 (fun _ z => by cases z))]; exact h2⟩
theorem CodL.put {K : PySem.W.Frag} {H : Hp} {C CW l x wx p : Addr} {o : HO} {zs : List V} {rs : List ActR} {many given : Int} {sts : List Sta} (h : CodL K H C CW l x wx rs many given sts) (hp : H p = some (.lst zs)) (hl : l ≠ p) (hW : WldAt K (upd H p o) CW wx rs) : CodL K (upd H p o) C CW l x wx rs many given sts := by
  obtain ⟨dx, xs, h1, _, h3, h4⟩ := h
  exact ⟨dx, xs, Slt.put h1 hp, hW, by rw [upd_ne hl]; exact h3, h4.mv (Mv.set (S := [p]) hp (by simp))⟩
theorem Bag.ne_sta {K : PySem.W.Frag} {H : Hp} {b l : Addr} {xs : List V} {sts : List Sta} (hB : Bag H b) (hl : H l = some (.lst xs)) (hx : Ims K H xs (sts.map Sta.d)) : l ≠ b := by
  rintro rfl
  obtain ⟨c, s, m, k, ns, h1, _⟩ := hB
  rw [h1] at hl
  have := Option.some.inj hl
  injection this with this
  subst this
  cases sts with
  | nil => have := hx.nilD; cases this
  | cons st sts =>
    obtain ⟨v, vs, e, h2, _⟩ := hx.invD
    cases e
    obtain ⟨y, e1, es, hst⟩ := sta_tup st
    rw [hst] at h2
    obtain ⟨a, xs, e, _⟩ := h2.tupI
    cases e
section
variable {K : PySem.W.Frag} {H H' : Hp} {b C CW x wx : Addr} {rs : List ActR} {many given : Int} {sts : List Sta}
theorem CodAt.mv (h : CodAt K H C CW x wx rs many given sts) (m : Mv [] H H') : CodAt K H' C CW x wx rs many given sts := by
  obtain ⟨dx, l, xs, h1, h2, h3, h4⟩ := h
  exact ⟨dx, l, xs, Slt.mv h1 m, h2.mv m, m.same _ _ h3, h4.mv m⟩
theorem CodL.dr {l : Addr} (h : CodL K H C CW l x wx rs many given sts) (m : Dr b H H') (hB : Bag H b) : CodL K H' C CW l x wx rs many given sts := by
  obtain ⟨dx, xs, h1, h2, h3, h4⟩ := h
  exact ⟨dx, xs, Slt.dr h1 m hB, h2.dr m hB, m.get (hB.ne_sta h3 h4) h3, h4.mv m.mv⟩
theorem CodAt.dr (h : CodAt K H C CW x wx rs many given sts) (m : Dr b H H') (hB : Bag H b) : CodAt K H' C CW x wx rs many given sts := by
  obtain ⟨dx, l, xs, h1, h2, h3, h4⟩ := h
  exact ⟨dx, l, xs, Slt.dr h1 m hB, h2.dr m hB, m.get (hB.ne_sta h3 h4) h3, h4.mv m.mv⟩
end
def sp_Code (K : PySem.W.Frag) (C CW : Addr) : Sp := fun vs H Q _ => ∃ (x dx wx sl : Addr) (rs : List ActR) (many given : Int) (xs : List V) (sts : List Sta) (H0 : Hp), vs = [.ref x, .ref wx, .int many, .int given, .ref sl] ∧ H = upd (upd H0 dx (.own x)) x (.ins C dx []) ∧ H0 x = none ∧ H0 dx = none ∧ dx ≠ x ∧
  WldAt K H0 CW wx rs ∧ WOk rs ∧ 0 ≤ many ∧ many ≤ 24 ∧ 0 ≤ given ∧ given ≤ many ∧ (H0 sl = some (.lst xs) ∨ SqT K H0 sl xs) ∧ Ims K H0 xs (sts.map Sta.d) ∧ (∀ st ∈ sts, st.ok rs many sts.length) ∧ 0 < sts.length ∧ sts.length ≤ 1000 ∧
  ∀ l H', Mv [] H0 H' → H0 l = none → CodL K H' C CW l x wx rs many given (sts.map Sta.ord) → Q .non H'
theorem Mv.seq {K : PySem.W.Frag} {H H' : Hp} {a : Addr} {xs : List V} (m : Mv [] H H') (h : SqL K H a xs ∨ SqT K H a xs) : SqL K H' a xs ∨ SqT K H' a xs := h.imp (fun h => m.same.seq h) fun h => m.sqT h
section
variable {P : Program} {w : World} {K : PySem.W.Frag} {mg : Str → Option Value} {base : Heap}
end
end Fm
namespace Fm
open PySem PySem.Spec PyProof.Rows L2 SlX
local macro_rules | `(tactic| walk_at "nn") => `(tactic| dsimp only [tC, tNil, tCons, tCB, tCall, gName, tSeq, tAsg, tPar, tDrop, tRet])
local macro_rules | `(tactic| walk_at "nc") => `(tactic| dsimp only [tC, tNil, tCons, tCB, tCall])
def sp_stAt (K : PySem.W.Frag) (C CW D : Addr) : Sp := fun vs H Q E => ∃ (x wx : Addr) (rs : List ActR) (many given : Int) (sts : List Sta) (i : Int), vs = [.ref x, .int i] ∧ CodAt K H C CW x wx rs many given sts ∧
  (0 ≤ i → i < sts.length → ∀ v st H', sts[i.toNat]? = some st → Mv [] H H' → Im K H' v st.d → Q v H') ∧
  (¬ (0 ≤ i ∧ i < sts.length) → ∀ d H', Mv [] H H' → H' d = none → E (.ref D) (some d) (upd H' d (.xd [("place", .int i)])))
def isSet (sts : List Sta) (p : Int) : Bool := match sts[p.toNat]? with
  | some (.set _ _) => true
  | _ => false
def stp (sts : List Sta) (p : Int) : Int := match sts[p.toNat]? with
  | some (.set _ g) => g
  | _ => p
def orb (sts : List Sta) (p : Int) : Nat → Int
  | 0 => p
  | n + 1 => stp sts (orb sts p n)
def Shows (sts : List Sta) (p : Int) : Option Int → Prop
  | some q => ∃ n, orb sts p n = q ∧ isSet sts q = false
  | none => ∀ n, isSet sts (orb sts p n) = true
def optV : Option Int → V
  | some i => .int i
  | none => .non
def sp_showing (K : PySem.W.Frag) (C CW D : Addr) : Sp := fun vs H Q E => ∃ (x wx : Addr) (rs : List ActR) (many given : Int) (sts : List Sta) (i : Int), vs = [.ref x, .int i] ∧ CodAt K H C CW x wx rs many given sts ∧ sts.length ≤ 1000 ∧ (∀ chs g, Sta.set chs g ∈ sts → 0 ≤ g ∧ g < sts.length) ∧
  (0 ≤ i → i < sts.length → ∀ r H', Shows sts i r → Mv [] H H' → Q (optV r) H') ∧
  (¬ (0 ≤ i ∧ i < sts.length) → ∀ d H', Mv [] H H' → H' d = none → E (.ref D) (some d) (upd H' d (.xd [("place", .int i)])))
section
variable {P : Program} {w : World} {K : PySem.W.Frag} {mg : Str → Option Value} {base : Heap}
end
end Fm
namespace Fm
open PySem PySem.Spec PyProof.Rows L2 SlX
local macro_rules | `(tactic| walk_at "nn") => `(tactic| dsimp only [tC, tNil, tCons, tCB, tCall, gName, tSeq, tAsg, tPar, tDrop, tRet])
local macro_rules | `(tactic| walk_at "nc") => `(tactic| dsimp only [tC, tNil, tCons, tCB, tCall])
def fit (i : Int) : Prop := i.natAbs < 10 ^ 40
structure VsOk (us : List Tm) : Prop where
  ok : Tm.oks fit us
  dp : Tm.deps us ≤ 50
  nd : Tm.nod us ≤ 10000
structure TsOk (many : Int) (ts : List Tm) : Prop where
  ok : Tm.oks (fun i => 0 ≤ i ∧ i < many) ts
  dp : Tm.deps ts ≤ 50
  nd : Tm.nod ts ≤ 10000
theorem Tm.nod_mem {t : Tm} {ts : List Tm} (h : t ∈ ts) : Tm.nod [t] ≤ Tm.nod ts := by
  have h1 := Tm.size_le h
  have h2 := Tm.lv_mem h
  simp only [Tm.nod, Tm.sizes, Tm.lvs]
  omega
theorem VsOk.one {us : List Tm} (h : VsOk us) {t : Tm} (ht : t ∈ us) : Tm.oks fit [t] ∧ Tm.deps [t] ≤ 50 ∧ Tm.nod [t] ≤ 10000 := by
  refine ⟨⟨Tm.oks_iff.mp h.ok t ht, trivial⟩, ?_, Nat.le_trans (Tm.nod_mem ht) h.nd⟩
  have := Tm.deps_le.mp h.dp t ht
  simp only [Tm.deps]
  omega
def sp_putAll (K : PySem.W.Frag) (d : Nat) : Sp := fun vs H Q _ => ∃ (a c : Addr) (xs ys : List V) (ts us : List Tm), vs = [.ref a, .ref c] ∧ (SqL K H a xs ∨ SqT K H a xs) ∧ Ims K H xs (Tm.ds ts) ∧ (SqL K H c ys ∨ SqT K H c ys) ∧ Ims K H ys (Tm.ds us) ∧
  Tm.oks (fun i => 0 ≤ i ∧ i < us.length) ts ∧ Tm.deps ts < d ∧ ts.length ≤ 1000 ∧ ∀ p zs H', Mv [] H H' → SqT K H' p zs → Ims K H' zs (Tm.ds (ts.map (Tm.put (vat us)))) → Q (.ref p) H'
def sp_sizePut (K : PySem.W.Frag) : Sp := fun vs H Q _ => ∃ (a c : Addr) (xs ys : List V) (ts us : List Tm), vs = [.ref a, .ref c] ∧ (SqL K H a xs ∨ SqT K H a xs) ∧ Ims K H xs (Tm.ds ts) ∧ (SqL K H c ys ∨ SqT K H c ys) ∧ Ims K H ys (Tm.ds us) ∧
  TsOk us.length ts ∧ VsOk us ∧ us.length ≤ 1000 ∧ ∀ H', Mv [] H H' → Q (.int (Tm.sizes (ts.map (Tm.put (vat us))))) H'
section
variable {P : Program} {w : World} {K : PySem.W.Frag} {mg : Str → Option Value} {base : Heap}
end
end Fm
namespace Fm
open PySem PySem.Spec PyProof.Rows L2
theorem paired_snoc {α β : Type} {F : α → β → Prop} : ∀ {l₁ : List α} {l₂ : List β} {a : α} {b : β}, Paired F l₁ l₂ → F a b → Paired F (l₁ ++ [a]) (l₂ ++ [b])
  | _, _, _, _, .nil, h => .cons h .nil
  | _, _, _, _, .cons x t, h => .cons x (paired_snoc t h)
theorem paired_len {α β : Type} {F : α → β → Prop} : ∀ {l₁ : List α} {l₂ : List β}, Paired F l₁ l₂ → l₁.length = l₂.length
  | _, _, .nil => rfl
  | _, _, .cons _ t => by simp [paired_len t]
theorem paired_bl {f : Th → Bool} : ∀ {ys : List V} {ts : List Th}, Paired (fun y t => y = V.bl (f t)) ys ts → ys = (ts.map f).map V.bl
  | _, _, .nil => rfl
  | _, _, .cons h t => by rw [h, paired_bl t]; rfl
theorem lc_th {K : PySem.W.Frag} {a b : Addr} {xs : List V} {ts : List Th} {g : TG} {tt : TT} {te : TE} {vs : List Nat} {σ : L2.St} {H : Hp} {Qd : Addr → Hp → Prop} (c : Th → Bool) (Rel : V → Th → Prop) (hS : SqL K H a xs ∨ SqT K H a xs) (hI : IsAll K b H xs ts) (hlen : ts.length ≤ 90000)
    (hs : ∀ x t H' (Q : VK) (R : Hp → Prop), t ∈ ts → Is K b H x t → Mv [] H H' → (c t = true → ∀ y H4, Rel y t → Mv [] H' H4 → Q y H4) → (c t = false → ∀ H4, Mv [] H' H4 → R H4) →
      g x (wipe σ vs) H' fun σ2 H2 => wipe σ2 vs = wipe σ vs ∧ tt σ2 H2 fun k H3 => if k = true then te σ2 H3 Q else R H3)
    (hd : ∀ D ys H', H D = none → H' D = some (.lst ys) → Paired Rel ys (ts.filter c) → Mv [] H H' → Qd D H') :
    ((∃ xs, SqL K H a xs) ∧ ∀ D, H D = none → ∃ W : Nat → Nat → Hp → Prop, (∃ m, W 0 m (upd H D (.lst []))) ∧ ∀ i m H, W i m H →
      ((Itl K a).stop i H ∧ Qd D H) ∨ ((Itl K a).go i H ∧ ∃ Nx : Hp → Prop, (∀ H', Nx H' → ∃ m', m' < m ∧ W (i + 1) m' H') ∧ ∀ x H', (Itl K a).yld i H x H' → g x (wipe σ vs) H' fun σ2 H2 => wipe σ2 vs = wipe σ vs ∧ tt σ2 H2 fun k H3 =>
        if k = true then te σ2 H3 fun y H4 => ∃ acc, H4 D = some (.lst acc) ∧ acc.length < sizeLine ∧ Nx (upd H4 D (.lst (acc ++ [y]))) else Nx H3)) ∨
    ((∃ xs, SqT K H a xs) ∧ ∀ D, H D = none → ∃ W : Nat → Nat → Hp → Prop, (∃ m, W 0 m (upd H D (.lst []))) ∧ ∀ i m H, W i m H →
      ((Itt K a).stop i H ∧ Qd D H) ∨ ((Itt K a).go i H ∧ ∃ Nx : Hp → Prop, (∀ H', Nx H' → ∃ m', m' < m ∧ W (i + 1) m' H') ∧ ∀ x H', (Itt K a).yld i H x H' → g x (wipe σ vs) H' fun σ2 H2 => wipe σ2 vs = wipe σ vs ∧ tt σ2 H2 fun k H3 =>
        if k = true then te σ2 H3 fun y H4 => ∃ acc, H4 D = some (.lst acc) ∧ acc.length < sizeLine ∧ Nx (upd H4 D (.lst (acc ++ [y]))) else Nx H3)) := by
  have hxl := hI.length
  refine lc_seq hS (fun i D H1 => ∃ ys, H1 D = some (.lst ys) ∧ Paired Rel ys ((ts.take i).filter c) ∧ Mv [] H H1)
    (fun D nD => ⟨[], upd_same, .nil, .new nD⟩) (fun i D H1 nD h1 => h1.choose_spec.2.2) (fun D nD i x H1 hx h1 => ?_) (fun D H1 nD h1 => ?_)
  · obtain ⟨ys, e1, i1, m1⟩ := h1
    obtain ⟨t, ht, him⟩ := hI.get hx
    have hil := (List.getElem?_eq_some_iff.mp ht).1
    have htk : ts.take (i + 1) = ts.take i ++ [t] := by rw [List.take_add_one, ht]; rfl
    refine hs x t H1 _ _ (List.mem_of_getElem? ht) him m1 (fun hc y H4 hy m4 => ?_) (fun hc H3 m3 => ?_)
    · have e4 := m4.same _ _ e1
      refine ⟨ys, e4, ?_, ys ++ [y], upd_same, ?_, (m1.trans m4).wr nD⟩
      · rw [paired_len i1]
        have h3 : ((ts.take i).filter c).length ≤ (ts.take i).length := List.length_filter_le _ _
        rw [List.length_take] at h3
        exact Nat.lt_of_le_of_lt (show _ ≤ 90000 by omega) (by decide)
      · rw [htk, List.filter_append]
        simp only [List.filter_cons, hc, if_true, List.filter_nil]
        exact paired_snoc i1 hy
    · refine ⟨ys, m3.same _ _ e1, ?_, m1.trans m3⟩
      rw [htk, List.filter_append]
      simp only [List.filter_cons, hc, Bool.false_eq_true, if_false, List.filter_nil, List.append_nil]
      exact i1
  · obtain ⟨ys, e1, i1, m1⟩ := h1
    rw [hxl, List.take_length] at i1
    exact hd D ys H1 nD e1 i1 m1
end Fm
namespace Fm
open PySem PySem.Spec PyProof.Rows L2 SlX
local macro_rules | `(tactic| walk_at "nn") => `(tactic| dsimp only [tC, tNil, tCons, tCB, tCall, gName, tSeq, tAsg, tPar, tDrop, tRet])
local macro_rules | `(tactic| walk_at "nc") => `(tactic| dsimp only [tC, tNil, tCons, tCB, tCall])
inductive RcV (K : PySem.W.Frag) (b C : Addr) (H : Hp) : V → Option (List V × List Th) → Prop
  | lst {a : Addr} {xs : List V} {ts : List Th} : a ≠ b → H a = some (.lst xs) → IsAll K b H xs ts → RcV K b C H (.ref a) (some (xs, ts))
  | tup {a : Addr} {xs : List V} {ts : List Th} : SqT K H a xs → IsAll K b H xs ts → RcV K b C H (.ref a) (some (xs, ts))
  | odd {v : V} {t : Th} : Is K b H v t → isLstT t = false → isTupT t = false → RcV K b C H v none
  | ins {a dx : Addr} {vs : List (Option V)} : Slt H a C dx vs → RcV K b C H (.ref a) none
def recWrong (tm : Th) (rows : Option (List V × List Th)) : Option Nat :=
  match tm with
  | .int many => if many < 0 then some 0 else match rows with
    | some r => if (r.2.all fun t => isTerm t && under many t) = true then none else some 1
    | none => some 1
  | _ => some 0
def RecAt (K : PySem.W.Frag) (H : Hp) (C x : Addr) (many : Int) (ts : List Tm) : Prop := ∃ dx p xs, Slt H x C dx [some (.ref p), some (.int many)] ∧ SqT K H p xs ∧ Ims K H xs (Tm.ds ts)
section
variable {K : PySem.W.Frag} {H H' : Hp} {b C x : Addr}
theorem RcV.mv0 {v : V} {o : Option (List V × List Th)} (h : RcV K b C H v o) (m : Mv [] H H') : RcV K b C H' v o := by
  cases h with
  | lst h0 h1 h2 => exact .lst h0 (m.same _ _ h1) (h2.mv0 m)
  | tup h1 h2 => exact .tup (m.sqT h1) (h2.mv0 m)
  | odd h h1 h2 => exact .odd (h.mv0 m) h1 h2
  | ins h => exact .ins (Slt.mv h m)
theorem RecAt.mv {many : Int} {ts : List Tm} (h : RecAt K H C x many ts) (m : Mv [] H H') : RecAt K H' C x many ts := by
  obtain ⟨dx, p, xs, h1, h2, h3⟩ := h
  exact ⟨dx, p, xs, Slt.mv h1 m, m.sqT h2, h3.mv m⟩
theorem RecAt.dr {many : Int} {ts : List Tm} (h : RecAt K H C x many ts) (m : Dr b H H') (hB : Bag H b) : RecAt K H' C x many ts := by
  obtain ⟨dx, p, xs, h1, h2, h3⟩ := h
  exact ⟨dx, p, xs, Slt.dr h1 m hB, m.mv.sqT h2, h3.mv m.mv⟩
theorem rd_isTX {v : V} {o : Option (List V × List Th)} {p : Addr} {Q : VK} (h : RcV K b C H v o) (hp : H p = some (.tup [.ty "list", .ty "tuple"])) (hc : SCls K C) (hi : SIsi K C) (hn : PySem.W.kitAny K (.ref C) [.type "list", .type "tuple"] = some false) (q : Q (.bl o.isSome) H) : rIsiTX K [v, .ref p] H Q := by
  have key : (∃ t c, TyX K H v t ∧ PySem.W.kitAny K t [.type "list", .type "tuple"] = some c ∧ c = o.isSome) ∨ ∃ a dx vs, v = .ref a ∧ Slt H a C dx vs ∧ o = none := by
    cases h with
    | lst h0 h1 h2 => exact .inl ⟨_, true, .base (.lst h1), kitAny_cons (b := true) (kit_ty (b := "list") (by decide +kernel)) (fun z => by cases z) (fun _ => rfl), rfl⟩
    | tup h1 h2 => exact .inl ⟨_, true, tyx_sqT h1, kitAny_cons (r := true) (kit_ty (a := "tuple") (b := "list") (r := false) (by decide +kernel)) (fun _ => kitAny_cons (b := true) (kit_ty (by decide +kernel)) (fun z => by cases z) (fun _ => rfl)) (fun z => by cases z), rfl⟩
    | @odd _ t h h1 h2 =>
      refine .inl ⟨_, false, tyx_is h, kitAny_cons (kit_ty (kit_lst t)) (fun _ => kitAny_cons (kit_ty (kit_tup t)) (fun _ => rfl) (fun e => ?_)) (fun e => ?_), rfl⟩
      · rw [h2] at e
        cases e
      · rw [h1] at e
        cases e
    | ins h => exact .inr ⟨_, _, _, rfl, h, rfl⟩
  rcases key with ⟨t, c, ht, hk, rfl⟩ | ⟨a, dx, vs, rfl, hs, rfl⟩
  · exact .inl ⟨_, p, _, t, [.type "list", .type "tuple"], o.isSome, rfl, hp, .cons (.ty "list") (.cons (.ty "tuple") .nil), ht, hk, q⟩
  · exact .inr ⟨a, C, dx, vs, p, _, [.type "list", .type "tuple"], false, rfl, hp, .cons (.ty "list") (.cons (.ty "tuple") .nil), hs, hc, hi, hn, q⟩
end
def sp_RecT (K : PySem.W.Frag) (C EW : Addr) : Sp := fun vs H Q E => ∃ (x dx : Addr) (mv tv : V) (b : Addr) (tm : Th) (rows : Option (List V × List Th)) (H0 : Hp), vs = [.ref x, mv, tv] ∧ H = upd (upd H0 dx (.own x)) x (.ins C dx []) ∧ H0 x = none ∧ H0 dx = none ∧ dx ≠ x ∧
  Is K b H0 mv tm ∧ RcV K b C H0 tv rows ∧ (∀ r, rows = some r → r.2.length ≤ 90000 ∧ ∀ t ∈ r.2, t.cnt ≤ 90000) ∧
  (∀ k : Nat, recWrong tm rows = some k → ∀ dd H', Mv [] H0 H' → H' dd = none → E (.ref EW) (some dd) (upd H' dd (.xd [("place", .int (k : Nat))]))) ∧
  ∀ many r, tm = .int many → rows = some r → recWrong tm rows = none → ∀ p H', Mv [] H0 H' → Slt H' x C dx [some (.ref p), some (.int many)] → SqT K H' p r.1 → Q .non H'
section
variable {P : Program} {w : World} {K : PySem.W.Frag} {mg : Str → Option Value} {base : Heap}
end
end Fm
namespace Fm
open PySem PySem.Spec PyProof.Rows L2
open AutoSeq1 (wpAny_loadPart')
open PySem.MeetsSeq PySem.MeetsSeq2 PySem.MeetsSeq3 PySem.SeqRoads2
def EqW (prog : Program) (w : PySem.World) (A : Around) (s : Shared) (y x : Value) (b : Bool) : Prop := ∀ (E : Value → Shared → Prop) (Q : Bool → Shared → Prop), Q b s → wpAny (model prog w) A (eqBool y x) Q E s
section
variable {prog : Program} {w : PySem.World} {A : Around} {s : Shared} {E : Value → Shared → Prop}
end
inductive HitsW (prog : Program) (w : PySem.World) (A : Around) (s : Shared) (kb : List (L2.Key × Value)) : List (L2.Key × Value) → Bool → Prop
  | done : HitsW prog w A s kb [] true
  | lacks {k : L2.Key} {v : Value} {r : List (L2.Key × Value)} : valueAt kb k = none → HitsW prog w A s kb ((k, v) :: r) false
  | meets {k : L2.Key} {v y : Value} {r : List (L2.Key × Value)} {e b : Bool} : valueAt kb k = some y → EqW prog w A s v y e → HitsW prog w A s kb r b → HitsW prog w A s kb ((k, v) :: r) (e && b)
section
variable {prog : Program} {w : PySem.World} {A : Around} {s : Shared} {E : Value → Shared → Prop}
theorem HitsW.inv {kb r : List (L2.Key × Value)} {k : L2.Key} {v : Value} {b : Bool} (h : HitsW prog w A s kb ((k, v) :: r) b) : (valueAt kb k = none ∧ b = false) ∨ ∃ y e b', valueAt kb k = some y ∧ EqW prog w A s v y e ∧ HitsW prog w A s kb r b' ∧ b = (e && b') := by
  cases h with
  | lacks h => exact .inl ⟨h, rfl⟩
  | meets h1 h2 h3 => exact .inr ⟨_, _, _, h1, h2, h3, rfl⟩
end
end Fm
namespace Fm
open PySem PySem.Spec PyProof.Rows L2
def lk (b : List (Str × Int)) (x : Str) : Option Int := (b.find? fun e => decide (e.1 = x)).map (·.2)
def hitO (b : List (Str × Int)) (e : Str × Int) : Bool := match lk b e.1 with
  | some j => e.2 == j
  | none => false
def outsEq (a b : List (Str × Int)) : Bool := a.length == b.length && a.all (hitO b)
def actEq (r q : ActR) : Bool := r.ar == q.ar && outsEq r.outs q.outs
def hitA (qs : List ActR) (r : ActR) : Bool := match qs.find? fun q => decide (q.nm = r.nm) with
  | some q => actEq r q
  | none => false
def rsEq (rs qs : List ActR) : Bool := rs.length == qs.length && rs.all (hitA qs)
section
variable {X : Cx} {pins : List (Addr × Obj)} {σ : L2.St} {H : Hp} {s : Shared}
def rEqA (K : PySem.W.Frag) : R2 := fun x y H Q => ∃ d e zs ys, x = .ref d ∧ y = .ref e ∧ ActsAt K H d zs ∧ ActsAt K H e ys ∧ Q (.bl (rsEq (zs.map (·.r)) (ys.map (·.r)))) H
end
end Fm
namespace Fm
open PySem PySem.Spec PyProof.Rows L2 SlX
local macro_rules | `(tactic| walk_at "nn") => `(tactic| dsimp only [tC, tNil, tCons, tCB, tCall, gName, tSeq, tAsg, tPar, tDrop, tRet])
local macro_rules | `(tactic| walk_at "nc") => `(tactic| dsimp only [tC, tNil, tCons, tCB, tCall])
def rIsiX (K : PySem.W.Frag) (u : Value) : List V → Hp → VK → Prop := fun xs H Q => rIsiSl K u xs H Q ∨ rIsi K xs H Q
theorem call_isiX {X : Cx} (u : Value) : CallR X (.builtin "isinstance") (rIsiX X.K u) := CallR.or (call_isiSl u) call_isi
def plainTy (T : String) : Bool := match fastBuiltinMro T with
  | some l => l.all fun v => match v with | .ref _ => false | _ => true
  | none => false
theorem sub_plain {K : PySem.W.Frag} {T : String} {C : Addr} (h : plainTy T = true) : PySem.W.subIn K (.type T) (.ref C) = some false := by
  unfold plainTy at h
  show (fastBuiltinMro T).map _ = some false
  cases e : fastBuiltinMro T with
  | none => rw [e] at h; cases h
  | some l =>
    rw [e] at h
    show some (l.contains (.ref C)) = some false
    congr 1
    cases hc : l.contains (.ref C) with
    | false => rfl
    | true =>
      have hm : Value.ref C ∈ l := by simpa using hc
      have := List.all_eq_true.mp h _ hm
      cases this
theorem kitOne_plain {K : PySem.W.Frag} {T : String} {C : Addr} (h : plainTy T = true) (hc : PySem.W.isClsIn K C = true) (ht : PySem.W.typeIn K (.ref C) = some (.type "type")) : PySem.W.kitOne K (.type T) (.ref C) = some false := by
  unfold PySem.W.kitOne
  rw [if_neg (by simp)]
  show (if _ then _ else _) = _
  rw [if_pos ?_]
  · exact sub_plain h
  · rw [ht]
    unfold PySem.W.isClsIn at hc
    simp [hc]
def sp_WorldEq (K : PySem.W.Frag) (C : Addr) : Sp := fun vs H Q _ => ∃ (x : Addr) (rs : List ActR) (y : V), vs = [.ref x, y] ∧ WldAt K H C x rs ∧
  ((∃ x2 rs2, y = .ref x2 ∧ WldAt K H C x2 rs2 ∧ Q (.bl (rsEq rs rs2)) H) ∨ ∃ T, TyX K H y (.type T) ∧ plainTy T = true ∧ Q (.bl false) H)
section
variable {P : Program} {w : World} {K : PySem.W.Frag} {mg : Str → Option Value} {base : Heap}
end
end Fm
namespace Fm
open PySem PySem.Spec PyProof.Rows L2 SlX
local macro_rules | `(tactic| walk_at "nn") => `(tactic| dsimp only [tC, tNil, tCons, tCB, tCall, gName, tSeq, tAsg, tPar, tDrop, tRet])
local macro_rules | `(tactic| walk_at "nc") => `(tactic| dsimp only [tC, tNil, tCons, tCB, tCall])
def tsD (ts : List Tm) : PyData := .tuple (Tm.ds ts)
def over (n : Int) (i : Int) : Prop := 0 ≤ i ∧ i < n
def varsT (n : Nat) : List Tm := (List.range n).map fun i => Tm.var (i : Nat)
def sp_Recvars (K : PySem.W.Frag) (C : Addr) : Sp := fun vs H Q _ => ∃ (x : Addr) (many : Int) (ts : List Tm), vs = [.ref x] ∧ RecAt K H C x many ts ∧ Q (.int many) H
def sp_Recterms (K : PySem.W.Frag) (C : Addr) : Sp := fun vs H Q _ => ∃ (x : Addr) (many : Int) (ts : List Tm), vs = [.ref x] ∧ RecAt K H C x many ts ∧ ∀ v, Im K H v (tsD ts) → Q v H
def sp_Reclen (K : PySem.W.Frag) (C : Addr) : Sp := fun vs H Q _ => ∃ (x : Addr) (many : Int) (ts : List Tm), vs = [.ref x] ∧ RecAt K H C x many ts ∧ Q (.int ts.length) H
def sp_Reckeep (K : PySem.W.Frag) (C : Addr) : Sp := fun vs H Q _ => ∃ (many : Int), vs = [.int many] ∧ 0 ≤ many ∧ many ≤ 1000 ∧ ∀ x H', Mv [] H H' → RecAt K H' C x many (varsT many.toNat) → Q (.ref x) H'
def sp_Reccall (K : PySem.W.Frag) (C : Addr) (d : Nat) : Sp := fun vs H Q _ => ∃ (x c : Addr) (many : Int) (ts us : List Tm) (ys : List V), vs = [.ref x, .ref c] ∧ RecAt K H C x many ts ∧ (SqL K H c ys ∨ SqT K H c ys) ∧ Ims K H ys (Tm.ds us) ∧
  Tm.oks (fun i => 0 ≤ i ∧ i < us.length) ts ∧ Tm.deps ts < d ∧ ts.length ≤ 1000 ∧ ∀ v H', Mv [] H H' → Im K H' v (tsD (ts.map (Tm.put (vat us)))) → Q v H'
def sp_Recmul (K : PySem.W.Frag) (C EU : Addr) (d : Nat) : Sp := fun vs H Q E => ∃ (x y : Addr) (many wide : Int) (ts us : List Tm), vs = [.ref x, .ref y] ∧ RecAt K H C x many ts ∧ RecAt K H C y wide us ∧ 0 ≤ many ∧ ts.length ≤ 1000 ∧
  (wide ≠ ts.length → E (.ref EU) none H) ∧
  (wide = ts.length → Tm.oks (fun i => 0 ≤ i ∧ i < many) ts ∧ Tm.oks (fun i => 0 ≤ i ∧ i < ts.length) us ∧ Tm.deps us < d ∧ us.length ≤ 1000 ∧ (∀ t ∈ us.map (Tm.put (vat ts)), t.cst + t.lv ≤ 90000) ∧ ∀ z H', Mv [] H H' → RecAt K H' C z many (us.map (Tm.put (vat ts))) → Q (.ref z) H')
def recEq (many many2 : Int) (ts ts2 : List Tm) : Bool := decide (many = many2) && PyData.eqv (tsD ts) (tsD ts2)
def sp_RecipeEq (K : PySem.W.Frag) (C : Addr) : Sp := fun vs H Q _ => ∃ (x : Addr) (many : Int) (ts : List Tm) (y : V), vs = [.ref x, y] ∧ RecAt K H C x many ts ∧ SeqAt.shaped (tsD ts) = true ∧
  ((∃ x2 many2 ts2, y = .ref x2 ∧ RecAt K H C x2 many2 ts2 ∧ SeqAt.shaped (tsD ts2) = true ∧ Q (.bl (recEq many many2 ts ts2)) H) ∨ (∃ T, TyX K H y (.type T) ∧ plainTy T = true ∧ Q (.bl false) H))
def recText (many : Int) (ts : List Tm) : Str := Str.ofString "Recipe(" ++ (PyData.int many).shown ++ Str.ofString ", " ++ (tsD ts).shown ++ Str.ofString ")"
def sp_Recrepr (K : PySem.W.Frag) (C : Addr) : Sp := fun vs H Q _ => ∃ (x : Addr) (many : Int) (ts : List Tm), vs = [.ref x] ∧ RecAt K H C x many ts ∧ many.natAbs < 10 ^ 40 ∧ Shw (tsD ts) ∧ Q (.str (recText many ts)) H
theorem ths_map : ∀ ts : List Tm, Tm.ths ts = ts.map Tm.th
  | [] => by simp [Tm.ths]
  | t :: ts => by simp [Tm.ths, ths_map ts]
def vv : Tm → V
  | .var i => .int i
  | _ => .non
theorem RecAt.tm {K : PySem.W.Frag} {H : Hp} {C x : Addr} {many : Int} {ts : List Tm} (h : RecAt K H C x many ts) : ∃ dx p xs, Slt H x C dx [some (.ref p), some (.int many)] ∧ SqT K H p xs ∧ Ims K H xs (Tm.ds ts) ∧ xs.length = ts.length := by
  obtain ⟨dx, p, xs, h1, h2, h3⟩ := h
  exact ⟨dx, p, xs, h1, h2, h3, by rw [h3.length, Tm.ds_map, List.length_map]⟩
section
variable {P : Program} {w : World} {K : PySem.W.Frag} {mg : Str → Option Value} {base : Heap}
end
end Fm
namespace Fm
open PySem PySem.Spec PyProof.Rows L2 SlX
local macro_rules | `(tactic| walk_at "nn") => `(tactic| dsimp only [tC, tNil, tCons, tCB, tCall, gName, tSeq, tAsg, tPar, tDrop, tRet])
local macro_rules | `(tactic| walk_at "nc") => `(tactic| dsimp only [tC, tNil, tCons, tCB, tCall])
def areT : Option (List V × List Th) → Bool
  | some r => r.2.all isTerm
  | none => false
def sp_areT (K : PySem.W.Frag) (C : Addr) : Sp := fun vs H Q _ => ∃ (v : V) (b : Addr) (rows : Option (List V × List Th)), vs = [v] ∧ RcV K b C H v rows ∧ (∀ r, rows = some r → r.2.length ≤ 90000 ∧ ∀ t ∈ r.2, t.cnt ≤ 90000) ∧ ∀ H', Mv [] H H' → Q (.bl (areT rows)) H'
def PatAt (K : PySem.W.Frag) (H : Hp) (C x : Addr) (ts : List Tm) : Prop := ∃ dx p xs, Slt H x C dx [some (.ref p)] ∧ SqT K H p xs ∧ Ims K H xs (Tm.ds ts)
theorem PatAt.mv {K : PySem.W.Frag} {H H' : Hp} {C x : Addr} {ts : List Tm} (h : PatAt K H C x ts) (m : Mv [] H H') : PatAt K H' C x ts := by
  obtain ⟨dx, p, xs, h1, h2, h3⟩ := h
  exact ⟨dx, p, xs, Slt.mv h1 m, m.sqT h2, h3.mv m⟩
theorem PatAt.dr {K : PySem.W.Frag} {H H' : Hp} {C x b : Addr} {ts : List Tm} (h : PatAt K H C x ts) (m : Dr b H H') (hB : Bag H b) : PatAt K H' C x ts := by
  obtain ⟨dx, p, xs, h1, h2, h3⟩ := h
  exact ⟨dx, p, xs, Slt.dr h1 m hB, m.mv.sqT h2, h3.mv m.mv⟩
structure PtF (ts : List Tm) : Prop where
  ok : Tm.oks (fun i => 0 ≤ i ∧ i.natAbs < 10 ^ 40) ts
  dep : Tm.deps ts ≤ 50
  nod : Tm.nod ts ≤ 4000
def sp_Pat (K : PySem.W.Frag) (C EW : Addr) : Sp := fun vs H Q E => ∃ (x dx : Addr) (tv : V) (H0 : Hp), vs = [.ref x, tv] ∧ H = upd (upd H0 dx (.own x)) x (.ins C dx []) ∧ H0 x = none ∧ H0 dx = none ∧ dx ≠ x ∧
  ((∃ (a : Addr) (xs : List V) (ts : List Tm), tv = .ref a ∧ (H0 a = some (.lst xs) ∨ SqT K H0 a xs) ∧ Ims K H0 xs (Tm.ds ts) ∧ PtF ts ∧ ∀ H', Mv [] H0 H' → PatAt K H' C x (canon (Tm.gts ts)) → Q .non H') ∨
   (∃ (b : Addr) (rows : Option (List V × List Th)), RcV K b C H0 tv rows ∧ (∀ r, rows = some r → r.2.length ≤ 90000 ∧ ∀ t ∈ r.2, t.cnt ≤ 90000) ∧ areT rows = false ∧ ∀ dd H', Mv [] H0 H' → H' dd = none → E (.ref EW) (some dd) (upd H' dd (.xd [("place", .int 0)]))))
mutual
theorem th_nod : ∀ t : Tm, t.th.cnt ≤ 2 * t.size + t.lv
  | .var i => by simp [Tm.th, Th.cnt, Tm.lv]
  | .op x ts => by
    have := ths_nod ts
    simp only [Tm.th, Th.cnt, Th.cnts, Tm.size, Tm.lv]
    omega
theorem ths_nod : ∀ ts : List Tm, Th.cnts (Tm.ths ts) ≤ 2 * Tm.sizes ts + Tm.lvs ts
  | [] => by simp [Tm.ths, Th.cnts]
  | t :: ts => by
    have h1 := th_nod t
    have h2 := ths_nod ts
    simp only [Tm.ths, Th.cnts, Tm.sizes, Tm.lvs]
    omega
end
theorem th_small : ∀ {ts : List Tm} {u : Tm}, u ∈ ts → u.th.cnt ≤ 2 * Tm.nod ts
  | t :: ts, u, h => by
    unfold Tm.nod
    simp only [Tm.sizes, Tm.lvs]
    rcases List.mem_cons.mp h with rfl | h
    · have := th_nod u
      omega
    · have := th_small h
      unfold Tm.nod at this
      omega
section
variable {P : Program} {w : World} {K : PySem.W.Frag} {mg : Str → Option Value} {base : Heap}
theorem ok_are_terms (T : TX K mg) {k : Nat} : FnOk P w K mg base CX0 (k + 3) T.d_are_terms.f T.d_are_terms.fd P_are_terms (sp_areT K T.C_Pattern) := by
  have G_is_term : FnOk P w K mg base CX0 2 T.d_is_term.f T.d_is_term.fd P_is_term (sp_isTerm K) := ok_is_term T
  refine T.d_are_terms.F.ok sc_are_terms (fun vs H Q E h => ?_) (fun cdv A outer s H vs Q E hr h => ?_)
  · obtain ⟨_, _, _, rfl, _⟩ := h
    rfl
  · obtain ⟨v, b, rows, rfl, hT, hbd, q⟩ := h
    refine ⟨_, (pss_one (ps_ret (pe_and (pe_callB (r := rIsiTX K) call_isiTX (by rfl) T.b_isinstance bt_isinstance (pa_cons (pv 0) (pa_cons (pe_tup (pa_cons (pe_ty T.b_list bt_list) (pa_cons (pe_ty T.b_tuple bt_tuple) pa_nil))) pa_nil))) (pe_one (pe_callB (r := rAll K) (cr_all rfl) (by rfl) T.b_all bt_all (pa_cons (pe_lc (own := [("one", 1)]) (g := gName 1) (by rfl) sc_are_terms.nd (pi_seq (pv 0)) (blkOk_by (own := [("one", 1)]) (N := N_are_terms) (sc := defScope s_are_terms) (by decide +kernel)) (fun _ _ _ _ _ => pg_name (i := 1) sc_are_terms.nd rfl (Or.inl rfl)) (fun _ _ _ _ _ => pts_nil) (fun _ _ _ _ _ => (pe_call G_is_term (hr.mono (by omega)) rfl T.d_is_term.g T.d_is_term.F.kp T.d_is_term.b .nil pass0 (pa_cons (pv 1) pa_nil)))) pa_nil)))))), ?_⟩
    refine ⟨v, rfl, (by decide : 2 ≤ sizeLine), fun p5 np5 => ?_⟩
    have m5 : Mv [] H (upd H p5 (.tup [.ty "list", .ty "tuple"])) := .new np5
    have e5 : upd H p5 (.tup [.ty "list", .ty "tuple"]) p5 = some (.tup [.ty "list", .ty "tuple"]) := upd_same
    generalize upd H p5 (.tup [.ty "list", .ty "tuple"]) = H5 at m5 e5 ⊢
    walk_at "nn"
    refine rd_isTX (hT.mv0 m5) e5 T.c_Pattern T.is_Pattern (kitAny_no T.nl_Pattern T.nt_Pattern) ?_
    refine ⟨_, rfl, ?_⟩
    cases rows with
    | none => exact q H5 m5
    | some r =>
      obtain ⟨xs, ts⟩ := r
      obtain ⟨sl, rfl, hSq, hxs⟩ : ∃ sl, v = .ref sl ∧ (SqL K H5 sl xs ∨ SqT K H5 sl xs) ∧ IsAll K b H5 xs ts := by
        cases hT.mv0 m5 with
        | lst h0 h1 h2 => exact ⟨_, rfl, .inl (.inl (.inl h1)), h2⟩
        | tup h1 h2 => exact ⟨_, rfl, .inr h1, h2⟩
      obtain ⟨hl, hcn⟩ := hbd _ rfl
      refine ⟨.ref sl, rfl, sl, rfl, ?_⟩
      refine lc_th (K := K) (b := b) (fun _ => true) (fun y t => y = V.bl (isTerm t)) hSq hxs hl (fun y t H6 Q' R hm' hy m6 k1 _ => ?_) (fun D ys H6 nD e6 hp m6 => ?_)
      · exact ⟨rfl, y, rfl, y, t, b, rfl, hy.mv0 m6, hcn t hm', fun H7 m7 => k1 rfl _ H7 rfl m7⟩
      · rw [List.filter_eq_self.mpr fun _ _ => rfl] at hp
        rw [paired_bl hp] at e6
        refine ⟨D, _, rfl, .inl (.inl e6), ?_⟩
        rw [show (ts.map isTerm).all id = ts.all isTerm by rw [List.all_map]; rfl]
        exact q H6 (m5.trans m6)
theorem ok_Pattern___init__ (T : TX K mg) (Y : TY P K mg) {k : Nat} : FnOk P w K mg base (CX P w) (k + 55) T.d_Pattern___init__.f T.d_Pattern___init__.fd P_Pattern___init__ (sp_Pat K T.C_Pattern Y.C_Wrong) := by
  have G_are_terms : FnOk P w K mg base CX0 3 T.d_are_terms.f T.d_are_terms.fd P_are_terms (sp_areT K T.C_Pattern) := ok_are_terms (k := 0) T
  have G_numbered : FnOk P w K mg base CX0 53 T.d_numbered.f T.d_numbered.fd P_numbered (sp_numbered K) := ok_numbered T
  refine T.d_Pattern___init__.F.okX sc_Pattern___init__ (fun vs H Q E h => ?_) (fun cdv A outer s H vs Q E hr h => ?_)
  · obtain ⟨_, _, _, _, rfl, _⟩ := h
    rfl
  · obtain ⟨x, dx, tv, H0, rfl, eH, nx, ndx, hne, h⟩ := h
    refine ⟨_, (pss_cons (ps_if (pt_not (pt_val (pe_call G_are_terms (hr.mono (by omega)) rfl T.d_are_terms.g T.d_are_terms.F.kp T.d_are_terms.b .nil pass0 (pa_cons (pv 1) pa_nil)))) (pss_one (ps_raise rfl (takes_of rfl rfl rfl rfl) (pmk_x Y.x_Wrong hr (pa_cons pe_int pa_nil)))) pss_nil) (pss_one (ps_sl (pv 0) (pe_callTy (r := rTupOf K) call_tupG (by rfl) T.b_tuple bt_tuple (pa_cons (pe_call G_numbered (hr.mono (by omega)) rfl T.d_numbered.g T.d_numbered.F.kp T.d_numbered.b .nil pass0 (pa_cons (pv 1) pa_nil)) pa_nil))))), ?_⟩
    have mH : Mv [] H0 H := by
      rw [eH]
      exact (Mv.new ndx).wr nx
    have hx : H x = some (.ins T.C_Pattern dx []) := by rw [eH]; exact upd_same
    have hdx : H dx = some (.own x) := by rw [eH, upd_ne hne]; exact upd_same
    clear eH
    rcases h with ⟨a, xs, ts, rfl, ha, hi, hF, q⟩ | ⟨b, rows, hT, hbd, hno, q⟩
    · have hok := hF.ok
      have hlen := Tm.nod_len ts
      have hnod := hF.nod
      have hall : IsAll K x H0 xs (Tm.ths ts) := IsAll.of_ims ts xs hok hi
      have hT : RcV K x T.C_Pattern H0 (.ref a) (some (xs, Tm.ths ts)) := ha.elim (fun h => .lst (fun e => by rw [e, nx] at h; cases h) h hall) fun h => .tup h hall
      refine ⟨.ref a, rfl, .ref a, x, _, rfl, hT.mv0 mH, fun r hr' => ?_, fun H1 m1 => ?_⟩
      · cases hr'
        refine ⟨by rw [ths_len]; omega, fun t ht => ?_⟩
        rw [ths_map] at ht
        obtain ⟨u, hu, rfl⟩ := List.mem_map.mp ht
        have h1 := th_small hu
        omega
      · rw [show areT (some (xs, Tm.ths ts)) = true by
          show (Tm.ths ts).all isTerm = true
          rw [List.all_eq_true]
          intro t ht
          rw [ths_map] at ht
          obtain ⟨u, hu, rfl⟩ := List.mem_map.mp ht
          exact isTerm_th (fun i h => h.1) u (Tm.oks_iff.mp hok u hu)]
        refine ⟨_, rfl, ?_⟩
        have m01 := mH.trans m1
        have hSq : SqL K H1 a xs ∨ SqT K H1 a xs := m01.seq (ha.imp (fun h => .inl (.inl h)) id)
        refine ⟨.ref a, rfl, a, xs, ts, _, rfl, hSq, hi.mv m01, hok, fun i h => h.2, hF.dep, hnod, fun p H2 ys np m2 e2 i2 => ?_⟩
        rw [numbered_canon] at i2
        walk_at "nc"
        refine rd_tupOf (.inl (.inl e2)) fun p3 H3 m3 e3 => ?_
        have m23 := m2.trans m3
        have hx3 := (m1.trans m23).same _ _ hx
        have hd3 := (m1.trans m23).same _ _ hdx
        refine ⟨.ref x, rfl, x, T.C_Pattern, dx, T.p_Pattern_its_terms, [], 0, rfl, Or.inl ⟨hx3, rfl⟩, T.c_Pattern, T.sl_Pattern_its_terms, ?_⟩
        have m9 := (m01.trans m23).sl (C := T.C_Pattern) (vs := putS 0 (.ref p3) []) nx ndx
        have k9 := Mv.slA hne hx3 hd3 (us := putS 0 (.ref p3) [])
        exact q _ m9 ⟨dx, p3, ys, slH_slt hne, k9.sqT e3, (i2.mv m3).mv k9⟩
    · refine ⟨tv, rfl, tv, b, rows, rfl, hT.mv0 mH, hbd, fun H1 m1 => ?_⟩
      rw [hno]
      refine ⟨_, rfl, .int 0, rfl, fun dd nd => q dd H1 (mH.trans m1) nd⟩
end
end Fm
namespace Fm
open PySem PySem.Spec PyProof.Rows L2
def rSortDI : List V → Hp → VK → Prop := fun xs H Q => ∃ (a : Addr) (kvs : List (L2.Key × V)) (ks : List Int), xs = [.ref a] ∧ Rd H a (.dK kvs) ∧ kvs.map (·.1) = ks.map Sum.inl ∧ ks.length < 64 ∧
  ∀ (ys : List Int) (p : Addr), ys.Perm ks → ys.Pairwise (· ≤ ·) → H p = none → Q (.ref p) (upd H p (.lst (ys.map V.int)))
theorem cr_sortDI {X : Cx} (hc : X.calm = true) : CallR X (.builtin "sorted") rSortDI := call_sortedDI hc
end Fm
namespace Fm
open PySem PySem.Spec PyProof.Rows L2
theorem nolen_zip : typeLookup (.type "zip") "__len__" = pure none := by rw [typeLookup_type, builtinLookup_eq_fast]; kernel_rfl
theorem nohint_zip : typeLookup (.type "zip") "__length_hint__" = pure none := by rw [typeLookup_type, builtinLookup_eq_fast]; kernel_rfl
section
variable {prog : Program} {w : World} {A : Around} {E : Value → Shared → Prop} {s : Shared} {R : Result → Shared → Prop} {I : Addr} {fp wr : List Addr} {G : Array GenState → Array GenState → Prop} {n : Nat} {P : Nat → Value → Prop} {St : Nat → Shared → Prop}
end
def tListZip (K : PySem.W.Frag) (ta : TA) : TE := fun σ H Q => ta σ H fun vs H1 => ∃ a b xs ys, vs = [.ref a, .ref b] ∧ SqL K H1 a xs ∧ SqT K H1 b ys ∧ min xs.length ys.length = 0 ∧ ∀ p, H1 p = none → Q (.ref p) (upd H1 p (.lst []))
section
variable {X : Cx} {e e2 : Expr} {ta : TA} {p p2 pos pos2 : Pos}
end
theorem pi_seqC {X : Cx} {K : PySem.W.Frag} {tg e : Expr} {t : TE} (hK : X.K = K) (he : PE X e t) : PI X tg e (iSeq K t) := hK ▸ pi_seq he
end Fm
namespace Fm
open PySem PySem.Spec PySem.W PyProof.Rows L2
section
variable {prog : Program} {w : World} {A : Around} {E : Value → Shared → Prop} {s : Shared} {z TI TO T i1 i2 : Addr} {f : Bool} {oT : Obj} {fp1 fp2 : List Addr} {n1 n2 i : Nat} {P1 P2 : Nat → Value → Prop} {St1 St2 : Nat → Heap → Prop}
theorem zh_item {Q : Option Value → Shared → Prop} (S : ZipSep2 z TI TO i1 i2 fp1 fp2) (D1 : Draws prog w A.in1 i1 fp1 n1 P1 St1) (D2 : Draws prog w A.in1 i2 fp2 n2 P2 St2)
    (hz : IsZipHeld s.heap z TI TO T f) (hT : s.heap.get? T = some oT) (hI : IsTupOf2 s.heap TI (.ref i1) (.ref i2)) (st1 : St1 i s.heap) (st2 : St2 i s.heap) (lt1 : i < n1) (lt2 : i < n2)
    (fin : ∀ x1 x2 h' tk, P1 i x1 → P2 i x2 → IsZipHeld h' z TI TO T true → St1 (i + 1) h' → St2 (i + 1) h' → IsTupOf2 h' s.heap.objs.size x1 x2 →
      (∀ c o, c ≠ z → c ≠ i1 → c ≠ i2 → s.heap.get? c = some o → h'.get? c = some o) → Q (some (.ref s.heap.objs.size)) { s with heap := h', toks := tk }) : wpAny (model prog w) A (pyNext (.ref z)) Q E s := by
  have hTy : s.TypeIs (.ref z) "zip" := ⟨_, hz, rfl⟩
  unfold pyNext
  refine wpAny_bind (wpAny_attempt (wpAny_callSpecial?_slot (name := Str.ofString "__next__") hTy F.slot_zip_next (wpAny_call_entry F.slot_zip_next hTy F.entry_zip_next ?_ (F.args_zip_next_1 _))))
  obtain ⟨hp, g, d, tk0, os⟩ := s
  show wpAny _ _ (field (.ref z) 2 >>= _) _ _ (Shared.mk hp g d tk0 os)
  refine wpAny_bind (wpAny_field hz rfl (x := .bool false) rfl (show wpAny _ _ (field (.ref z) 3 >>= _) _ _ (Shared.mk hp g d tk0 os) from ?_))
  refine wpAny_bind (wpAny_field hz rfl (x := .ref TI) rfl (wpAny_bind (wpAny_seqItems hI rfl ?_)))
  show wpAny _ _ (Builtin.SmallTypes.ownedTupleIsFree (.ref z) >>= _) _ _ (Shared.mk hp g d tk0 os)
  refine wpAny_bind (wpAny_tupleHeld_zip hz hT fun g1 hz1 hs1 => ?_)
  simp only [Bool.false_eq_true, if_false]
  refine wpAny_bind ?_
  rw [← Array.forIn_toList]
  simp only [List.forIn_cons, List.forIn_nil]
  refine wpAny_bind (wpAny_bind (wpAny_holding (show wpAny _ _ (Builtin.SmallTypes.nextOf (.ref i1) >>= _) _ _ (Shared.mk g1 g d tk0 os) from ?_)))
  refine wpAny_bind (D1.item i _ _ _ lt1 (D1.over st1 hs1 S.zf1) fun x1 p1 tk1 hx1 sn1 hp1 => wpAny_pure (wpAny_pure ?_))
  refine wpAny_bind (wpAny_bind (wpAny_holding (show wpAny _ _ (Builtin.SmallTypes.nextOf (.ref i2) >>= _) _ _ (Shared.mk p1 g d tk1 os) from ?_)))
  replace hp1 : Heap.SameBut i1 g1 p1 := hp1
  replace hs1 : Heap.SameBut z hp g1 := hs1
  refine wpAny_bind (D2.item i _ _ _ lt2 (D2.over (D2.over st2 hs1 S.zf2) hp1 S.sep1_2) fun x2 p2 tk2 hx2 sn2 hp2 => wpAny_pure (wpAny_pure (wpAny_pure ?_)))
  replace hp2 : Heap.SameBut i2 p1 p2 := hp2
  show wpAny _ _ (newTuple [x1, x2] >>= _) _ _ (Shared.mk p2 g d tk2 os)
  refine wpAny_bind (wpAny_newTuple ?_)
  have esz : p2.objs.size = hp.objs.size := by rw [hp2.1, hp1.1, hs1.1]
  have hzz : IsZipHeld p2 z TI TO T true := hp2.extBut _ _ S.zi2 (hp1.extBut _ _ S.zi1 hz1)
  have kk : ∀ c o, c ≠ z → c ≠ i1 → c ≠ i2 → hp.get? c = some o → p2.get? c = some o := fun c o c1 c2 c3 e => hp2.extBut _ _ c3 (hp1.extBut _ _ c2 (hs1.extBut _ _ c1 e))
  have up : ∀ c o, p2.get? c = some o → (p2.push { cls := .type "tuple", data := .seq #[x1, x2] }).get? c = some o := fun c o e => Heap.get?_push_of_some _ e
  have hnew : IsTupOf2 (p2.push { cls := .type "tuple", data := .seq #[x1, x2] }) p2.objs.size x1 x2 := Heap.get?_push_size _ rfl
  rw [esz] at hnew
  refine wpAny_pure ⟨_, rfl, ?_⟩
  show wpAny _ _ _ _ _ (Shared.mk (p2.push { cls := .type "tuple", data := .seq #[x1, x2] }) g d tk2 os)
  refine wpAny_pure ?_
  rw [esz]
  exact fin x1 x2 _ tk2 hx1 hx2 (up _ _ hzz) (D1.frame _ _ _ (D1.over sn1 hp2 S.sep2_1) fun b _ o e => up b o e) (D2.frame _ _ _ sn2 fun b _ o e => up b o e) hnew fun c o c1 c2 c3 e => up c o (kk c o c1 c2 c3 e)
theorem zh_end0 {Q : PySem.Fin → Shared → Prop} (S : ZipSep2 z TI TO i1 i2 fp1 fp2) (D1 : Draws prog w A i1 fp1 n1 P1 St1) (D2 : Draws prog w A i2 fp2 n2 P2 St2)
    (hz : IsZipHeld s.heap z TI TO T f) (hT : s.heap.get? T = some oT) (hI : IsTupOf2 s.heap TI (.ref i1) (.ref i2)) (st1 : St1 i s.heap) (st2 : St2 i s.heap) (le1 : i ≤ n1) (le2 : i ≤ n2) (he : i = n1 ∨ i = n2)
    (stop : ∀ h' tk e, (∀ c o, c ≠ z → c ≠ i1 → c ≠ i2 → s.heap.get? c = some o → h'.get? c = some o) → (∃ o, h'.get? e = some o ∧ o.cls = .type "StopIteration") → E (.ref e) { s with heap := h', toks := tk }) :
    wpAny (model prog w) A (Builtin.«zip.__next__» ⟨[.ref z], []⟩) Q E s := by
  obtain ⟨hp, g, d, tk0, os⟩ := s
  show wpAny _ _ (field (.ref z) 2 >>= _) _ _ (Shared.mk hp g d tk0 os)
  refine wpAny_bind (wpAny_field hz rfl (x := .bool false) rfl (show wpAny _ _ (field (.ref z) 3 >>= _) _ _ (Shared.mk hp g d tk0 os) from ?_))
  refine wpAny_bind (wpAny_field hz rfl (x := .ref TI) rfl (wpAny_bind (wpAny_seqItems hI rfl ?_)))
  show wpAny _ _ (Builtin.SmallTypes.ownedTupleIsFree (.ref z) >>= _) _ _ (Shared.mk hp g d tk0 os)
  refine wpAny_bind (wpAny_tupleHeld_zip hz hT fun g1 hz1 hs1 => ?_)
  replace hs1 : Heap.SameBut z hp g1 := hs1
  simp only [Bool.false_eq_true, if_false]
  refine wpAny_bind ?_
  rw [← Array.forIn_toList]
  simp only [List.forIn_cons, List.forIn_nil]
  refine wpAny_bind (wpAny_bind (wpAny_holding (show wpAny _ _ (Builtin.SmallTypes.nextOf (.ref i1) >>= _) _ _ (Shared.mk g1 g d tk0 os) from ?_)))
  by_cases lt1 : i < n1
  · refine wpAny_bind (D1.item i _ _ _ lt1 (D1.over st1 hs1 S.zf1) fun x1 p1 tk1 hx1 sn1 hp1 => wpAny_pure (wpAny_pure ?_))
    replace hp1 : Heap.SameBut i1 g1 p1 := hp1
    refine wpAny_bind (wpAny_bind (wpAny_holding (show wpAny _ _ (Builtin.SmallTypes.nextOf (.ref i2) >>= _) _ _ (Shared.mk p1 g d tk1 os) from ?_)))
    have e2 : i = n2 := by omega
    refine wpAny_bind (D2.done (Shared.mk p1 g d tk1 os) _ _ (by rw [← e2]; exact D2.over (D2.over st2 hs1 S.zf2) hp1 S.sep1_2) fun q e hq hx => ?_)
    replace hq : Heap.ExtBut i2 p1 q := hq
    exact stop q tk1 e (fun c o c1 c2 c3 x => hq _ _ c3 (hp1.extBut _ _ c2 (hs1.extBut _ _ c1 x))) hx
  · have e1 : i = n1 := by omega
    refine wpAny_bind (D1.done (Shared.mk g1 g d tk0 os) _ _ (by rw [← e1]; exact D1.over st1 hs1 S.zf1) fun q e hq hx => ?_)
    replace hq : Heap.ExtBut i1 g1 q := hq
    exact stop q tk0 e (fun c o c1 c2 c3 x => hq _ _ c2 (hs1.extBut _ _ c1 x)) hx
theorem zh_end {Q : Option Value → Shared → Prop} (S : ZipSep2 z TI TO i1 i2 fp1 fp2) (D1 : Draws prog w A.in1 i1 fp1 n1 P1 St1) (D2 : Draws prog w A.in1 i2 fp2 n2 P2 St2)
    (hz : IsZipHeld s.heap z TI TO T f) (hT : s.heap.get? T = some oT) (hI : IsTupOf2 s.heap TI (.ref i1) (.ref i2)) (st1 : St1 i s.heap) (st2 : St2 i s.heap) (le1 : i ≤ n1) (le2 : i ≤ n2) (he : i = n1 ∨ i = n2)
    (fin : ∀ h' tk, (∀ c o, c ≠ z → c ≠ i1 → c ≠ i2 → s.heap.get? c = some o → h'.get? c = some o) → Q none { s with heap := h', toks := tk }) : wpAny (model prog w) A (pyNext (.ref z)) Q E s := by
  have hTy : s.TypeIs (.ref z) "zip" := ⟨_, hz, rfl⟩
  unfold pyNext
  refine wpAny_bind (wpAny_attempt (wpAny_callSpecial?_slot (name := Str.ofString "__next__") hTy F.slot_zip_next (wpAny_call_entry F.slot_zip_next hTy F.entry_zip_next (zh_end0 S D1 D2 hz hT hI st1 st2 le1 le2 he fun h' tk e hk hx => ?_) (F.args_zip_next_1 _))))
  obtain ⟨o, ho, hc⟩ := hx
  exact wpAny_bind (wpAny_isInstance (T := "StopIteration") (b := true) ⟨o, ho, hc⟩ isSubtype_stop (wpAny_pure (fin h' tk hk)))
end
def ZSt (z TI TO i1 i2 S : Addr) (St1 St2 : Nat → Heap → Prop) (i : Nat) (h : Heap) : Prop := IsTupOf2 h TI (.ref i1) (.ref i2) ∧ St1 i h ∧ St2 i h ∧
  ((IsZip h z TI TO .none ∧ ∃ a b, IsTupOf2 h TO a b) ∨ ∃ T f oT, IsZipHeld h z TI TO T f ∧ h.get? T = some oT ∧ T ≠ z ∧ T ≠ i1 ∧ T ≠ i2 ∧ T ≠ S)
section
variable {X : Cx} {A : Around} {pins : List (Addr × Obj)} {σ : L2.St} {S z TI TO i1 i2 : Addr} {fp1 fp2 : List Addr} {its1 its2 : List Value} {xs ys : List V} {St1 St2 : Nat → Heap → Prop} {H1 : Hp} {R : Result → Shared → Prop} {res : Value}
theorem zip_loop (Sp : ZipSep2 z TI TO i1 i2 fp1 fp2) (D1 : Draws X.prog X.w A.in1.in1 i1 fp1 its1.toArray.size (fun i v => its1.toArray[i]? = some v) St1) (D2 : Draws X.prog X.w A.in1.in1 i2 fp2 its2.toArray.size (fun i v => its2.toArray[i]? = some v) St2)
    (rv1 : Vals xs its1) (rv2 : Vals ys its2) (hS : S ≠ z ∧ S ≠ TI ∧ S ≠ TO ∧ S ∉ fp1 ∧ S ∉ fp2) (hn : min xs.length ys.length ≤ 1000000) :
    ∀ (k i : Nat) (s : Shared) (H : Hp) (ts : List Addr), min xs.length ys.length - i = k → i ≤ min xs.length ys.length → Inv X pins σ H s → ZSt z TI TO i1 i2 S St1 St2 i s.heap → ts.length = i → H S = some (.lst (ts.map V.ref)) → Mv [] H1 H → H1 S = none →
      (∀ c ∈ [z, TO, i1, i2], FpOk X pins H c) → (∀ c ∈ [z, TO, i1, i2], ∃ o, s.heap.get? c = some o) → (∀ (j : Nat) (t : Addr), ts[j]? = some t → H1 t = none ∧ ∃ x y, xs[j]? = some x ∧ ys[j]? = some y ∧ H t = some (.tup [x, y])) →
      (∀ (s' : Shared) (H' : Hp) (ts' : List Addr), Inv X pins σ H' s' → Mv [] H1 H' → ts'.length = min xs.length ys.length → H' S = some (.lst (ts'.map V.ref)) → (∀ (j : Nat) (t : Addr), ts'[j]? = some t → ∃ x y, xs[j]? = some x ∧ ys[j]? = some y ∧ H' t = some (.tup [x, y])) → R (.ok (.ret res)) s') →
      codeAny (model X.prog X.w) A (.builtin "list.extend.loop" ⟨[.ref S, .ref z, res], []⟩) R s := by
  have l1 := rv1.length
  have l2 := rv2.length
  intro k
  induction k with
  | zero =>
    intro i s H ts hk hi I hst hl hH m nS hf hx ht hR
    have hin : i = min xs.length ys.length := by omega
    subst hin
    obtain ⟨hI, st1, st2, hz⟩ := hst
    refine codeAny_builtin F.entry_extend_loop ?_
    rw [Around.under_plainId F.plain_extend_loop _]
    show wpAny _ A.in1 (pyNext (.ref z) >>= _) _ _ s
    have le1 : min xs.length ys.length ≤ its1.toArray.size := by rw [List.size_toArray]; omega
    have le2 : min xs.length ys.length ≤ its2.toArray.size := by rw [List.size_toArray]; omega
    have he : min xs.length ys.length = its1.toArray.size ∨ min xs.length ys.length = its2.toArray.size := by rw [List.size_toArray, List.size_toArray]; omega
    have fin : ∀ h' tk, (∀ c o, c ∉ [z, TO, i1, i2] → s.heap.get? c = some o → h'.get? c = some o) → R (.ok (.ret res)) { s with heap := h', toks := tk } := fun h' tk hk' =>
      hR _ H ts (I.turnedL (t' := tk) (ch := [z, TO, i1, i2]) hk' hf) m hl hH fun j t e => (ht j t e).2
    rcases hz with ⟨hz, a, b, hTO⟩ | ⟨T, f, oT, hz, hT, r1, r2, r3, r4⟩
    · exact wpAny_bind (wpAny_pyNext_zipD2_end Sp D1 D2 hz hI hTO st1 st2 le1 le2 he fun h' tk hk' => wpAny_pure (fin h' tk fun c o hc e => hk' c o (fun q => hc (by simp [q])) (fun q => hc (by simp [q])) (fun q => hc (by simp [q])) (fun q => hc (by simp [q])) e))
    · exact wpAny_bind (zh_end Sp D1 D2 hz hT hI st1 st2 le1 le2 he fun h' tk hk' => wpAny_pure (fin h' tk fun c o hc e => hk' c o (fun q => hc (by simp [q])) (fun q => hc (by simp [q])) (fun q => hc (by simp [q])) e))
  | succ k ih =>
    intro i s H ts hk hi I hst hl hH m nS hf hx ht hR
    obtain ⟨hI, st1, st2, hz⟩ := hst
    have lt1 : i < its1.toArray.size := by rw [List.size_toArray]; omega
    have lt2 : i < its2.toArray.size := by rw [List.size_toArray]; omega
    refine codeAny_builtin F.entry_extend_loop ?_
    rw [Around.under_plainId F.plain_extend_loop _]
    show wpAny _ A.in1 (pyNext (.ref z) >>= _) _ _ s
    have step : ∀ x1 x2 h' tk, its1.toArray[i]? = some x1 → its2.toArray[i]? = some x2 → (∀ c o, c ∉ [z, TO, i1, i2] → s.heap.get? c = some o → h'.get? c = some o) → IsTupOf2 h' s.heap.objs.size x1 x2 → ZSt z TI TO i1 i2 S St1 St2 (i + 1) h' → (∀ c ∈ [z, TO, i1, i2], ∃ o, h'.get? c = some o) →
        wpAny (model X.prog X.w) A.in1 (updateSeq S (·.push (.ref s.heap.objs.size)) >>= fun _ => again (.builtin "list.extend.loop" ⟨[.ref S, .ref z, res], []⟩)) (fun fin s' => match fin with | .done f => R (.ok f) s' | .again c' => c'.quiet = true ∧ codeAny (model X.prog X.w) A c' R s') (fun e s' => R (.error e) s') { s with heap := h', toks := tk } := by
      intro x1 x2 h' tk hx1 hx2 hkp hT hst' hx'
      obtain ⟨v1, hv1, r1⟩ : ∃ v1, xs[i]? = some v1 ∧ RelV v1 x1 := by
        have : i < xs.length := by omega
        obtain ⟨u, hu, ru⟩ := rv1.get (List.getElem?_eq_getElem this)
        rw [show its1.toArray[i]? = its1[i]? by simp, hu] at hx1
        cases hx1
        exact ⟨_, List.getElem?_eq_getElem this, ru⟩
      obtain ⟨v2, hv2, r2⟩ : ∃ v2, ys[i]? = some v2 ∧ RelV v2 x2 := by
        have : i < ys.length := by omega
        obtain ⟨u, hu, ru⟩ := rv2.get (List.getElem?_eq_getElem this)
        rw [show its2.toArray[i]? = its2[i]? by simp, hu] at hx2
        cases hx2
        exact ⟨_, List.getElem?_eq_getElem this, ru⟩
      have new : ObjOk X.prog X.w (upd H s.heap.objs.size (.tup [v1, v2])) h' s.heap.objs.size (.tup [v1, v2]) := ⟨by show 2 ≤ sizeLine; decide, [x1, x2], .cons r1 (.cons r2 .nil), ⟨_, hT, rfl, _, rfl⟩⟩
      have nT : H s.heap.objs.size = none := I.hok.fresh (Nat.le_refl _)
      have J : Inv X pins σ (upd H s.heap.objs.size (.tup [v1, v2])) { s with heap := h', toks := tk } := I.turnedNew (t' := tk) (ch := [z, TO, i1, i2]) hkp hf (Nat.le_refl _) new
      have hST : S ≠ s.heap.objs.size := ne_of_none hH nT
      have hH' : upd H s.heap.objs.size (.tup [v1, v2]) S = some (.lst (ts.map V.ref)) := by rw [upd_ne hST]; exact hH
      obtain ⟨_, its, c, r, hlen, e⟩ := J.lstM hH'
      rw [List.length_map] at hlen
      have hsm : its.toArray.size ≤ 1000000 := by rw [List.size_toArray]; omega
      refine wpAny_bind (wpAny_updateSeq e rfl (wpAny_pure ⟨plainId_quiet F.plain_extend_loop _, ?_⟩) (Nat.le_trans hsm (by decide)) (by show (its.toArray.push _).size ≤ sizeLine + 1; rw [Array.size_push]; exact Nat.le_trans (Nat.succ_le_succ hsm) (by decide)))
      have J2 : Inv X pins σ (upd (upd H s.heap.objs.size (.tup [v1, v2])) S (.lst ((ts ++ [s.heap.objs.size]).map V.ref))) { s with heap := h'.update S (Obj.mapSeq (·.push (.ref s.heap.objs.size))), toks := tk } :=
        J.lset (its' := its ++ [.ref s.heap.objs.size]) hH' e (by simp) (by rw [List.map_append]; exact r.append (.cons rfl .nil)) (by rw [List.length_map, List.length_append, List.length_singleton]; exact Nat.le_trans (show ts.length + 1 ≤ 1000001 by omega) (by decide))
      have other : ∀ c o, c ≠ S → h'.get? c = some o → (h'.update S (Obj.mapSeq (·.push (.ref s.heap.objs.size)))).get? c = some o := fun c o hc q => (Heap.get?_update_other _ _ (Ne.symm hc)).trans q
      have f1 : ∀ b ∈ fp1, b ≠ S := fun b hb q => hS.2.2.2.1 (q ▸ hb)
      have f2 : ∀ b ∈ fp2, b ≠ S := fun b hb q => hS.2.2.2.2 (q ▸ hb)
      have hi1S : i1 ≠ S := f1 _ Sp.mem1
      have hi2S : i2 ≠ S := f2 _ Sp.mem2
      refine ih (i + 1) _ _ (ts ++ [s.heap.objs.size]) (by omega) (by omega) J2 ?_ (by simp [hl]) upd_same ?_ nS (fun c hc => ?_) (fun c hc => ?_) (fun j t ej => ?_) hR
      · obtain ⟨hI', st1', st2', hz'⟩ := hst'
        refine ⟨other _ _ hS.2.1.symm hI', D1.frame _ _ _ st1' fun b hb o q => other b o (f1 b hb) q, D2.frame _ _ _ st2' fun b hb o q => other b o (f2 b hb) q, ?_⟩
        rcases hz' with ⟨hz', a, b, hTO⟩ | ⟨T, f, oT, hz', hT', q1, q2, q3, q4⟩
        · exact .inl ⟨other _ _ hS.1.symm hz', a, b, other _ _ hS.2.2.1.symm hTO⟩
        · exact .inr ⟨T, f, oT, other _ _ hS.1.symm hz', other _ _ q4 hT', q1, q2, q3, q4⟩
      · refine Mv.wr (H := H1) ?_ nS
        exact m.trans (.new nT)
      · have hcS : c ≠ S := by
          rcases List.mem_cons.mp hc with rfl | hc
          · exact hS.1.symm
          rcases List.mem_cons.mp hc with rfl | hc
          · exact hS.2.2.1.symm
          rcases List.mem_cons.mp hc with rfl | hc
          · exact hi1S
          rw [List.mem_singleton.mp hc]
          exact hi2S
        obtain ⟨o, ho⟩ := hx c hc
        obtain ⟨q1, q2⟩ := hf c hc
        refine ⟨?_, q2⟩
        rw [upd_ne hcS, upd_ne (Nat.ne_of_lt (Heap.lt_size ho))]
        exact q1
      · have hcS : c ≠ S := by
          rcases List.mem_cons.mp hc with rfl | hc
          · exact hS.1.symm
          rcases List.mem_cons.mp hc with rfl | hc
          · exact hS.2.2.1.symm
          rcases List.mem_cons.mp hc with rfl | hc
          · exact hi1S
          rw [List.mem_singleton.mp hc]
          exact hi2S
        obtain ⟨o, ho⟩ := hx' c hc
        exact ⟨o, other c o hcS ho⟩
      · have keep : ∀ t o, H t = some o → t ≠ S → upd (upd H s.heap.objs.size (.tup [v1, v2])) S (.lst ((ts ++ [s.heap.objs.size]).map V.ref)) t = some o := fun t o q hq => by
          rw [upd_ne hq, upd_ne (ne_of_none q nT)]
          exact q
        by_cases hj : j < ts.length
        · rw [List.getElem?_append_left hj] at ej
          obtain ⟨n1, x, y, hx3, hy3, hT3⟩ := ht j t ej
          refine ⟨n1, x, y, hx3, hy3, keep t _ hT3 ?_⟩
          rintro rfl
          rw [hH] at hT3
          cases hT3
        · have hj2 : j < (ts ++ [s.heap.objs.size]).length := (List.getElem?_eq_some_iff.mp ej).1
          rw [List.length_append, List.length_singleton] at hj2
          have : j = ts.length := by omega
          subst this
          rw [List.getElem?_append_right (Nat.le_refl _), Nat.sub_self] at ej
          cases ej
          refine ⟨m.free nT, v1, v2, by rw [hl]; exact hv1, by rw [hl]; exact hv2, ?_⟩
          rw [upd_ne hST.symm, upd_same]
    have lt : ∀ {c o}, s.heap.get? c = some o → s.heap.objs.size ≠ c := fun e => Nat.ne_of_gt (Heap.lt_size e)
    obtain ⟨oz, hoz⟩ := hx z (by simp)
    obtain ⟨o1, ho1⟩ := hx i1 (by simp)
    obtain ⟨o2, ho2⟩ := hx i2 (by simp)
    obtain ⟨oTO, hoTO⟩ := hx TO (by simp)
    obtain ⟨_, _, _, _, _, eS⟩ := I.lstM hH
    rcases hz with ⟨hz, a, b, hTO⟩ | ⟨T, f, oT, hz, hT, r1, r2, r3, r4⟩
    · refine wpAny_bind (wpAny_pyNext_zipD2_item Sp D1 D2 hz hI hTO st1 st2 lt1 lt2 fun x1 x2 h' tk y1 y2 b1 b2 d1 d2 b5 b6 hk' => ?_)
      refine step x1 x2 h' tk y1 y2 (fun c o hc e => hk' c o (fun q => hc (by simp [q])) (fun q => hc (by simp [q])) (fun q => hc (by simp [q])) (fun q => hc (by simp [q])) e) b5 ⟨hk' _ _ Sp.TIz Sp.TITO Sp.TIi1 Sp.TIi2 hI, d1, d2, .inr ⟨s.heap.objs.size, false, _, b1, b5, lt hz, lt ho1, lt ho2, lt eS⟩⟩ (fun c hc => ?_)
      rcases List.mem_cons.mp hc with rfl | hc
      · exact ⟨_, b1⟩
      rcases List.mem_cons.mp hc with rfl | hc
      · exact ⟨_, b2⟩
      rcases List.mem_cons.mp hc with rfl | hc
      · exact D1.live _ _ d1
      rw [List.mem_singleton.mp hc]
      exact D2.live _ _ d2
    · refine wpAny_bind (zh_item Sp D1 D2 hz hT hI st1 st2 lt1 lt2 fun x1 x2 h' tk y1 y2 b1 d1 d2 b5 hk' => ?_)
      refine step x1 x2 h' tk y1 y2 (fun c o hc e => hk' c o (fun q => hc (by simp [q])) (fun q => hc (by simp [q])) (fun q => hc (by simp [q])) e) b5 ⟨hk' _ _ Sp.TIz Sp.TIi1 Sp.TIi2 hI, d1, d2, .inr ⟨T, true, oT, b1, hk' _ _ r1 r2 r3 hT, r1, r2, r3, r4⟩⟩ (fun c hc => ?_)
      rcases List.mem_cons.mp hc with rfl | hc
      · exact ⟨_, b1⟩
      rcases List.mem_cons.mp hc with rfl | hc
      · exact ⟨oTO, hk' _ _ Sp.TOz Sp.Ti1 Sp.Ti2 hoTO⟩
      rcases List.mem_cons.mp hc with rfl | hc
      · exact D1.live _ _ d1
      rw [List.mem_singleton.mp hc]
      exact D2.live _ _ d2
end
section
variable {prog : Program} {w : World} {A : Around} {E : Value → Shared → Prop} {s : Shared} {z TI TO : Addr}
theorem ext_zipG {R : Result → Shared → Prop} {S : Addr} {res : Value} {c₀ : Nat} (hz : IsZip s.heap z TI TO .none) (hSz : S ≠ z) (hS : s.heap.get? S = some { cls := .type "list", data := .seq #[] c₀ })
    (go : ∀ h' c1, (∀ b o, b ≠ S → s.heap.get? b = some o → h'.get? b = some o) → h'.get? S = some { cls := .type "list", data := .seq #[] c1 } → codeAny (model prog w) A (.builtin "list.extend.loop" ⟨[.ref S, .ref z, res], []⟩) R { s with heap := h' }) :
    wpAny (model prog w) A.in1 (Builtin.List.listExtendWith (.ref S) (.ref z) res)
      (fun fin s' => match fin with | .done f => R (.ok f) s' | .again c' => c'.quiet = true ∧ codeAny (model prog w) A c' R s') (fun e s' => R (.error e) s') s := by
  have ty : s.TypeIs (.ref z) "zip" := ⟨_, hz, rfl⟩
  unfold Builtin.List.listExtendWith
  refine wpAny_bind (wpAny_typeOf ty ?_)
  have k1 : Builtin.List.listSameRef (.ref S) (.ref z) = false := by simp [Builtin.List.listSameRef, hSz]
  have k2 : (Value.type "zip" == Value.type "list") = false := by decide
  have k3 : (Value.type "zip" == Value.type "tuple") = false := by decide
  simp only [k1, k2, k3, Bool.or_false, Bool.false_eq_true, if_false]
  refine wpAny_bind (wpAny_pyIter_zip hz (wpAny_bind (wpAny_holding ?_)))
  unfold Builtin.List.listLengthHint
  refine wpAny_bind (wpAny_specialOf ty nolen_zip (show wpAny _ A.in1 (specialOf (Value.ref z) (Str.ofString "__length_hint__") >>= _) _ _ _ from ?_))
  refine wpAny_bind (wpAny_specialOf ty nohint_zip (wpAny_pure ?_))
  show wpAny _ A.in1 (rule "list.extend.makes-room" >>= fun _ => Builtin.List.listTouch (.ref S) >>= fun _ => again (.builtin "list.extend.loop" ⟨[.ref S, .ref z, res], []⟩)) _ _ _
  refine wpAny_bind (wpAny_rule (wpAny_bind (show wpAny _ A.in1 (updateSeq S (·.push .none) >>= fun _ => updateSeq S (·.pop)) _ _ _ from ?_)))
  refine wpAny_bind (wpAny_updateSeq hS rfl ?_)
  have e2 := Heap.get?_update_self (Obj.mapSeq (·.push Value.none)) hS rfl
  refine wpAny_updateSeq (hz := by seq_fits) e2 rfl ?_
  have e3 := Heap.get?_update_self (Obj.mapSeq (·.pop)) e2 rfl
  exact wpAny_pure ⟨plainId_quiet F.plain_extend_loop _, go _ _ (fun b o hb e => (Heap.get?_update_other _ _ (Ne.symm hb)).trans ((Heap.get?_update_other _ _ (Ne.symm hb)).trans e)) e3⟩
theorem call_zipG {Q : Value → Shared → Prop} (hz : IsZip s.heap z TI TO .none)
    (go : ∀ (R : Result → Shared → Prop) h' c1, (∀ b o, s.heap.get? b = some o → h'.get? b = some o) → h'.get? s.heap.objs.size = some { cls := .type "list", data := .seq #[] c1 } → (∀ s', Q (.ref s.heap.objs.size) s' → R (.ok (.ret .none)) s') →
      codeAny (model prog w) A.in1 (.builtin "list.extend.loop" ⟨[.ref s.heap.objs.size, .ref z, .none], []⟩) R { s with heap := h' }) :
    wpAny (model prog w) A (call (.type "list") [.ref z]) Q E s := by
  have hzl : z < s.heap.objs.size := Heap.lt_size hz
  refine callType_codes (Q₁ := fun obj s₁ => obj = .ref s.heap.objs.size ∧ s₁ = { s with heap := s.heap.push { cls := .type "list", data := .seq #[] } }) F.called_list (F.typeCall_list_1 _) F.entry_list_init (code_list_new _ ⟨rfl, rfl⟩) fun obj s₁ h₁ => ?_
  obtain ⟨rfl, rfl⟩ := h₁
  have e0 : (s.heap.push { cls := .type "list", data := .seq #[] }).get? s.heap.objs.size = some { cls := .type "list", data := .seq #[] } := Heap.get?_push_size _ rfl
  refine ⟨⟨_, e0, rfl⟩, F.args_list_init_2 _ _, ?_⟩
  show wpAny _ A.in1.in1 (do let old ← Builtin.List.listItems (.ref s.heap.objs.size); Builtin.List.listUpdate (.ref s.heap.objs.size) (fun _ => #[]); letGo old.toList.reverse; Builtin.List.listExtendWith (.ref s.heap.objs.size) (.ref z) .none) _ _ _
  refine wpAny_bind ?_
  unfold Builtin.List.listItems
  refine wpAny_bind (wpAny_seqItems e0 rfl (wpAny_pure ?_))
  show wpAny _ A.in1.in1 (updateSeq s.heap.objs.size (fun _ => #[]) >>= fun _ => letGo (#[] : Array Value).toList.reverse >>= fun _ => Builtin.List.listExtendWith (.ref s.heap.objs.size) (.ref z) .none) _ _ _
  refine wpAny_bind (wpAny_updateSeq e0 rfl (wpAny_bind (wpAny_letGo ?_)))
  have e1 := Heap.get?_update_self (Obj.mapSeq (fun _ => (#[] : Array Value))) e0 rfl
  have kp : ∀ b o, s.heap.get? b = some o → ((s.heap.push { cls := .type "list", data := .seq #[] }).update s.heap.objs.size (Obj.mapSeq (fun _ => (#[] : Array Value)))).get? b = some o := fun b o e =>
    (Heap.get?_update_other _ _ (Nat.ne_of_gt (Heap.lt_size e))).trans (Heap.get?_push_of_some _ e)
  refine ext_zipG (A := A.in1) (kp _ _ hz) (Nat.ne_of_gt hzl) e1 fun h' c1 hk hS => ?_
  refine go _ h' c1 (fun b o e => hk b o (Nat.ne_of_lt (Heap.lt_size e)) (kp b o e)) hS fun s' hq => ⟨rfl, hq⟩
end
def tListZipG (K : PySem.W.Frag) (ta : TA) : TE := fun σ H Q => ta σ H fun vs H1 => ∃ a b xs ys, vs = [.ref a, .ref b] ∧ SqL K H1 a xs ∧ SqT K H1 b ys ∧ min xs.length ys.length ≤ 1000000 ∧
  ∀ (p : Addr) (ts : List Addr) (H' : Hp), Mv [] H1 H' → H1 p = none → ts.length = min xs.length ys.length → H' p = some (.lst (ts.map V.ref)) → (∀ (j : Nat) (t : Addr), ts[j]? = some t → ∃ x y, xs[j]? = some x ∧ ys[j]? = some y ∧ H' t = some (.tup [x, y])) → Q (.ref p) H'
section
variable {X : Cx} {e e2 : Expr} {ta : TA} {p p2 pos pos2 : Pos}
end
end Fm
namespace Fm
open PySem PySem.Spec PySem.W PyProof.Rows L2
def tListZipT (K : PySem.W.Frag) (ta : TA) : TE := fun σ H Q => ta σ H fun vs H1 => ∃ a b xs ys, vs = [.ref a, .ref b] ∧ SqT K H1 a xs ∧ SqT K H1 b ys ∧ min xs.length ys.length ≤ 1000000 ∧
  ∀ (p : Addr) (ts : List Addr) (H' : Hp), Mv [] H1 H' → H1 p = none → ts.length = min xs.length ys.length → H' p = some (.lst (ts.map V.ref)) → (∀ (j : Nat) (t : Addr), ts[j]? = some t → ∃ x y, xs[j]? = some x ∧ ys[j]? = some y ∧ H' t = some (.tup [x, y])) → Q (.ref p) H'
section
variable {X : Cx} {e e2 : Expr} {ta : TA} {p p2 pos pos2 : Pos}
theorem pe_listZipT (hc : X.calm = true) (hg : Gl X "list") (hm : X.mg "list" = none) (hg2 : Gl X "zip") (hm2 : X.mg "zip" = none) (ha : PA X [e, e2] ta)
    (hs2 : starEach [e, e2] X.env = (false, eval e X.env) :: starEach [e2] X.env := by rfl) (hpl2 : (backTo pos2 (starEach [e2] X.env)).any (·.1) = false := by rfl)
    (hs : starEach [.Call (.Name "zip" p2) [e, e2] [] pos2] X.env = (false, eval (.Call (.Name "zip" p2) [e, e2] [] pos2) X.env) :: starEach [] X.env := by rfl) :
    PE X (.Call (.Name "list" p) [.Call (.Name "zip" p2) [e, e2] [] pos2] [] pos) (tListZipT X.K ta) := by
  refine ⟨fun pins s σ H Q I hq => ?_⟩
  refine wpAny_Call_Name_kw (ld_blt I hg hm (show bootBuiltins "list" = some (.type "list") by rfl) (PyProof.Rows.callWith_type1 ?_ hs rfl))
  rw [hs]
  show wpAny _ _ (spliced ((false, eval (.Call (.Name "zip" p2) [e, e2] [] pos2) X.env) :: backTo pos (starEach [] X.env))) _ _ s
  refine Calls.spliced_cons (Call_ (ld_blt I hg2 hm2 PyProof.Rows.boot_zip (PyProof.Rows.callWith_type1 (thn (ha.run pos2 pins s σ H _ I hq) fun us s1 ⟨vs, H1, I1, r1, q1⟩ => ?_) hs2 hpl2)))
  obtain ⟨a, b, xs, ys, ex, hx, hy, hn, q⟩ := q1
  subst ex
  cases r1 with
  | cons r rr =>
    cases rr with
    | cons r' rr =>
      cases rr
      cases r
      cases r'
      obtain ⟨its, rv, p1, _⟩ := I1.tuple hx
      obtain ⟨its2, rv2, pp2, _⟩ := I1.tuple hy
      have hal : a < s1.heap.objs.size := by
        obtain ⟨o2, ho2, _⟩ := id p1
        exact Heap.lt_size ho2
      have hbl : b < s1.heap.objs.size := by
        obtain ⟨o2, ho2, _⟩ := id pp2
        exact Heap.lt_size ho2
      refine zip_begins2 (begins_tuple a its.toArray) (begins_tuple b its2.toArray) p1 pp2 fun h' hz hTI hTO hi1 hi2 hsz hk => Calls.spliced_nil ?_
      have hh := I1.ok.hd hc
      have D1 := Draws.tuple (prog := X.prog) (w := X.w) (A := X.A.in1.in1.in1) hh s1.heap.objs.size a (Nat.ne_of_lt hal) its.toArray
      have D2 := Draws.tuple (prog := X.prog) (w := X.w) (A := X.A.in1.in1.in1) hh (s1.heap.objs.size + 1) b (Nat.ne_of_lt (Nat.lt_succ_of_lt hbl)) its2.toArray
      have Sp := zip_sep2 (N := s1.heap.objs.size) (fp1 := [a]) (fp2 := [b]) (fun c hc' => by rw [List.mem_singleton.mp hc']; exact hal) (fun c hc' => by rw [List.mem_singleton.mp hc']; exact hbl)
      have I2 : Inv X pins σ H1 { s1 with heap := h' } := I1.kept (t' := s1.toks) hk
      have hfr : ∀ c ∈ [s1.heap.objs.size + 4, s1.heap.objs.size + 3, s1.heap.objs.size, s1.heap.objs.size + 1], FpOk X pins H1 c := fun c hcm => by
        have hle : s1.heap.objs.size ≤ c := by
          have e' : c = s1.heap.objs.size + 4 ∨ c = s1.heap.objs.size + 3 ∨ c = s1.heap.objs.size ∨ c = s1.heap.objs.size + 1 := by simpa using hcm
          omega
        exact I1.fpOk hle (I1.hok.fresh hle)
      have nS : H1 h'.objs.size = none := I1.hok.fresh (by rw [hsz]; omega)
      refine call_zipG (s := { s1 with heap := h' }) hz fun R h2 c1 hk2 hS2 fin => ?_
      have J0 : Inv X pins σ (upd H1 h'.objs.size (.lst [])) { s1 with heap := h2 } := I2.laid (t' := s1.toks) hk2 (Nat.le_refl _) ⟨by show 0 ≤ sizeLine; decide, [], c1, .nil, hS2⟩
      have hne : ∀ c, c < h'.objs.size → h'.objs.size ≠ c := fun c hlt => Nat.ne_of_gt hlt
      refine zip_loop (X := X) (A := X.A.in1) (pins := pins) (σ := σ) (H1 := H1) Sp D1 D2 rv rv2 ⟨hne _ (by rw [hsz]; omega), hne _ (by rw [hsz]; omega), hne _ (by rw [hsz]; omega), fun hm' => ?_, fun hm' => ?_⟩ hn _ 0 _ _ [] rfl (Nat.zero_le _) J0 ?_ rfl upd_same (.new nS) nS (fun c hcm => ?_) (fun c hcm => ?_) (fun j t hj => by simp at hj) (fun s' H' ts' J' m' hl' hH' ht' => fin s' ?_)
      · have e' : h'.objs.size = s1.heap.objs.size ∨ h'.objs.size = a := by simpa using hm'
        rcases e' with e' | e'
        · omega
        · exact absurd e' (Nat.ne_of_gt (Nat.lt_of_lt_of_le hal (by rw [hsz]; exact Nat.le_add_right _ _)))
      · have e' : h'.objs.size = s1.heap.objs.size + 1 ∨ h'.objs.size = b := by simpa using hm'
        rcases e' with e' | e'
        · omega
        · exact absurd e' (Nat.ne_of_gt (Nat.lt_of_lt_of_le hbl (by rw [hsz]; exact Nat.le_add_right _ _)))
      · exact ⟨hk2 _ _ hTI, ⟨⟨_, hk2 _ _ hi1, rfl, rfl⟩, Heap.IsTuple.at p1 fun o e => hk2 _ o (hk _ o e)⟩, ⟨⟨_, hk2 _ _ hi2, rfl, rfl⟩, Heap.IsTuple.at pp2 fun o e => hk2 _ o (hk _ o e)⟩, .inl ⟨hk2 _ _ hz, _, _, hk2 _ _ hTO⟩⟩
      · obtain ⟨q1, q2⟩ := hfr c hcm
        refine ⟨?_, q2⟩
        rw [upd_ne ?_]
        · exact q1
        · have e' : c = s1.heap.objs.size + 4 ∨ c = s1.heap.objs.size + 3 ∨ c = s1.heap.objs.size ∨ c = s1.heap.objs.size + 1 := by simpa using hcm
          refine Nat.ne_of_lt ?_
          rw [hsz]
          rcases e' with rfl | rfl | rfl | rfl
          · exact Nat.lt_succ_self _
          · exact Nat.add_lt_add_left (by decide) _
          · exact Nat.lt_add_of_pos_right (by decide)
          · exact Nat.add_lt_add_left (by decide) _
      · have e' : c = s1.heap.objs.size + 4 ∨ c = s1.heap.objs.size + 3 ∨ c = s1.heap.objs.size ∨ c = s1.heap.objs.size + 1 := by simpa using hcm
        rcases e' with rfl | rfl | rfl | rfl
        · exact ⟨_, hk2 _ _ hz⟩
        · exact ⟨_, hk2 _ _ hTO⟩
        · exact ⟨_, hk2 _ _ hi1⟩
        · exact ⟨_, hk2 _ _ hi2⟩
      · exact ⟨.ref _, H', J', rfl, q _ ts' H' m' nS hl' hH' ht'⟩
end
end Fm
namespace Fm
open PySem PySem.Spec PyProof.Rows L2 SlX
local macro_rules | `(tactic| walk_at "nn") => `(tactic| dsimp only [tC, tNil, tCons, tCB, tCall, gName, tSeq, tAsg, tPar, tDrop, tRet])
local macro_rules | `(tactic| walk_at "nc") => `(tactic| dsimp only [tC, tNil, tCons, tCB, tCall])
def prD (p : Tm × Tm) : PyData := .tuple [p.1.d, p.2.d]
def stkF (W : List (Tm × Tm)) : List Tm := W.map (·.1)
theorem stkF_zip {ts us : List Tm} (h : ts.length = us.length) : stkF (ts.zip us) = ts := List.map_fst_zip (by omega)
structure StkOk (W : List (Tm × Tm)) : Prop where
  l : ∀ p ∈ W, p.1.ok (fun i => i.natAbs < 10 ^ 40) ∧ p.1.dep ≤ 50
  r : ∀ p ∈ W, p.2.ok (fun i => i.natAbs < 10 ^ 40) ∧ p.2.dep ≤ 50
theorem StkOk.zip {ts us : List Tm} (h1 : Tm.oks (fun i => i.natAbs < 10 ^ 40) ts) (h2 : Tm.deps ts ≤ 50) (h3 : Tm.oks (fun i => i.natAbs < 10 ^ 40) us) (h4 : Tm.deps us ≤ 50) : StkOk (ts.zip us) :=
  ⟨fun p hp => ⟨Tm.oks_iff.mp h1 _ (List.of_mem_zip hp).1, Tm.deps_le.mp h2 _ (List.of_mem_zip hp).1⟩, fun p hp => ⟨Tm.oks_iff.mp h3 _ (List.of_mem_zip hp).2, Tm.deps_le.mp h4 _ (List.of_mem_zip hp).2⟩⟩
theorem StkOk.app {W W' : List (Tm × Tm)} (h : StkOk W) (h' : StkOk W') : StkOk (W ++ W') :=
  ⟨fun p hp => (List.mem_append.mp hp).elim (h.l p) (h'.l p), fun p hp => (List.mem_append.mp hp).elim (h.r p) (h'.r p)⟩
theorem StkOk.fine : ∀ {W : List (Tm × Tm)}, StkOk W → fineAll (W.map prD) ∧ PyData.depthAll (W.map prD) ≤ 52
  | [], _ => ⟨trivial, by simp [PyData.depthAll]⟩
  | p :: W, h => by
    obtain ⟨i1, i2⟩ := StkOk.fine (W := W) ⟨fun q hq => h.l q (List.mem_cons_of_mem _ hq), fun q hq => h.r q (List.mem_cons_of_mem _ hq)⟩
    have hl := h.l p List.mem_cons_self
    have hr := h.r p List.mem_cons_self
    have e1 := depth_d p.1
    have e2 := depth_d p.2
    refine ⟨⟨⟨fine_d (fun _ h => h) _ hl.1, fine_d (fun _ h => h) _ hr.1, trivial⟩, i1⟩, ?_⟩
    simp only [List.map_cons, PyData.depthAll, prD, PyData.depth]
    omega
theorem StkOk.shaped {W : List (Tm × Tm)} (h : StkOk W) : SeqAt.shaped (.list (W.map prD)) = true := by
  obtain ⟨h1, h2⟩ := h.fine
  show (PyData.canLay0 (.list (W.map prD)) && decide (PyData.depth (.list (W.map prD)) ≤ 64)) = true
  have e2 : PyData.depth (.list (W.map prD)) ≤ 64 := by
    simp only [PyData.depth]
    omega
  rw [(fine_lay (.list (W.map prD)) h1).1, decide_eq_true e2]
  rfl
theorem tm_shaped {t : Tm} (h : t.ok (fun i => i.natAbs < 10 ^ 40) ∧ t.dep ≤ 50) : SeqAt.shaped t.d = true := by
  show (PyData.canLay0 t.d && decide (PyData.depth t.d ≤ 64)) = true
  have e := depth_d t
  rw [(fine_lay _ (fine_d (fun _ h => h) _ h.1)).1, decide_eq_true (by omega)]
  rfl
theorem tm_eqv {t u : Tm} (h : t.ok (fun i => i.natAbs < 10 ^ 40) ∧ t.dep ≤ 50) : PyData.eqv t.d u.d = decide (t = u) := by
  rw [Bool.eq_iff_iff, decide_eq_true_eq]
  exact ⟨eqv_d t u, fun e => by rw [← e]; exact SeqAt.eqv_refl _ (fine_lay _ (fine_d (fun _ h => h) _ h.1)).1⟩
structure KnD (K : PySem.W.Frag) (H : Hp) (kvs : List (Key × V)) (D : List (Int × Tm)) : Prop where
  keys : kvs.map (·.1) = (D.map (·.1)).map Sum.inl
  nd : (D.map (·.1)).Nodup
  some_ : ∀ i v, valV kvs (.inl i) = some v → ∃ u, (i, u) ∈ D ∧ Im K H v u.d ∧ u.ok (fun i => i.natAbs < 10 ^ 40) ∧ u.dep ≤ 50
  none_ : ∀ i, valV kvs (.inl i) = none → i ∉ D.map (·.1)
theorem KnD.mv {K : PySem.W.Frag} {S : List Addr} {H H' : Hp} {kvs : List (Key × V)} {D : List (Int × Tm)} (h : KnD K H kvs D) (m : Mv S H H') : KnD K H' kvs D :=
  ⟨h.keys, h.nd, fun i v e => let ⟨u, h1, h2, h3⟩ := h.some_ i v e; ⟨u, h1, h2.mv m, h3⟩, h.none_⟩
theorem KnD.nil {K : PySem.W.Frag} {H : Hp} : KnD K H [] [] := ⟨rfl, List.nodup_nil, fun i v e => (by cases e), fun i _ h => (by cases h)⟩
theorem KnD.con {K : PySem.W.Frag} {H : Hp} {kvs : List (Key × V)} {D : List (Int × Tm)} (h : KnD K H kvs D) : Con D := by
  have : ∀ (l : List (Int × Tm)), (l.map (·.1)).Nodup → Con l := by
    intro l
    induction l with
    | nil => intro _ p hp; cases hp
    | cons a l ih =>
      intro hn p hp q hq e
      rw [List.map_cons, List.nodup_cons] at hn
      rcases List.mem_cons.mp hp with rfl | hp'
      · rcases List.mem_cons.mp hq with rfl | hq'
        · rfl
        · exact absurd (List.mem_map.mpr ⟨q, hq', e.symm⟩) hn.1
      · rcases List.mem_cons.mp hq with rfl | hq'
        · exact absurd (List.mem_map.mpr ⟨p, hp', e⟩) hn.1
        · exact ih hn.2 p hp' q hq' e
  exact this D h.nd
theorem KnD.snoc {K : PySem.W.Frag} {H : Hp} {kvs : List (Key × V)} {D : List (Int × Tm)} {i : Int} {v : V} {u : Tm} (h : KnD K H kvs D) (hn : valV kvs (.inl i) = none) (hv : Im K H v u.d) (hu : u.ok (fun i => i.natAbs < 10 ^ 40) ∧ u.dep ≤ 50) : KnD K H (putK kvs (.inl i) v) (D ++ [(i, u)]) := by
  refine ⟨?_, ?_, fun j w e => ?_, fun j e => ?_⟩
  · rw [L2.putK_new v hn, List.map_append, h.keys, List.map_append, List.map_append]
    rfl
  · rw [List.map_append, List.nodup_append]
    refine ⟨h.nd, by simp, fun a ha b hb => ?_⟩
    simp only [List.map_cons, List.map_nil, List.mem_singleton] at hb
    rintro rfl
    exact h.none_ i hn (by rwa [hb] at ha)
  · rw [valV_put] at e
    by_cases hj : (Sum.inl j : Key) = .inl i
    · rw [if_pos hj] at e
      cases hj
      cases e
      exact ⟨u, by simp, hv, hu⟩
    · rw [if_neg hj] at e
      obtain ⟨u', h1, h2⟩ := h.some_ j w e
      exact ⟨u', List.mem_append.mpr (.inl h1), h2⟩
  · rw [valV_put] at e
    by_cases hj : (Sum.inl j : Key) = .inl i
    · rw [if_pos hj] at e
      cases e
    · rw [if_neg hj] at e
      have := h.none_ j e
      intro hm
      rw [List.map_append, List.mem_append] at hm
      rcases hm with hm | hm
      · exact this hm
      · simp only [List.map_cons, List.map_nil, List.mem_singleton] at hm
        exact hj (by rw [hm])
theorem ims_zip {K : PySem.W.Frag} {H H' : Hp} {xs ys : List V} {as : List Addr} {ts us : List Tm} (m : Mv [] H H') (hx : Ims K H xs (Tm.ds ts)) (hy : Ims K H ys (Tm.ds us)) (hl : as.length = min xs.length ys.length)
    (h : ∀ (j : Nat) (t : Addr), as[j]? = some t → ∃ x y, xs[j]? = some x ∧ ys[j]? = some y ∧ H' t = some (.tup [x, y])) : Ims K H' (as.map V.ref) ((ts.zip us).map prD) := by
  induction as generalizing xs ys ts us with
  | nil =>
    have e1 := hx.length
    have e2 := hy.length
    rw [Tm.ds_map, List.length_map] at e1 e2
    have : (ts.zip us) = [] := by
      apply List.eq_nil_of_length_eq_zero
      rw [List.length_zip]
      simp only [List.length_nil] at hl
      omega
    rw [this]
    exact Ims.nil
  | cons a as ih =>
    have e1 := hx.length
    have e2 := hy.length
    rw [Tm.ds_map, List.length_map] at e1 e2
    simp only [List.length_cons] at hl
    match xs, ys, ts, us, hx, hy with
    | [], _, _, _, _, _ => simp at hl
    | _ :: _, [], _, _, _, _ => simp at hl
    | x :: xs, y :: ys, [], _, _, _ => simp at e1
    | x :: xs, y :: ys, _ :: _, [], _, _ => simp at e2
    | x :: xs, y :: ys, t :: ts, u :: us, hx, hy =>
      obtain ⟨x', xs', ex, hx1, hx2⟩ := hx.invD
      obtain ⟨y', ys', ey, hy1, hy2⟩ := hy.invD
      cases ex
      cases ey
      obtain ⟨x0, y0, h1, h2, h3⟩ := h 0 a rfl
      cases h1
      cases h2
      refine Ims.cons (.tup (.inl (.inl h3)) (Ims.cons (hx1.mv m) (Ims.cons (hy1.mv m) Ims.nil))) ?_
      exact ih hx2 hy2 (by simp only [List.length_cons] at hl; omega) fun j t hj => h (j + 1) t (by simpa using hj)
def sp_stood (K : PySem.W.Frag) : Sp := fun vs H Q _ => ∃ (a b : Addr) (xs ys : List V) (ts us : List Tm), vs = [.ref a, .ref b] ∧ SqT K H a xs ∧ SqT K H b ys ∧ Ims K H xs (Tm.ds ts) ∧ Ims K H ys (Tm.ds us) ∧ ts.length = us.length ∧
  StkOk (ts.zip us) ∧ Tm.nod ts ≤ 4000 ∧ (∀ i ∈ Tm.leavesL ts, 0 ≤ i ∧ i < 60) ∧
  (∀ p H', Mv [] H H' → Inst ts us → Q (.ref p) H') ∧ (∀ H', Mv [] H H' → ¬ Inst ts us → Q .non H')
section
variable {P : Program} {w : World} {K : PySem.W.Frag} {mg : Str → Option Value} {base : Heap}
theorem ok_stood_for (T : TX K mg) {k : Nat} : FnOk P w K mg base CX0 (k + 1) T.d_stood_for.f T.d_stood_for.fd P_stood_for (sp_stood K) := by
  refine T.d_stood_for.F.ok sc_stood_for (fun vs H Q E h => ?_) (fun cdv A outer s H vs Q E hr h => ?_)
  · obtain ⟨_, _, _, _, _, _, rfl, _⟩ := h
    rfl
  · obtain ⟨a, b, xs, ys, ts, us, rfl, hA, hB, hxs, hys, hll, hS, hnd, hlf, q⟩ := h
    have hu64 := hr.units
    have hu65 := hu65_of hr
    have hu1 := hu1_of hr
    refine ⟨_, (pss_cons (ps_set (i := 2) sc_stood_for.nd rfl (Or.inr rfl) pe_dnewK) (pss_cons (ps_set (i := 3) sc_stood_for.nd rfl (Or.inl rfl) (pe_listZipT rfl (by rfl) T.b_list (by rfl) T.b_zip (pa_cons (pv 0) (pa_cons (pv 1) pa_nil)))) (pss_cons (ps_while PassesOwn.never (pt_cmpR (r := rNeNil K) (op_neNil (Nat.lt_of_le_of_lt (Nat.le_add_right _ 65) hu65)) (pv 3) (pe_lst pa_nil) (nomark _)) (pss_cons (ps_asg (pe_bm0 PySem.F.plainAttrs_list PySem.F.slot_list_pop PySem.F.type_list_pop mt_pop (pv 3)) (pg_tup rfl (pgs_cons (pg_name (i := 4) sc_stood_for.nd rfl (Or.inl rfl)) (pgs_cons (pg_name (i := 5) sc_stood_for.nd rfl (Or.inl rfl)) pgs_nil)))) (pss_one (ps_if (pt_val (pe_callB (r := rIsi K) call_isi (by rfl) T.b_isinstance bt_isinstance (pa_cons (pv 4) (pa_cons (pe_ty T.b_int bt_int) pa_nil)))) (pss_one (ps_if (pt_cmpR (r := rNeG K) (op_neG hu64) (pe_dsetd (pv 2) (pv 4) (pv 5) ⟨rfl, rfl, rfl, rfl⟩) (pv 5) (nomark _)) (pss_one (ps_ret pe_non)) pss_nil)) (pss_one (ps_if (PW.pt (pw_or (pt_val (pe_callB (r := rIsi K) call_isi (by rfl) T.b_isinstance bt_isinstance (pa_cons (pv 5) (pa_cons (pe_ty T.b_int bt_int) pa_nil)))) (pw_or (pt_cmpR (r := rNeG K) (op_neG hu64) (pe_ix (r := rIx K) ix_seq (pv 4) pe_int (fun _ _ => rfl)) (pe_ix (r := rIx K) ix_seq (pv 5) pe_int (fun _ _ => rfl)) (nomark _)) (pw_or1 (pt_cmpR (r := rNeG K) (op_neG hu64) (pe_callB (r := rLenG K) call_lenG (by rfl) T.b_len bt_len (pa_cons (pv 4) pa_nil)) (pe_callB (r := rLenG K) call_lenG (by rfl) T.b_len bt_len (pa_cons (pv 5) pa_nil)) (nomark _)))))) (pss_one (ps_ret pe_non)) (pss_one (ps_expr (pe_bm PySem.F.plainAttrs_list PySem.F.slot_list_extend PySem.F.type_list_extend (r := rExtG K) mt_extendG (pv 3) (pa_cons (pe_listZipT rfl (by rfl) T.b_list (by rfl) T.b_zip (pa_cons (pe_slice (r := rSlG K) sl_G (pv 4) (po_some pe_int) po_none) (pa_cons (pe_slice (r := rSlG K) sl_G (pv 5) (po_some pe_int) po_none) pa_nil))) pa_nil)))))))))) (pss_one (ps_ret (pe_lc (own := [("unknown", 6)]) (g := gName 6) (by rfl) sc_stood_for.nd (pi_seq (pe_callB (r := rSortDI) (cr_sortDI rfl) (by rfl) T.b_sorted bt_sorted (pa_cons (pv 2) pa_nil))) (blkOk_by (own := [("unknown", 6)]) (N := N_stood_for) (sc := defScope s_stood_for) (by decide +kernel)) (fun _ _ _ _ _ => pg_name (i := 6) sc_stood_for.nd rfl (Or.inl rfl)) (fun _ _ _ _ _ => pts_nil) (fun _ _ _ _ _ => (pe_tup (pa_cons (pv 6) (pa_cons (pe_dget hu1 (pv 2) (pv 6) (fun _ _ => rfl)) pa_nil)))))))))), ?_⟩
    refine fun dn nd => ?_
    have m0 : Mv [] H (upd H dn (.dK [])) := .new nd
    have e0 : upd H dn (.dK []) dn = some (.dK []) := upd_same
    generalize upd H dn (.dK []) = H0 at m0 e0 ⊢
    have hxl : xs.length = ts.length := by rw [hxs.length, Tm.ds_map, List.length_map]
    have hyl : ys.length = us.length := by rw [hys.length, Tm.ds_map, List.length_map]
    have htl := Tm.nod_len ts
    refine ⟨.ref a, rfl, .ref b, rfl, a, b, xs, ys, rfl, m0.sqT hA, m0.sqT hB, by omega, fun l as H1 m1 nl0 hal e1 hat => ?_⟩
    have nl : H l = none := m0.free nl0
    have ndl : dn ≠ l := ne_of_none e0 nl0
    have i1 := ims_zip m1 (hxs.mv m0) (hys.mv m0) hal hat
    have m01 := m0.trans m1
    have f1 := m1.same _ _ e0
    have hfit : Fit (ts.zip us) [] ↔ Inst ts us := fit_inst hll
    refine ⟨fun m σ H2 => ∃ (zs : List V) (W : List (Tm × Tm)) (kvs : List (Key × V)) (D : List (Int × Tm)) (y4 y5 y6 : Option V), σ = [some (.ref a), some (.ref b), some (.ref dn), some (.ref l), y4, y5, y6] ∧ H2 l = some (.lst zs) ∧ H2 dn = some (.dK kvs) ∧
      Ims K H2 zs (W.map prD) ∧ KnD K H2 kvs D ∧ StkOk W ∧ (Fit W D ↔ Inst ts us) ∧ (∀ i ∈ Tm.leavesL (stkF W), 0 ≤ i ∧ i < 60) ∧ (∀ i ∈ D.map (·.1), 0 ≤ i ∧ i < 60) ∧ Tm.nod (stkF W) ≤ 4000 ∧ m = Tm.nod (stkF W) ∧ Mv [] H H2,
      ⟨_, _, ts.zip us, [], [], none, none, none, rfl, e1, f1, i1, .nil, hS, hfit, by rw [stkF_zip hll]; exact hlf, fun i h => (by cases h), by rw [stkF_zip hll]; exact hnd, rfl, m01⟩, fun m σ H2 hW => ?_⟩
    obtain ⟨zs, W, kvs, D, y4, y5, y6, rfl, e2, f2, i2, k2, s2, hF, hl2, hd2, b2, rfl, m2⟩ := hW
    have hzl : zs.length = W.length := by rw [i2.length, List.length_map]
    refine ⟨.ref l, rfl, Nat.zero_le _, fun q1 n1 => ?_⟩
    have m3 : Mv [] H2 (upd H2 q1 (.lst [])) := .new n1
    have e3 : upd H2 q1 (.lst []) l = some (.lst zs) := m3.same _ _ e2
    have f3 : upd H2 q1 (.lst []) dn = some (.dK kvs) := m3.same _ _ f2
    refine ⟨l, q1, zs, rfl, rfl, .inl (.inl e3), .inl (.inl upd_same), ?_⟩
    have m23 := m2.trans m3
    have i3 := i2.mv m3
    have k3 := k2.mv m3
    generalize upd H2 q1 (.lst []) = H3 at m3 e3 f3 m23 i3 k3 ⊢
    refine ⟨_, rfl, ?_⟩
    rcases List.eq_nil_or_concat W with rfl | ⟨W', p, rfl⟩
    · have hI : Inst ts us := hF.mp (fit_nil.mpr k3.con)
      obtain rfl : zs = [] := List.eq_nil_of_length_eq_zero hzl
      have hDl : (D.map (·.1)).length < 64 := by
        have h60 := nd_few (l := (List.range 60).map fun n : Nat => (n : Int)) k3.nd fun i hi => by
          have := hd2 i hi
          exact List.mem_map.mpr ⟨i.toNat, by simp; omega, by omega⟩
        simp only [List.length_map, List.length_range] at h60 ⊢
        omega
      refine ⟨.ref dn, rfl, dn, kvs, D.map (·.1), rfl, .inl f3, k3.keys, hDl, fun ns p3 hperm _ n3 => ?_⟩
      have e4 : upd H3 p3 (.lst (ns.map V.int)) p3 = some (.lst (ns.map V.int)) := upd_same
      have m4 : Mv [] H3 (upd H3 p3 (.lst (ns.map V.int))) := .new n3
      have f4 := m4.same _ _ f3
      have k4 := k3.mv m4
      generalize upd H3 p3 (.lst (ns.map V.int)) = H4 at m4 e4 f4 k4 ⊢
      have hnl : ns.length < 64 := by rw [hperm.length_eq]; exact hDl
      refine ⟨p3, rfl, ?_⟩
      refine lc_seq (xs := ns.map V.int) (.inl (.inl (.inl e4))) (fun i C H5 => ∃ vs, H5 C = some (.lst vs) ∧ vs.length = i ∧ Mv [] H4 H5)
        (fun C nC => ⟨[], upd_same, rfl, .new nC⟩) (fun i C H5 nC h5 => h5.elim fun _ h => h.2.2) (fun C nC i x H5 hx h5 => ?_) (fun C H5 nC h5 => ?_)
      · obtain ⟨vs, e5, hvl, m5⟩ := h5
        rw [List.getElem?_map] at hx
        obtain ⟨u, hu, rfl⟩ := Option.map_eq_some_iff.mp hx
        have hi := (List.getElem?_eq_some_iff.mp hu).1
        have hmem : u ∈ D.map (·.1) := hperm.mem_iff.mp (List.mem_of_getElem? hu)
        have f5 := m5.same _ _ f4
        cases hv : valV kvs (.inl u) with
        | none => exact absurd hmem (k4.none_ u hv)
        | some v =>
          refine ⟨rfl, .int u, rfl, .ref dn, rfl, .int u, rfl, dn, v, rfl, Or.inl ⟨kvs, .inl u, .inl f5, rfl, hv.symm⟩, ?_⟩
          refine ⟨by show 2 ≤ sizeLine; decide, fun p6 n6 => ?_⟩
          have e6 : upd H5 p6 (.tup [.int u, v]) C = some (.lst vs) := (Mv.new (S := []) n6).same _ _ e5
          refine ⟨vs, e6, by rw [hvl]; exact line5lt (by omega), vs ++ [.ref p6], upd_same, by rw [List.length_append, hvl]; rfl, (m5.trans (.new n6)).wr nC⟩
      · obtain ⟨vs, e5, hvl, m5⟩ := h5
        exact q.1 C H5 (m23.trans (m4.trans m5)) hI
    · rw [List.concat_eq_append] at *
      rw [List.map_append] at i3
      obtain ⟨zs', z, rfl, i4, hz⟩ := Ims.last (ds := W'.map prD) (d := prD p) i3
      rw [show (!(zs' ++ [z]).isEmpty) = true by simp]
      refine ⟨fun σ' H' => ∃ m', m' < Tm.nod (stkF (W' ++ [p])) ∧ _, fun _ _ h => h, ?_⟩
      refine ⟨.ref l, rfl, .inl ⟨rfl, _, .inl (.inl e3)⟩, l, _, z, rfl, rfl, e3, by simp, ?_⟩
      have m5 : Mv [l] H3 (upd H3 l (.lst (zs' ++ [z]).dropLast)) := .set e3 (by simp)
      have m25 : Mv [] H (upd H3 l (.lst (zs' ++ [z]).dropLast)) := m23.wr nl
      have e5 : upd H3 l (.lst (zs' ++ [z]).dropLast) l = some (.lst zs') := by rw [upd_same, List.dropLast_concat]
      have f5 : upd H3 l (.lst (zs' ++ [z]).dropLast) dn = some (.dK kvs) := by rw [upd_ne ndl]; exact f3
      have k5 := k3.mv m5
      generalize upd H3 l (.lst (zs' ++ [z]).dropLast) = H5 at m5 m25 e5 f5 k5 ⊢
      obtain ⟨zp, zz, rfl, hzp, hzz⟩ := (hz.mv m5).tupI
      obtain ⟨x1, zz1, rfl, hx1, hzz1⟩ := hzz.invD
      obtain ⟨x2, zz2, rfl, hx2, hzz2⟩ := hzz1.invD
      rw [hzz2.nilD] at hzp
      clear hzz hzz1 hzz2
      refine ⟨zp, [x1, x2], rfl, hzp, rfl, ?_⟩
      refine ⟨x1, [x2], rfl, ?_⟩
      refine ⟨x2, [], rfl, rfl, ?_⟩
      refine ⟨x1, rfl, ?_⟩
      walk_at "nn"
      refine rd_isInt hx1 ?_
      refine ⟨_, rfl, ?_⟩
      obtain ⟨t, u⟩ := p
      have st := s2.l (t, u) (by simp)
      have su := s2.r (t, u) (by simp)
      have s3 : StkOk W' := ⟨fun q hq => s2.l q (by simp [hq]), fun q hq => s2.r q (by simp [hq])⟩
      have hnW : Tm.nod (stkF (W' ++ [(t, u)])) = Tm.nod (stkF W') + Tm.nod [t] := by
        unfold stkF
        rw [List.map_append, Tm.nod_append]
        rfl
      rw [hnW] at b2 ⊢
      dsimp only at hx1 hx2
      have hlen' : zs'.length = W'.length := by rw [i4.length, List.length_map]
      have i5 := i4.mv m5
      have hWl := Tm.nod_len (stkF W')
      rw [show (stkF W').length = W'.length from List.length_map ..] at hWl
      have hlW : ∀ i ∈ Tm.leavesL (stkF W'), 0 ≤ i ∧ i < 60 := fun i hi => hl2 i (by
        unfold stkF
        rw [List.map_append, Tm.leavesL_append]
        exact List.mem_append.mpr (.inl hi))
      have hlt : ∀ i ∈ t.leaves, 0 ≤ i ∧ i < 60 := fun i hi => hl2 i (by
        unfold stkF
        rw [List.map_append, Tm.leavesL_append]
        exact List.mem_append.mpr (.inr (by simpa [Tm.leavesL] using hi)))
      cases t with
      | var i =>
        cases hx1.intI
        have hi60 := hlt i (by simp [Tm.leaves])
        rw [Tm.nod_var] at b2 ⊢
        have hkl : kvs.length ≤ 60 := by
          have h60 := nd_few (l := (List.range 60).map fun n : Nat => (n : Int)) k5.nd fun i hi => by
            have := hd2 i hi
            exact List.mem_map.mpr ⟨i.toNat, by simp; omega, by omega⟩
          have e := congrArg List.length k5.keys
          simp only [List.length_map, List.length_range] at h60 e
          omega
        refine ⟨.ref dn, rfl, dn, rfl, .inl ⟨kvs, .inl f5⟩, .int i, rfl, x2, rfl, kvs, .inl i, f5, rfl, line5lt (by omega), fun v hv => ?_, fun hv => ?_⟩
        · obtain ⟨u', hm', hv', hu'⟩ := k5.some_ i v hv
          refine ⟨x2, rfl, Or.inr ⟨u'.d, u.d, hv'.dp, hx2.dp, tm_shaped hu', tm_shaped su, ?_⟩⟩
          rw [tm_eqv hu']
          refine ⟨_, rfl, ?_⟩
          by_cases he : u' = u
          · subst he
            rw [decide_eq_true rfl]
            refine ⟨Tm.nod (stkF W'), by omega, zs', W', kvs, D, _, _, _, rfl, e5, f5, i5, k5, s3, ?_, hlW, hd2, by omega, rfl, m25⟩
            rw [← hF, fit_var]
            exact fit_mem fun p => ⟨fun h => List.mem_append.mpr (.inl h), fun h => (List.mem_append.mp h).elim id fun h => by rw [List.mem_singleton.mp h]; exact hm'⟩
          · rw [decide_eq_false he]
            refine q.2 H5 m25 fun hI => ?_
            have h1 := hF.mpr hI
            rw [fit_var] at h1
            refine fit_con (fun c => he ?_) h1
            exact c (i, u') (by simp [hm']) (i, u) (by simp) rfl
        · refine ⟨x2, rfl, Or.inr ⟨u.d, u.d, (hx2.mv (Mv.putD f5)).dp, (hx2.mv (Mv.putD f5)).dp, tm_shaped su, tm_shaped su, ?_⟩⟩
          rw [tm_eqv su, decide_eq_true rfl]
          refine ⟨_, rfl, ?_⟩
          have m6 : Mv [dn] H5 (upd H5 dn (.dK (putK kvs (.inl i) x2))) := .putD f5
          refine ⟨Tm.nod (stkF W'), by omega, zs', W', putK kvs (.inl i) x2, D ++ [(i, u)], _, _, _, rfl, ?_, upd_same, i5.mv m6, (k5.snoc hv hx2 su).mv m6, s3, ?_, hlW, ?_, by omega, rfl, m25.wr nd⟩
          · rw [upd_ne ndl.symm]
            exact e5
          · rw [← hF, fit_var]
          · intro j hj
            rw [List.map_append, List.mem_append] at hj
            rcases hj with hj | hj
            · exact hd2 j hj
            · simp only [List.map_cons, List.map_nil, List.mem_singleton] at hj
              rw [hj]
              exact hi60
      | op x vs =>
        obtain ⟨a1, z1, rfl, ha1, hz1⟩ := hx1.tupI
        obtain ⟨n1, zs1, rfl, hn1, hzs1⟩ := hz1.invD
        refine ⟨x2, rfl, ?_⟩
        walk_at "nn"
        refine rd_isInt hx2 ?_
        refine ⟨_, rfl, ?_⟩
        cases u with
        | var j =>
          refine q.2 H5 m25 fun hI => ?_
          exact fit_clash (by simp [Tm.hd]) (hF.mpr hI)
        | op y ws =>
          obtain ⟨a2, z2, rfl, ha2, hz2⟩ := hx2.tupI
          obtain ⟨n2, zs2, rfl, hn2, hzs2⟩ := hz2.invD
          cases hn1.strI
          cases hn2.strI
          refine ⟨.ref a1, rfl, rd_ixT ha1 (by decide) (v := .str x) rfl ⟨.ref a2, rfl, rd_ixT ha2 (by decide) (v := .str y) rfl (Or.inl ⟨rfl, _, rfl, ite2 (fun e => ?_) (fun e => ?_)⟩)⟩⟩
          · have hxy : x ≠ y := fun z => by rw [z] at e; simp at e
            exact q.2 H5 m25 fun hI => fit_clash (by simp [Tm.hd]; exact fun z => absurd z.symm hxy) (hF.mpr hI)
          have hxy : x = y := by simpa using e
          subst hxy
          have hl1 : zs1.length = vs.length := by rw [hzs1.length, Tm.ds_map, List.length_map]
          have hl3 : zs2.length = ws.length := by rw [hzs2.length, Tm.ds_map, List.length_map]
          refine ⟨.ref a1, rfl, ?_⟩
          walk_at "nc"
          refine rd_len (.inr ha1) ⟨.ref a2, rfl, ?_⟩
          walk_at "nc"
          refine rd_len (.inr ha2) (Or.inl ⟨rfl, _, rfl, ite2 (fun e => ?_) (fun e => ?_)⟩)
          · have hvw : vs.length ≠ ws.length := fun z => by rw [List.length_cons, List.length_cons, hl1, hl3, z] at e; simp at e
            exact q.2 H5 m25 fun hI => fit_clash (by simp [Tm.hd]; exact fun z => hvw z.symm) (hF.mpr hI)
          have hvw : vs.length = ws.length := by
            rw [List.length_cons, List.length_cons, hl1, hl3] at e
            simp at e
            omega
          have hvs := Tm.nod_len vs
          rw [Tm.nod_op] at b2 ⊢
          refine ⟨.ref l, rfl, .inl ⟨rfl, _, .inl (.inl e5)⟩, .ref a1, rfl, _, rfl, ?_⟩
          refine rd_sl1 ha1 fun p6 H6 m6 e6 => ⟨.ref a2, rfl, _, rfl, rd_sl1 (m6.sqT ha2) fun p7 H7 m7 e7 => ?_⟩
          have hdv : Tm.deps vs ≤ 50 ∧ Tm.deps ws ≤ 50 := by
            have h1 := st.2
            have h2 := su.2
            simp only [Tm.dep] at h1 h2
            exact ⟨by omega, by omega⟩
          have s6 : StkOk (vs.zip ws) := StkOk.zip st.1.2.2 hdv.1 su.1.2.2 hdv.2
          have m67 := m6.trans m7
          refine ⟨p6, p7, zs1, zs2, rfl, m7.sqT e6, e7, by omega, fun p8 as' H8 m8 n8 hal' e8 hat' => ?_⟩
          have m58 := m67.trans m8
          have e58 := m58.same _ _ e5
          have f58 := m58.same _ _ f5
          have hal2 : as'.length = vs.length := by omega
          refine Or.inl ⟨l, p8, zs', as'.map V.ref, rfl, rfl, e58, e8, line5 (by rw [List.length_map]; omega), ?_⟩
          have i8 := ims_zip m8 (hzs1.mv m67) (hzs2.mv m67) hal' hat'
          have m9 : Mv [l] H8 (upd H8 l (.lst (zs' ++ as'.map V.ref))) := .set e58 (by simp)
          have hnW2 : Tm.nod (stkF (W' ++ vs.zip ws)) = Tm.nod (stkF W') + Tm.nod vs := by
            unfold stkF
            rw [List.map_append, Tm.nod_append, List.map_fst_zip (by omega)]
          refine ⟨Tm.nod (stkF (W' ++ vs.zip ws)), by omega, _, W' ++ vs.zip ws, kvs, D, _, _, _, rfl, upd_same, ?_, ?_, (k5.mv m58).mv m9, s3.app s6, ?_, ?_, hd2, by omega, rfl, (m25.trans m58).wr nl⟩
          · rw [upd_ne ndl]
            exact f58
          · rw [List.map_append]
            exact ((i5.mv m58).append i8).mv m9
          · rw [← hF, fit_op hvw]
          · intro i hi
            unfold stkF at hi
            rw [List.map_append, Tm.leavesL_append, List.mem_append, List.map_fst_zip (by omega)] at hi
            exact hi.elim (hlW i) fun h => hlt i (by simpa [Tm.leaves] using h)
end
end Fm
namespace Fm
open PySem PySem.Spec PyProof.Rows L2 SlX
def colD (c : List Tm) : PyData := .list (Tm.ds c)
def hdD : Tm → PyData
  | .var _ => .none
  | .op x ts => .tuple [.str x, .int ((ts.length : Int) + 1)]
def ColF (c : List Tm) : Prop := ∀ u ∈ c, u.ok (fun i => 0 ≤ i ∧ i.natAbs < 10 ^ 40) ∧ u.dep ≤ 50
theorem ColF.oks {c : List Tm} (h : ColF c) : Tm.oks (fun i => i.natAbs < 10 ^ 40) c := Tm.oks_iff.mpr fun t ht => Tm.ok_on t (h t ht).1 fun i hi => (Tm.ok_leaves t (h t ht).1 i hi).2
theorem ColF.deps {c : List Tm} (h : ColF c) : Tm.deps c ≤ 50 := Tm.deps_le.mpr fun t ht => (h t ht).2
theorem ColF.fine {c : List Tm} (h : ColF c) : fine (colD c) := fine_ds (fun _ h => h) c h.oks
theorem cols_fine : ∀ {cs : List (List Tm)}, (∀ c ∈ cs, ColF c) → fineAll (cs.map colD) ∧ PyData.depthAll (cs.map colD) ≤ 52
  | [], _ => ⟨trivial, by simp [PyData.depthAll]⟩
  | c :: cs, h => by
    obtain ⟨i1, i2⟩ := cols_fine (cs := cs) fun q hq => h q (List.mem_cons_of_mem _ hq)
    have hc := h c List.mem_cons_self
    have hd := hc.deps
    refine ⟨⟨hc.fine, i1⟩, ?_⟩
    simp only [List.map_cons, PyData.depthAll, colD, PyData.depth, depth_ds]
    omega
theorem cols_shaped {cs : List (List Tm)} (h : ∀ c ∈ cs, ColF c) : SeqAt.shaped (.list (cs.map colD)) = true := by
  obtain ⟨h1, h2⟩ := cols_fine h
  show (PyData.canLay0 (.list (cs.map colD)) && decide (PyData.depth (.list (cs.map colD)) ≤ 64)) = true
  have e2 : PyData.depth (.list (cs.map colD)) ≤ 64 := by
    simp only [PyData.depth]
    omega
  rw [(fine_lay (.list (cs.map colD)) h1).1, decide_eq_true e2]
  rfl
theorem col_shaped {c : List Tm} (h : ColF c) : SeqAt.shaped (colD c) = true := by
  have hd := h.deps
  show (PyData.canLay0 (colD c) && decide (PyData.depth (colD c) ≤ 64)) = true
  have e2 : PyData.depth (colD c) ≤ 64 := by
    simp only [colD, PyData.depth, depth_ds]
    omega
  rw [(fine_lay (colD c) h.fine).1, decide_eq_true e2]
  rfl
theorem col_eqv {a b : List Tm} (h : ColF a) : PyData.eqv (colD a) (colD b) = decide (a = b) := by
  rw [Bool.eq_iff_iff, decide_eq_true_eq]
  exact ⟨fun h => eqv_ds a b (by simpa [colD, PyData.eqv] using h), fun e => by rw [← e]; exact SeqAt.eqv_refl _ (fine_lay _ h.fine).1⟩
theorem cols_any {cs : List (List Tm)} {c : List Tm} (h : ∀ c ∈ cs, ColF c) : ((cs.map colD).any fun z => PyData.eqv z (colD c)) = decide (c ∈ cs) := by
  rw [Bool.eq_iff_iff, List.any_eq_true, decide_eq_true_eq]
  constructor
  · rintro ⟨d, hd, e⟩
    obtain ⟨a, ha, rfl⟩ := List.mem_map.mp hd
    rw [col_eqv (h a ha)] at e
    exact (of_decide_eq_true e) ▸ ha
  · intro hc
    exact ⟨_, List.mem_map.mpr ⟨c, hc, rfl⟩, by rw [col_eqv (h c hc)]; exact decide_eq_true rfl⟩
theorem hd_eqv (u : Tm) (x : Str) (ts : List Tm) : PyData.eqv (hdD u) (hdD (.op x ts)) = decide (Tm.hd u = some (x, ts.length)) := by
  cases u with
  | var i => simp [hdD, Tm.hd, PyData.eqv]
  | op y us =>
    rw [Bool.eq_iff_iff, decide_eq_true_eq]
    simp [hdD, Tm.hd, PyData.eqv, PyData.eqvAll]
    intro _
    omega
theorem hds_count (c : List Tm) (x : Str) (ts : List Tm) : ((c.map hdD).countP fun z => PyData.eqv z (hdD (.op x ts))) = c.length ↔ c.all (fun u => decide (Tm.hd u = some (x, ts.length))) = true := by
  rw [List.countP_map, List.countP_eq_length, List.all_eq_true]
  constructor
  · intro h u hu
    have := h u hu
    simpa [hd_eqv] using this
  · intro h u hu
    show PyData.eqv (hdD u) (hdD (.op x ts)) = true
    rw [hd_eqv]
    exact h u hu
theorem hd_fine : ∀ {u : Tm}, u.ok (fun i => 0 ≤ i ∧ i.natAbs < 10 ^ 40) → fine (hdD u) ∧ PyData.depth (hdD u) ≤ 2
  | .var i, _ => ⟨trivial, by simp [hdD, PyData.depth]⟩
  | .op x ts, h => by
    refine ⟨?_, by simp [hdD, PyData.depth, PyData.depthAll]⟩
    have h1 : fine (Tm.d (.op x ts)) := fine_d (fun _ h => h.2) _ h
    have h2 : ts.length ≤ 3 := h.2.1
    have h3 : PyData.strOk x = true := h1.1
    refine ⟨h3, ?_, trivial⟩
    exact Nat.lt_of_lt_of_le (show ((ts.length : Int) + 1).natAbs < 100 by omega) (by decide)
theorem hds_shaped : ∀ {c : List Tm}, ColF c → fineAll (c.map hdD) ∧ PyData.depthAll (c.map hdD) ≤ 2
  | [], _ => ⟨trivial, by simp [PyData.depthAll]⟩
  | u :: c, h => by
    obtain ⟨i1, i2⟩ := hds_shaped (c := c) fun q hq => h q (List.mem_cons_of_mem _ hq)
    obtain ⟨h1, h2⟩ := hd_fine (h u List.mem_cons_self).1
    refine ⟨⟨h1, i1⟩, ?_⟩
    simp only [List.map_cons, PyData.depthAll]
    omega
theorem shaped_fi {d : PyData} (h : fine d) (hd : PyData.depth d ≤ 64) : SeqAt.shaped d = true := by
  show (PyData.canLay0 d && decide (PyData.depth d ≤ 64)) = true
  rw [(fine_lay d h).1, decide_eq_true hd]
  rfl
theorem foldg_one {α : Type} [DecidableEq α] (acc : List α) (u : α) : [u].foldl stpg acc = if u ∈ acc then acc else acc ++ [u] := rfl
theorem num_grow {α : Type} [DecidableEq α] {gs : List (Gt α)} {acc l : List α} (h : ∀ a ∈ Gt.labs gs, a ∈ acc) : Gt.nums (idxN (l.foldl stpg acc)) gs = Gt.nums (idxN acc) gs := by
  obtain ⟨r, e⟩ := foldg_pre l acc
  rw [e]
  refine Gt.nums_congr gs fun a ha => ?_
  unfold idxN
  rw [idx_pre (h a ha)]
theorem Gt.nums_snoc {α : Type} (f : α → Int) : ∀ (gs : List (Gt α)) (g : Gt α), Gt.nums f (gs ++ [g]) = Gt.nums f gs ++ [g.num f]
  | [], g => by simp [Gt.nums]
  | a :: gs, g => by simp only [List.cons_append, Gt.nums, Gt.nums_snoc f gs g]
theorem Gt.labs_snoc {α : Type} (gs : List (Gt α)) (g : Gt α) : Gt.labs (gs ++ [g]) = Gt.labs gs ++ g.lab := by
  rw [Gt.labs_app]
  simp [Gt.labs]
theorem skL_get : ∀ {ts : List Tm} {k j : Nat} {us : List Tm} {t : Tm}, ts[j]? = some t → (skL ts k us)[j]? = some (skT t (us.map (Tm.arg (k + j))))
  | t :: ts, k, 0, us, _, h => by
    cases h
    rfl
  | t :: ts, k, j + 1, us, u, h => by
    rw [skL, List.getElem?_cons_succ, skL_get (k := k + 1) (by simpa using h)]
    congr 4
    omega
theorem skL_len : ∀ (ts : List Tm) (k : Nat) (us : List Tm), (skL ts k us).length = ts.length
  | [], _, _ => rfl
  | t :: ts, k, us => by simp only [skL, List.length_cons, skL_len ts]
theorem skL_take : ∀ (ts : List Tm) (k i : Nat) (us : List Tm), (skL ts k us).take i = skL (ts.take i) k us
  | [], _, i, _ => by simp [skL]
  | t :: ts, k, 0, us => by simp [skL]
  | t :: ts, k, i + 1, us => by simp only [skL, List.take_succ_cons, skL_take ts (k + 1) i us]
theorem nod_cons (t : Tm) (ts : List Tm) : Tm.nod (t :: ts) = Tm.nod [t] + Tm.nod ts := by
  rw [show t :: ts = [t] ++ ts from rfl, Tm.nod_append]
mutual
theorem skT_labs : ∀ (t : Tm) (us : List Tm), (skT t us).lab.length ≤ Tm.nod [t]
  | .var i, us => by simp [skT, Gt.lab, Tm.nod_var]
  | .op x ts, us => by
    rw [Tm.nod_op, skT]
    split
    · have := skL_labs ts 0 us
      simp only [Gt.lab]
      omega
    · simp [Gt.lab]
theorem skL_labs : ∀ (ts : List Tm) (k : Nat) (us : List Tm), (Gt.labs (skL ts k us)).length ≤ Tm.nod ts
  | [], k, us => by simp [skL, Gt.labs]
  | t :: ts, k, us => by
    have h1 := skT_labs t (us.map (Tm.arg k))
    have h2 := skL_labs ts (k + 1) us
    rw [nod_cons]
    simp only [skL, Gt.labs, List.length_append]
    omega
end
theorem foldg_len {α : Type} [DecidableEq α] : ∀ (l acc : List α), (l.foldl stpg acc).length ≤ acc.length + l.length
  | [], acc => by simp
  | x :: l, acc => by
    have := foldg_len l (stpg acc x)
    have h2 : (stpg acc x).length ≤ acc.length + 1 := by
      unfold stpg
      split <;> simp
    simp only [List.foldl_cons, List.length_cons]
    omega
theorem arg_get {x : Str} {ts : List Tm} {k : Nat} {u : Tm} (h : Tm.hd u = some (x, ts.length)) (hk : k < ts.length) : ∃ y vs, u = .op y vs ∧ vs[k]? = some (u.arg k) := by
  cases u with
  | var i => cases h
  | op y vs =>
    simp only [Tm.hd, Option.some.injEq, Prod.mk.injEq] at h
    refine ⟨y, vs, rfl, ?_⟩
    rw [Tm.arg, List.getD_eq_getElem?_getD, List.getElem?_eq_getElem (by omega)]
    rfl
theorem colF_arg {c : List Tm} {x : Str} {ts : List Tm} {k : Nat} (h : ColF c) (hh : ∀ u ∈ c, Tm.hd u = some (x, ts.length)) (hk : k < ts.length) : ColF (c.map (Tm.arg k)) := by
  intro v hv
  obtain ⟨u, hu, rfl⟩ := List.mem_map.mp hv
  obtain ⟨y, vs, rfl, hvs⟩ := arg_get (hh u hu) hk
  obtain ⟨h1, h2⟩ := h _ hu
  have hm := List.mem_of_getElem? hvs
  refine ⟨Tm.oks_iff.mp h1.2.2 _ hm, ?_⟩
  simp only [Tm.dep] at h2
  exact Tm.deps_le.mp (show Tm.deps vs ≤ 50 by omega) _ hm
mutual
theorem skT_colF : ∀ (t : Tm) (us : List Tm), ColF (t :: us) → ∀ c ∈ (skT t us).lab, ColF c
  | .var i, us, h, c, hc => by
    rw [skT, Gt.lab, List.mem_singleton] at hc
    rw [hc]
    exact h
  | .op x ts, us, h, c, hc => by
    rw [skT] at hc
    split at hc
    · rename_i hall
      refine skL_colF ts 0 us (fun j t' ht' => ?_) c (by simpa [Gt.lab] using hc)
      have hj := (List.getElem?_eq_some_iff.mp ht').1
      have h1 := colF_arg (x := x) (ts := ts) (k := j) h (fun u hu => by
        rcases List.mem_cons.mp hu with rfl | hu
        · rfl
        · exact of_decide_eq_true (List.all_eq_true.mp hall u hu)) hj
      rw [List.map_cons, Tm.arg, List.getD_eq_getElem?_getD, ht'] at h1
      rw [Nat.zero_add]
      exact h1
    · rw [Gt.lab, List.mem_singleton] at hc
      rw [hc]
      exact h
theorem skL_colF : ∀ (ts : List Tm) (k : Nat) (us : List Tm), (∀ j t', ts[j]? = some t' → ColF (t' :: us.map (Tm.arg (k + j)))) → ∀ c ∈ Gt.labs (skL ts k us), ColF c
  | [], k, us, h, c, hc => by simp [skL, Gt.labs] at hc
  | t :: ts, k, us, h, c, hc => by
    simp only [skL, Gt.labs, List.mem_append] at hc
    rcases hc with hc | hc
    · exact skT_colF t _ (h 0 t rfl) c hc
    · refine skL_colF ts (k + 1) us (fun j t' ht' => ?_) c hc
      have := h (j + 1) t' (by simpa using ht')
      rwa [show k + (j + 1) = k + 1 + j by omega] at this
end
end Fm
namespace Fm
open PySem PySem.Spec PyProof.Rows L2
def skC : List Tm → Gt (List Tm)
  | [] => .leaf []
  | t :: us => skT t us
def sel (f : List Nat) (c : List Tm) : List Tm := f.map fun i => c.getD i (.var 0)
theorem sel_arg {f : List Nat} {c : List Tm} (k : Nat) (h : ∀ i ∈ f, i < c.length) : sel f (c.map (Tm.arg k)) = (sel f c).map (Tm.arg k) := by
  unfold sel
  rw [List.map_map]
  refine List.map_congr_left fun i hi => ?_
  have hlt := h i hi
  simp [List.getD_eq_getElem?_getD, hlt]
theorem sel_mem {f : List Nat} {c : List Tm} (h : ∀ i ∈ f, i < c.length) (hc : ∀ j, j < c.length → j ∈ f) (u : Tm) : u ∈ sel f c ↔ u ∈ c := by
  unfold sel
  rw [List.mem_map]
  constructor
  · rintro ⟨i, hi, rfl⟩
    have hlt := h i hi
    rw [List.getD_eq_getElem?_getD, List.getElem?_eq_getElem hlt]
    exact List.getElem_mem hlt
  · intro hu
    obtain ⟨j, hj, rfl⟩ := List.mem_iff_getElem.mp hu
    exact ⟨j, hc j hj, by rw [List.getD_eq_getElem?_getD, List.getElem?_eq_getElem hj]; rfl⟩
theorem sel_inj {f : List Nat} {c d : List Tm} (hc : ∀ j, j < c.length → j ∈ f) (hl : c.length = d.length) (e : sel f c = sel f d) : c = d := by
  refine List.ext_getElem hl fun j h1 h2 => ?_
  unfold sel at e
  have := (List.map_inj_left.mp e) j (hc j h1)
  simpa [List.getD_eq_getElem?_getD, h1, h2] using this
theorem skC_op {x : Str} {ts us : List Tm} (h : us.all (fun u => decide (Tm.hd u = some (x, ts.length))) = true) : skC (.op x ts :: us) = .op x ((List.range ts.length).map fun k => skC ((Tm.op x ts :: us).map (Tm.arg k))) := by
  rw [skC, skT, if_pos h]
  congr 1
  refine List.ext_getElem? fun j => ?_
  by_cases hj : j < ts.length
  · obtain ⟨t, ht⟩ : ∃ t, ts[j]? = some t := ⟨_, List.getElem?_eq_getElem hj⟩
    rw [skL_get ht, List.getElem?_map, List.getElem?_range hj, Nat.zero_add]
    simp only [Option.map_some, List.map_cons, skC]
    rw [show (Tm.op x ts).arg j = t by rw [Tm.arg, List.getD_eq_getElem?_getD, ht]; rfl]
  · rw [List.getElem?_eq_none (by rw [skL_len]; omega), List.getElem?_eq_none (by simp; omega)]
theorem skC_leaf {c : List Tm} (h : ∀ x n, ¬ ∀ u ∈ c, Tm.hd u = some (x, n)) : skC c = .leaf c := by
  cases c with
  | nil => rfl
  | cons t us =>
    cases t with
    | var i => rfl
    | op x ts =>
      rw [skC, skT, if_neg]
      intro z
      refine h x ts.length fun u hu => ?_
      rcases List.mem_cons.mp hu with rfl | hu
      · rfl
      · exact of_decide_eq_true (List.all_eq_true.mp z u hu)
theorem skC_same {c : List Tm} {x : Str} {n : Nat} (hc : c ≠ []) (h : ∀ u ∈ c, Tm.hd u = some (x, n)) : skC c = .op x ((List.range n).map fun k => skC (c.map (Tm.arg k))) := by
  cases c with
  | nil => exact absurd rfl hc
  | cons t us =>
    have ht := h t List.mem_cons_self
    cases t with
    | var i => cases ht
    | op y ts =>
      simp only [Tm.hd, Option.some.injEq, Prod.mk.injEq] at ht
      obtain ⟨rfl, rfl⟩ := ht
      exact skC_op (List.all_eq_true.mpr fun u hu => decide_eq_true (h u (List.mem_cons_of_mem _ hu)))
theorem arg_dep {u : Tm} {x : Str} {n k : Nat} (h : Tm.hd u = some (x, n)) (hk : k < n) : (u.arg k).dep < u.dep := by
  cases u with
  | var i => cases h
  | op y vs =>
    simp only [Tm.hd, Option.some.injEq, Prod.mk.injEq] at h
    have hlt : k < vs.length := by omega
    rw [Tm.arg, List.getD_eq_getElem?_getD, List.getElem?_eq_getElem hlt]
    have := Tm.deps_le.mp (Nat.le_refl (Tm.deps vs)) _ (List.getElem_mem hlt)
    simp only [Option.getD_some, Tm.dep]
    omega
theorem skC_sel {f : List Nat} : ∀ (d : Nat) (c : List Tm), (∀ u ∈ c, u.dep < d) → c ≠ [] → (∀ i ∈ f, i < c.length) → (∀ j, j < c.length → j ∈ f) → skC (sel f c) = (skC c).map (sel f)
  | 0, c, hd, hc, _, _ => by
    cases c with
    | nil => exact absurd rfl hc
    | cons t us => exact absurd (hd t List.mem_cons_self) (Nat.not_lt_zero _)
  | d + 1, c, hd, hc, h1, h2 => by
    have hm := sel_mem h1 h2
    have hs : sel f c ≠ [] := fun z => by
      cases c with
      | nil => exact hc rfl
      | cons t us =>
        have := (hm t).mpr List.mem_cons_self
        rw [z] at this
        cases this
    by_cases h : ∃ x n, ∀ u ∈ c, Tm.hd u = some (x, n)
    · obtain ⟨x, n, h⟩ := h
      rw [skC_same hc h, skC_same hs fun u hu => h u ((hm u).mp hu), Gt.map]
      congr 1
      have hmaps : ∀ gs : List (Gt (List Tm)), Gt.maps (sel f) gs = gs.map (Gt.map (sel f)) := fun gs => by
        induction gs with
        | nil => rfl
        | cons g gs ih => simp only [Gt.maps, List.map_cons, ih]
      rw [hmaps, List.map_map]
      refine List.map_congr_left fun k hk => ?_
      have hkn : k < n := List.mem_range.mp hk
      show skC ((sel f c).map (Tm.arg k)) = (skC (c.map (Tm.arg k))).map (sel f)
      rw [← sel_arg k h1]
      refine skC_sel d (c.map (Tm.arg k)) (fun u hu => ?_) (by simpa using hc) (by simpa using h1) (by simpa using h2)
      obtain ⟨v, hv, rfl⟩ := List.mem_map.mp hu
      have := arg_dep (h v hv) hkn
      have := hd v hv
      omega
    · have h' : ∀ x n, ¬ ∀ u ∈ c, Tm.hd u = some (x, n) := fun x n z => h ⟨x, n, z⟩
      rw [skC_leaf h', skC_leaf (c := sel f c) fun x n z => h' x n fun u hu => z u ((hm u).mpr hu)]
      rfl
theorem arg_ext {u v : Tm} {x : Str} {n : Nat} (hu : Tm.hd u = some (x, n)) (hv : Tm.hd v = some (x, n)) (h : ∀ k, k < n → u.arg k = v.arg k) : u = v := by
  cases u with
  | var i => cases hu
  | op y us =>
    cases v with
    | var i => cases hv
    | op z vs =>
      simp only [Tm.hd, Option.some.injEq, Prod.mk.injEq] at hu hv
      obtain ⟨rfl, h1⟩ := hu
      obtain ⟨rfl, h2⟩ := hv
      congr 1
      refine List.ext_getElem (by omega) fun k k1 k2 => ?_
      have := h k (by omega)
      simpa [Tm.arg, List.getD_eq_getElem?_getD, k1, k2] using this
theorem skC_inj : ∀ (d : Nat) (c e : List Tm), (∀ u ∈ c, u.dep < d) → c ≠ [] → c.length = e.length → skC c = skC e → c = e
  | 0, c, e, hd, hc, _, _ => by
    cases c with
    | nil => exact absurd rfl hc
    | cons t us => exact absurd (hd t List.mem_cons_self) (Nat.not_lt_zero _)
  | d + 1, c, e, hd, hc, hl, h => by
    have he : e ≠ [] := fun z => hc (List.eq_nil_of_length_eq_zero (by rw [hl, z]; rfl))
    by_cases h1 : ∃ x n, ∀ u ∈ c, Tm.hd u = some (x, n)
    · obtain ⟨x, n, h1⟩ := h1
      by_cases h2 : ∃ x n, ∀ u ∈ e, Tm.hd u = some (x, n)
      · obtain ⟨y, m, h2⟩ := h2
        rw [skC_same hc h1, skC_same he h2] at h
        injection h with hx hg
        subst hx
        have hnm : n = m := by simpa using congrArg List.length hg
        subst hnm
        have hcol : ∀ k, k < n → c.map (Tm.arg k) = e.map (Tm.arg k) := fun k hk => by
          refine skC_inj d _ _ (fun u hu => ?_) (by simpa using hc) (by simpa using hl) (List.map_inj_left.mp hg k (List.mem_range.mpr hk))
          obtain ⟨v, hv, rfl⟩ := List.mem_map.mp hu
          have := arg_dep (h1 v hv) hk
          have := hd v hv
          omega
        refine List.ext_getElem hl fun j j1 j2 => ?_
        refine arg_ext (h1 _ (List.getElem_mem j1)) (h2 _ (List.getElem_mem j2)) fun k hk => ?_
        have := congrArg (fun l => l[j]?) (hcol k hk)
        simpa [j1, j2] using this
      · rw [skC_same hc h1, skC_leaf fun x n z => h2 ⟨x, n, z⟩] at h
        cases h
    · rw [skC_leaf fun x n z => h1 ⟨x, n, z⟩] at h
      by_cases h2 : ∃ x n, ∀ u ∈ e, Tm.hd u = some (x, n)
      · obtain ⟨y, m, h2⟩ := h2
        rw [skC_same he h2] at h
        cases h
      · rw [skC_leaf fun x n z => h2 ⟨x, n, z⟩] at h
        injection h
theorem nums_map {α : Type} (f : α → Int) : ∀ gs : List (Gt α), Gt.nums f gs = gs.map (Gt.num f)
  | [] => rfl
  | g :: gs => by simp only [Gt.nums, List.map_cons, nums_map f gs]
theorem maps_map {α β : Type} (f : α → β) : ∀ gs : List (Gt α), Gt.maps f gs = gs.map (Gt.map f)
  | [] => rfl
  | g :: gs => by simp only [Gt.maps, List.map_cons, maps_map f gs]
theorem skC_snoc (φ : List Tm → Int) : ∀ (d : Nat) (c : List Tm) (x : Tm), (∀ u ∈ c, u.dep < d) → c ≠ [] →
    skC [(skC c).num φ, x] = (skC (c ++ [x])).map (fun l => [(skC l.dropLast).num φ, l.getLastD (.var 0)])
  | 0, c, x, hd, hc => by
    cases c with
    | nil => exact absurd rfl hc
    | cons t us => exact absurd (hd t List.mem_cons_self) (Nat.not_lt_zero _)
  | d + 1, c, x, hd, hc => by
    have hlast : [(skC (c ++ [x]).dropLast).num φ, (c ++ [x]).getLastD (.var 0)] = [(skC c).num φ, x] := by simp
    by_cases h : ∃ y n, ∀ u ∈ c, Tm.hd u = some (y, n)
    · obtain ⟨y, n, h⟩ := h
      have hg : Tm.hd ((skC c).num φ) = some (y, n) := by
        rw [skC_same hc h, Gt.num, nums_map]
        simp [Tm.hd]
      by_cases hx : Tm.hd x = some (y, n)
      · rw [skC_same (c := [(skC c).num φ, x]) (x := y) (n := n) (by simp) (by simp [hg, hx]), skC_same (c := c ++ [x]) (x := y) (n := n) (by simp) fun u hu => by
          rcases List.mem_append.mp hu with hu | hu
          · exact h u hu
          · rw [List.mem_singleton.mp hu]
            exact hx, Gt.map, maps_map, List.map_map]
        congr 1
        refine List.map_congr_left fun k hk => ?_
        have hkn := List.mem_range.mp hk
        have ih := skC_snoc φ d (c.map (Tm.arg k)) (x.arg k) (fun u hu => by
          obtain ⟨v, hv, rfl⟩ := List.mem_map.mp hu
          have := arg_dep (h v hv) hkn
          have := hd v hv
          omega) (by simpa using hc)
        show skC [((skC c).num φ).arg k, x.arg k] = (skC ((c ++ [x]).map (Tm.arg k))).map _
        rw [List.map_append, List.map_singleton, ← ih]
        congr 2
        rw [skC_same hc h, Gt.num, nums_map, Tm.arg, List.getD_eq_getElem?_getD]
        simp [hkn]
      · have n1 : ∀ z m, ¬ ∀ u ∈ [(skC c).num φ, x], Tm.hd u = some (z, m) := fun z m hz => by
          have e1 := hz _ (by simp : (skC c).num φ ∈ _)
          have e2 := hz x (by simp)
          rw [hg] at e1
          rw [← e1] at e2
          exact hx e2
        have n2 : ∀ z m, ¬ ∀ u ∈ c ++ [x], Tm.hd u = some (z, m) := fun z m hz => by
          obtain ⟨t, us, rfl⟩ := List.exists_cons_of_ne_nil hc
          have e1 := hz t (by simp)
          have e2 := hz x (by simp)
          rw [h t (by simp)] at e1
          rw [← e1] at e2
          exact hx e2
        rw [skC_leaf n1, skC_leaf n2, Gt.map, hlast]
    · have h' : ∀ z m, ¬ ∀ u ∈ c, Tm.hd u = some (z, m) := fun z m hz => h ⟨z, m, hz⟩
      have n2 : ∀ z m, ¬ ∀ u ∈ c ++ [x], Tm.hd u = some (z, m) := fun z m hz => h' z m fun u hu => hz u (List.mem_append.mpr (.inl hu))
      rw [skC_leaf n2, Gt.map, hlast]
      rw [skC_leaf h', Gt.num]
      exact skC_leaf fun z m hz => by
        have := hz (.var (φ c)) (by simp)
        cases this
end Fm
namespace Fm
open PySem PySem.Spec PyProof.Rows L2
def renum (p : Int → Int) (u : Tm) : Tm := u.put fun i => .var (p i)
def rel (ps : List (Int → Int)) (c : List Tm) : List Tm := List.zipWith renum ps c
theorem hd_renum (p : Int → Int) (u : Tm) : Tm.hd (renum p u) = Tm.hd u := by
  cases u with
  | var i => rfl
  | op x ts => simp [renum, Tm.put, Tm.hd, Tm.puts_map]
theorem arg_renum (p : Int → Int) {u : Tm} {x : Str} {n k : Nat} (h : Tm.hd u = some (x, n)) (hk : k < n) : (renum p u).arg k = renum p (u.arg k) := by
  cases u with
  | var i => cases h
  | op y ts =>
    simp only [Tm.hd, Option.some.injEq, Prod.mk.injEq] at h
    have hlt : k < ts.length := by omega
    simp [renum, Tm.put, Tm.arg, Tm.puts_map, List.getD_eq_getElem?_getD, hlt]
theorem rel_hd {ps : List (Int → Int)} {c : List Tm} (hl : ps.length = c.length) (x : Str) (n : Nat) : (∀ u ∈ rel ps c, Tm.hd u = some (x, n)) ↔ ∀ u ∈ c, Tm.hd u = some (x, n) := by
  constructor
  · intro h u hu
    obtain ⟨j, hj, rfl⟩ := List.mem_iff_getElem.mp hu
    unfold rel at h
    have hjr : j < (List.zipWith renum ps c).length := by rw [List.length_zipWith]; omega
    have := h _ (List.getElem_mem hjr)
    rw [List.getElem_zipWith, hd_renum] at this
    exact this
  · intro h u hu
    unfold rel at hu
    obtain ⟨j, hj, rfl⟩ := List.mem_iff_getElem.mp hu
    rw [List.getElem_zipWith, hd_renum]
    exact h _ (List.getElem_mem _)
theorem rel_arg {ps : List (Int → Int)} {c : List Tm} {x : Str} {n k : Nat} (h : ∀ u ∈ c, Tm.hd u = some (x, n)) (hk : k < n) : (rel ps c).map (Tm.arg k) = rel ps (c.map (Tm.arg k)) := by
  unfold rel
  refine List.ext_getElem (by simp) fun j j1 j2 => ?_
  simp only [List.getElem_map, List.getElem_zipWith]
  exact arg_renum _ (h _ (List.getElem_mem _)) hk
theorem skC_rel {ps : List (Int → Int)} : ∀ (d : Nat) (c : List Tm), (∀ u ∈ c, u.dep < d) → c ≠ [] → ps.length = c.length → skC (rel ps c) = (skC c).map (rel ps)
  | 0, c, hd, hc, _ => by
    cases c with
    | nil => exact absurd rfl hc
    | cons t us => exact absurd (hd t List.mem_cons_self) (Nat.not_lt_zero _)
  | d + 1, c, hd, hc, hl => by
    have hs : rel ps c ≠ [] := fun z => by
      have := congrArg List.length z
      unfold rel at this
      rw [List.length_zipWith, List.length_nil] at this
      have := List.length_pos_iff.mpr hc
      omega
    by_cases h : ∃ x n, ∀ u ∈ c, Tm.hd u = some (x, n)
    · obtain ⟨x, n, h⟩ := h
      rw [skC_same hc h, skC_same hs ((rel_hd hl x n).mpr h), Gt.map, maps_map, List.map_map]
      congr 1
      refine List.map_congr_left fun k hk => ?_
      have hkn := List.mem_range.mp hk
      show skC ((rel ps c).map (Tm.arg k)) = (skC (c.map (Tm.arg k))).map (rel ps)
      rw [rel_arg h hkn]
      refine skC_rel d _ (fun u hu => ?_) (by simpa using hc) (by simpa using hl)
      obtain ⟨v, hv, rfl⟩ := List.mem_map.mp hu
      have := arg_dep (h v hv) hkn
      have := hd v hv
      omega
    · have h' : ∀ x n, ¬ ∀ u ∈ c, Tm.hd u = some (x, n) := fun x n z => h ⟨x, n, z⟩
      rw [skC_leaf h', skC_leaf fun x n z => h' x n ((rel_hd hl x n).mp z)]
      rfl
def colAt (rows : List (List Tm)) (k : Nat) : List Tm := rows.map fun r => r.getD k (.var 0)
theorem skL_cols (ts : List Tm) (rest : List (List Tm)) : skL ts 0 (rest.map (Tm.op "")) = (List.range ts.length).map fun k => skC (colAt (ts :: rest) k) := by
  refine List.ext_getElem? fun j => ?_
  by_cases hj : j < ts.length
  · obtain ⟨t, ht⟩ : ∃ t, ts[j]? = some t := ⟨_, List.getElem?_eq_getElem hj⟩
    rw [skL_get ht, List.getElem?_map, List.getElem?_range hj, Nat.zero_add]
    simp only [Option.map_some, colAt, List.map_cons, skC, List.map_map]
    rw [show ts.getD j (.var 0) = t by rw [List.getD_eq_getElem?_getD, ht]; rfl]
    rfl
  · rw [List.getElem?_eq_none (by rw [skL_len]; omega), List.getElem?_eq_none (by simp; omega)]
theorem genL_cols (ts : List Tm) (rest : List (List Tm)) : genL ts rest = canon ((List.range ts.length).map fun k => skC (colAt (ts :: rest) k)) := by
  rw [← skL_cols]
  rfl
end Fm
namespace Fm
open PySem PySem.Spec PyProof.Rows L2
theorem labs_mem {α : Type} {a : α} : ∀ {gs : List (Gt α)}, a ∈ Gt.labs gs ↔ ∃ g ∈ gs, a ∈ g.lab
  | [] => by simp [Gt.labs]
  | g :: gs => by simp only [Gt.labs, List.mem_append, List.mem_cons, labs_mem (gs := gs), exists_eq_or_imp]
theorem dep_bound (c : List Tm) : ∀ u ∈ c, u.dep < Tm.deps c + 1 := fun u hu => Nat.lt_succ_of_le (Tm.deps_le.mp (Nat.le_refl _) u hu)
theorem skC_ind (R : List Tm → List Tm → Prop) (h0 : ∀ c, R c c) (hs : ∀ c x n k l, c ≠ [] → (∀ u ∈ c, Tm.hd u = some (x, n)) → k < n → R (c.map (Tm.arg k)) l → R c l) : ∀ (d : Nat) (c : List Tm), (∀ u ∈ c, u.dep < d) → ∀ l ∈ (skC c).lab, R c l
  | 0, c, hd, l, hl => by
    cases c with
    | nil =>
      simp only [skC, Gt.lab, List.mem_singleton] at hl
      rw [hl]
      exact h0 _
    | cons t us => exact absurd (hd t List.mem_cons_self) (Nat.not_lt_zero _)
  | d + 1, c, hd, l, hl => by
    by_cases hc : c = []
    · subst hc
      simp only [skC, Gt.lab, List.mem_singleton] at hl
      rw [hl]
      exact h0 _
    by_cases h : ∃ x n, ∀ u ∈ c, Tm.hd u = some (x, n)
    · obtain ⟨x, n, h⟩ := h
      rw [skC_same hc h, Gt.lab, labs_mem] at hl
      obtain ⟨g, hg, hl⟩ := hl
      obtain ⟨k, hk, rfl⟩ := List.mem_map.mp hg
      have hkn := List.mem_range.mp hk
      refine hs c x n k l hc h hkn (skC_ind R h0 hs d _ (fun u hu => ?_) l hl)
      obtain ⟨v, hv, rfl⟩ := List.mem_map.mp hu
      have := arg_dep (h v hv) hkn
      have := hd v hv
      omega
    · rw [skC_leaf fun x n z => h ⟨x, n, z⟩, Gt.lab, List.mem_singleton] at hl
      rw [hl]
      exact h0 _
theorem skC_len {c l : List Tm} (h : l ∈ (skC c).lab) : l.length = c.length :=
  skC_ind (fun c l => l.length = c.length) (fun _ => rfl) (fun c x n k l _ _ _ h => by simpa using h) _ c (dep_bound c) l h
theorem arg_leaves {u : Tm} {x : Str} {n k : Nat} (h : Tm.hd u = some (x, n)) (hk : k < n) : ∀ a ∈ (u.arg k).leaves, a ∈ u.leaves := by
  cases u with
  | var i => cases h
  | op y us =>
    simp only [Tm.hd, Option.some.injEq, Prod.mk.injEq] at h
    intro a ha
    have hlt : k < us.length := by omega
    rw [Tm.arg, List.getD_eq_getElem?_getD, List.getElem?_eq_getElem hlt] at ha
    rw [Tm.leaves]
    exact Tm.leaf_mem (List.getElem_mem hlt) ha
theorem skC_leaves {c l : List Tm} (h : l ∈ (skC c).lab) : ∀ (i : Nat) (t u : Tm), l[i]? = some t → c[i]? = some u → ∀ a ∈ t.leaves, a ∈ u.leaves :=
  skC_ind (fun c l => ∀ (i : Nat) (t u : Tm), l[i]? = some t → c[i]? = some u → ∀ a ∈ t.leaves, a ∈ u.leaves) (fun c i t u h1 h2 a ha => by
    rw [h1] at h2
    cases h2
    exact ha) (fun c x n k l _ hh hk h i t u h1 h2 a ha => by
    have := h i t (u.arg k) h1 (by rw [List.getElem?_map, h2]; rfl) a ha
    exact arg_leaves (hh u (List.mem_of_getElem? h2)) hk a this) _ c (dep_bound c) l h
theorem skC_init {c : List Tm} {x : Tm} {l : List Tm} (hc : c ≠ []) (h : l ∈ (skC (c ++ [x])).lab) : ∀ m ∈ (skC l.dropLast).lab, m ∈ (skC c).lab := by
  have := skC_ind (fun e l => e.dropLast ≠ [] → ∀ m ∈ (skC l.dropLast).lab, m ∈ (skC e.dropLast).lab) (fun e _ m hm => hm) (fun e y n k l he hh hk ih hne m hm => by
    have h1 := ih (by
      rw [← List.map_dropLast]
      exact fun z => hne (List.map_eq_nil_iff.mp z)) m hm
    rw [← List.map_dropLast] at h1
    rw [skC_same hne fun u hu => hh u (List.dropLast_subset _ hu), Gt.lab, labs_mem]
    exact ⟨_, List.mem_map.mpr ⟨k, List.mem_range.mpr hk, rfl⟩, h1⟩) _ (c ++ [x]) (dep_bound _) l h (by simpa using hc)
  simpa using this
noncomputable def genR (wd : Nat) (R : List (List Tm)) : List Tm := canon ((List.range wd).map fun k => skC (colAt R k))
theorem genL_R (ts : List Tm) (rest : List (List Tm)) : genL ts rest = genR ts.length (ts :: rest) := genL_cols ts rest
theorem genR_map {wd : Nat} {R R' : List (List Tm)} (φ : List Tm → List Tm) (h : ∀ k, k < wd → skC (colAt R' k) = (skC (colAt R k)).map φ)
    (hi : ∀ j, j < wd → ∀ k, k < wd → ∀ l ∈ (skC (colAt R j)).lab, ∀ m ∈ (skC (colAt R k)).lab, φ l = φ m → l = m) : genR wd R' = genR wd R := by
  unfold genR
  have e : ((List.range wd).map fun k => skC (colAt R' k)) = Gt.maps φ ((List.range wd).map fun k => skC (colAt R k)) := by
    rw [maps_map, List.map_map]
    exact List.map_congr_left fun k hk => h k (List.mem_range.mp hk)
  rw [e]
  refine canon_map fun x hx y hy e => ?_
  obtain ⟨g, hg, hx⟩ := labs_mem.mp hx
  obtain ⟨g', hg', hy⟩ := labs_mem.mp hy
  obtain ⟨j, hj, rfl⟩ := List.mem_map.mp hg
  obtain ⟨k, hk, rfl⟩ := List.mem_map.mp hg'
  exact hi j (List.mem_range.mp hj) k (List.mem_range.mp hk) x hx y hy e
theorem colAt_len (R : List (List Tm)) (k : Nat) : (colAt R k).length = R.length := by simp [colAt]
theorem colAt_ne {R : List (List Tm)} (h : R ≠ []) (k : Nat) : colAt R k ≠ [] := fun z => h (List.map_eq_nil_iff.mp z)
theorem genR_sel {wd : Nat} {R : List (List Tm)} {f : List Nat} (hR : R ≠ []) (h1 : ∀ i ∈ f, i < R.length) (h2 : ∀ j, j < R.length → j ∈ f) : genR wd (f.map fun i => R.getD i []) = genR wd R := by
  refine genR_map (sel f) (fun k _ => ?_) (fun j _ k _ l hl m hm e => ?_)
  · rw [← skC_sel (f := f) _ (colAt R k) (dep_bound _) (colAt_ne hR k) (by rw [colAt_len]; exact h1) (by rw [colAt_len]; exact h2)]
    congr 1
    unfold colAt sel
    rw [List.map_map]
    refine List.map_congr_left fun i hi => ?_
    have hlt := h1 i hi
    simp [List.getD_eq_getElem?_getD, hlt]
  · have l1 := skC_len hl
    have l2 := skC_len hm
    rw [colAt_len] at l1 l2
    exact sel_inj (fun j hj => h2 j (by omega)) (by omega) e
theorem genR_dd {wd : Nat} {R D : List (List Tm)} (hn : D.Nodup) (hm : ∀ r, r ∈ R ↔ r ∈ D) (h0 : D ≠ []) : genR wd R = genR wd D := by
  have e : R = (R.map fun r => D.idxOf r).map fun i => D.getD i [] := by
    rw [List.map_map]
    refine (List.map_id R).symm.trans (List.map_congr_left fun r hr => ?_)
    have hlt := List.idxOf_lt_length_iff.mpr ((hm r).mp hr)
    simp [List.getD_eq_getElem?_getD, hlt]
  rw [e]
  refine genR_sel h0 (fun i hi => ?_) (fun j hj => ?_)
  · obtain ⟨r, hr, rfl⟩ := List.mem_map.mp hi
    exact List.idxOf_lt_length_iff.mpr ((hm r).mp hr)
  · refine List.mem_map.mpr ⟨D[j], (hm _).mpr (List.getElem_mem hj), ?_⟩
    exact hn.idxOf_getElem j hj
theorem genR_set {wd : Nat} {R R' : List (List Tm)} (h : ∀ r, r ∈ R ↔ r ∈ R') (h0 : R ≠ []) : genR wd R = genR wd R' := by
  have hne : ordg R ≠ [] := fun z => by
    obtain ⟨r, rs, rfl⟩ := List.exists_cons_of_ne_nil h0
    have : r ∈ ordg (r :: rs) := ordg_mem.mpr List.mem_cons_self
    rw [z] at this
    cases this
  rw [genR_dd (ordg_nd R) (fun r => ordg_mem.symm) hne, genR_dd (R := R') (ordg_nd R) (fun r => (h r).symm.trans ordg_mem.symm) hne]
theorem put_self : ∀ t : Tm, t.put (fun i => .var i) = t := fun t => by
  have : ∀ (d : Nat) (t : Tm), t.dep < d → t.put (fun i => .var i) = t := by
    intro d
    induction d with
    | zero => intro t h; exact absurd h (Nat.not_lt_zero _)
    | succ d ih =>
      intro t h
      cases t with
      | var i => rfl
      | op x ts =>
        rw [Tm.put, Tm.puts_map]
        congr 1
        refine (List.map_congr_left fun u hu => ?_).trans (List.map_id _)
        simp only [Tm.dep] at h
        have := Tm.deps_le.mp (Nat.le_refl (Tm.deps ts)) u hu
        exact ih u (by omega)
  exact this _ t (Nat.lt_succ_self _)
theorem gt_inj {t u : Tm} (h : t.gt = u.gt) : t = u := by
  have := congrArg (Gt.num id) h
  rw [Tm.num_gt, Tm.num_gt] at this
  exact (put_self t).symm.trans (this.trans (put_self u))
theorem renum_inj {p : Int → Int} {t u : Tm} (hp : ∀ a ∈ t.leaves, ∀ b ∈ u.leaves, p a = p b → a = b) (e : renum p t = renum p u) : t = u := by
  have e' : t.gt.num p = u.gt.num p := by rw [Tm.num_gt, Tm.num_gt]; exact e
  obtain ⟨z, h1, h2, h3⟩ := Gt.num_zip _ _ e'
  refine gt_inj (h1.symm.trans (Eq.trans ?_ h2))
  refine Gt.map_congr z fun q hq => ?_
  refine hp _ ?_ _ ?_ (h3 q hq)
  · rw [← Tm.lab_gt, ← h1, Gt.lab_map]
    exact List.mem_map.mpr ⟨q, hq, rfl⟩
  · rw [← Tm.lab_gt, ← h2, Gt.lab_map]
    exact List.mem_map.mpr ⟨q, hq, rfl⟩
theorem genR_rel {wd : Nat} {R : List (List Tm)} {ps : List (Int → Int)} (hR : R ≠ []) (hl : ps.length = R.length) (hw : ∀ r ∈ R, r.length = wd)
    (hp : ∀ (i : Nat) (p : Int → Int) (r : List Tm), ps[i]? = some p → R[i]? = some r → ∀ a ∈ Tm.leavesL r, ∀ b ∈ Tm.leavesL r, p a = p b → a = b) : genR wd (List.zipWith (fun p r => r.map (renum p)) ps R) = genR wd R := by
  have hcol : ∀ k, k < wd → ∀ i u, (colAt R k)[i]? = some u → ∃ r, R[i]? = some r ∧ u ∈ r := fun k hk i u hu => by
    unfold colAt at hu
    rw [List.getElem?_map] at hu
    obtain ⟨r, hr, rfl⟩ := Option.map_eq_some_iff.mp hu
    have := hw r (List.mem_of_getElem? hr)
    refine ⟨r, hr, ?_⟩
    rw [List.getD_eq_getElem?_getD, List.getElem?_eq_getElem (by omega)]
    exact List.getElem_mem _
  refine genR_map (rel ps) (fun k hk => ?_) (fun j hj k hk l hlb m hmb e => ?_)
  · rw [← skC_rel _ (colAt R k) (dep_bound _) (colAt_ne hR k) (by rw [colAt_len]; exact hl)]
    congr 1
    unfold colAt rel
    refine List.ext_getElem (by simp) fun i h1 h2 => ?_
    have hi : i < R.length := by
      rw [List.length_map, List.length_zipWith] at h1
      omega
    have hwr := hw R[i] (List.getElem_mem hi)
    simp only [List.getElem_map, List.getElem_zipWith, List.getD_eq_getElem?_getD, List.getElem?_map]
    rw [List.getElem?_eq_getElem (by omega : k < R[i].length)]
    rfl
  · have l1 := skC_len hlb
    have l2 := skC_len hmb
    rw [colAt_len] at l1 l2
    refine List.ext_getElem (by omega) fun i h1 h2 => ?_
    have e1 := congrArg (fun z => z[i]?) e
    unfold rel at e1
    simp only [List.getElem?_zipWith, List.getElem?_eq_getElem h1, List.getElem?_eq_getElem h2] at e1
    have hip : i < ps.length := by omega
    rw [List.getElem?_eq_getElem hip] at e1
    simp only [Option.some.injEq] at e1
    refine renum_inj (fun a ha b hb => ?_) e1
    obtain ⟨u, hu⟩ : ∃ u, (colAt R j)[i]? = some u := ⟨_, List.getElem?_eq_getElem (by rw [colAt_len]; omega)⟩
    obtain ⟨v, hv⟩ : ∃ v, (colAt R k)[i]? = some v := ⟨_, List.getElem?_eq_getElem (by rw [colAt_len]; omega)⟩
    obtain ⟨r, hr, hur⟩ := hcol j hj i u hu
    obtain ⟨r', hr', hvr⟩ := hcol k hk i v hv
    rw [hr] at hr'
    cases hr'
    exact hp i _ r (List.getElem?_eq_getElem hip) hr a (Tm.leaf_mem hur (skC_leaves hlb i _ u (List.getElem?_eq_getElem h1) hu a ha)) b (Tm.leaf_mem hvr (skC_leaves hmb i _ v (List.getElem?_eq_getElem h2) hv b hb))
theorem colAt_snoc (R : List (List Tm)) (x : List Tm) (k : Nat) : colAt (R ++ [x]) k = colAt R k ++ [x.getD k (.var 0)] := by simp [colAt]
theorem genR_len (wd : Nat) (R : List (List Tm)) : (genR wd R).length = wd := by simp [genR, canon, Gt.nums_len]
theorem genR_snoc {wd : Nat} {R : List (List Tm)} (hR : R ≠ []) (x : List Tm) : genR wd [genR wd R, x] = genR wd (R ++ [x]) := by
  have hk0 : ∀ k, k < wd → (genR wd R).getD k (.var 0) = (skC (colAt R k)).num (idxN (ordg (Gt.labs ((List.range wd).map fun k => skC (colAt R k))))) := fun k hk => by
    unfold genR canon
    rw [nums_map, List.map_map, List.getD_eq_getElem?_getD, List.getElem?_map, List.getElem?_range hk]
    rfl
  refine genR_map (fun l => [(skC l.dropLast).num (idxN (ordg (Gt.labs ((List.range wd).map fun k => skC (colAt R k))))), l.getLastD (.var 0)]) (fun k hk => ?_) (fun j hj k hk l hlb m hmb e => ?_)
  · rw [colAt_snoc, ← skC_snoc _ _ (colAt R k) _ (dep_bound _) (colAt_ne hR k), ← hk0 k hk]
    rfl
  · have l1 := skC_len hlb
    have l2 := skC_len hmb
    rw [colAt_len, List.length_append, List.length_singleton] at l1 l2
    rw [colAt_snoc] at hlb hmb
    simp only [List.cons.injEq, and_true] at e
    obtain ⟨e1, e2⟩ := e
    obtain ⟨z, z1, z2, z3⟩ := Gt.num_zip _ _ e1
    have hin : ∀ i, i < wd → ∀ a ∈ (skC (colAt R i)).lab, a ∈ ordg (Gt.labs ((List.range wd).map fun k => skC (colAt R k))) := fun i hi a ha =>
      ordg_mem.mpr (labs_mem.mpr ⟨_, List.mem_map.mpr ⟨i, List.mem_range.mpr hi, rfl⟩, ha⟩)
    have hsk : skC l.dropLast = skC m.dropLast := by
      refine z1.symm.trans (Eq.trans (Gt.map_congr z fun q hq => ?_) z2)
      refine idx_inj (hin j hj _ (skC_init (colAt_ne hR j) hlb _ ?_)) (hin k hk _ (skC_init (colAt_ne hR k) hmb _ ?_)) ?_
      · rw [← z1, Gt.lab_map]
        exact List.mem_map.mpr ⟨q, hq, rfl⟩
      · rw [← z2, Gt.lab_map]
        exact List.mem_map.mpr ⟨q, hq, rfl⟩
      · have := z3 q hq
        unfold idxN at this
        omega
    have hRl := List.length_pos_iff.mpr hR
    have hdl : l.dropLast = m.dropLast := skC_inj _ _ _ (dep_bound _) (fun z => by
      have := congrArg List.length z
      rw [List.length_dropLast, List.length_nil] at this
      omega) (by rw [List.length_dropLast, List.length_dropLast]; omega) hsk
    have hl0 : l ≠ [] := fun z => by rw [z] at l1; simp at l1
    have hm0 : m ≠ [] := fun z => by rw [z] at l2; simp at l2
    rw [List.getLastD_eq_getLast?, List.getLastD_eq_getLast?, List.getLast?_eq_getLast hl0, List.getLast?_eq_getLast hm0] at e2
    rw [← List.dropLast_concat_getLast hl0, ← List.dropLast_concat_getLast hm0, hdl]
    simp only [Option.getD_some] at e2
    rw [e2]
theorem canon_gts (r : List Tm) : canon (Tm.gts r) = r.map (renum (idxN (ordg (Tm.leavesL r)))) := by
  unfold canon
  rw [Tm.labs_gts, Tm.nums_gts, Tm.puts_map]
  rfl
theorem genR_one (r : List Tm) : genR r.length [r] = canon (Tm.gts r) := by rw [← genL_R, genL_nil]
theorem nums_gt_map {α : Type} (f : α → Int) : ∀ gs : List (Gt α), Tm.gts (Gt.nums f gs) = Gt.maps f gs := by
  have : ∀ (t : Gt α), (t.num f).gt = t.map f := fun t => by
    induction t using Gt.rec (motive_2 := fun gs => Tm.gts (Gt.nums f gs) = Gt.maps f gs) with
    | leaf a => rfl
    | op x gs ih => simp only [Gt.num, Tm.gt, Gt.map, ih]
    | nil => rfl
    | cons g gs h1 h2 => simp only [Gt.nums, Tm.gts, Gt.maps, h1, h2]
  intro gs
  induction gs with
  | nil => rfl
  | cons g gs ih => simp only [Gt.nums, Tm.gts, Gt.maps, this g, ih]
theorem canon_canon {α : Type} [DecidableEq α] (gs : List (Gt α)) : canon (Tm.gts (canon gs)) = canon gs := by
  unfold canon
  rw [nums_gt_map]
  exact canon_map (f := idxN (ordg (Gt.labs gs))) fun x hx y hy e => by
    unfold idxN at e
    exact idx_inj (ordg_mem.mpr hx) (ordg_mem.mpr hy) (by omega)
theorem genR_canon (wd : Nat) (R : List (List Tm)) : canon (Tm.gts (genR wd R)) = genR wd R := canon_canon _
theorem genR_own (wd : Nat) (R : List (List Tm)) : genR wd [genR wd R] = genR wd R := by
  have := genR_one (genR wd R)
  rw [genR_len] at this
  rw [this, genR_canon]
theorem genR_canons {wd : Nat} {R : List (List Tm)} (hR : R ≠ []) (hw : ∀ r ∈ R, r.length = wd) : genR wd (R.map fun r => canon (Tm.gts r)) = genR wd R := by
  rw [← genR_rel (ps := R.map fun r => idxN (ordg (Tm.leavesL r))) hR (by simp) hw fun i p r hp hr a ha b hb e => ?_]
  · congr 1
    refine List.ext_getElem (by simp) fun i h1 h2 => ?_
    simp only [List.getElem_map, List.getElem_zipWith, canon_gts]
  · rw [List.getElem?_map, hr] at hp
    simp only [Option.map_some, Option.some.injEq] at hp
    subst hp
    unfold idxN at e
    exact idx_inj (ordg_mem.mpr ha) (ordg_mem.mpr hb) (by omega)
theorem genR_inst {wd : Nat} {R : List (List Tm)} (hw : ∀ r ∈ R, r.length = wd) {r : List Tm} (hr : r ∈ R) : Inst (genR wd R) r := by
  have hR : R ≠ [] := fun z => by rw [z] at hr; cases hr
  have hl := hw r hr
  refine (genL_inst (by rw [genR_len, hl])).mp ?_
  rw [genL_R, genR_len, genR_snoc hR, genR_canon]
  refine genR_set (fun s => ?_) (by simp)
  rw [List.mem_append, List.mem_singleton]
  exact ⟨fun h => h.elim id fun e => e ▸ hr, .inl⟩
theorem genR_step {wd : Nat} {R : List (List Tm)} (hR : R ≠ []) {x : List Tm} : genL (genR wd R) [x] = genR wd (R ++ [x]) := by
  rw [genL_R, genR_len, genR_snoc hR]
theorem genR_self (wd : Nat) (R : List (List Tm)) : genL (genR wd R) [genR wd R] = genR wd R := by
  rw [genL_R, genR_len, genR_set (R' := [genR wd R]) (fun r => by simp) (by simp), genR_own]
end Fm
namespace Fm
open PySem PySem.Spec PyProof.Rows L2
local macro_rules | `(tactic| walk_at "nn") => `(tactic| dsimp only [tC, tNil, tCons, tCB, tCall, gName, tSeq, tAsg, tPar, tDrop, tRet])
local macro_rules | `(tactic| walk_at "nc") => `(tactic| dsimp only [tC, tNil, tCons, tCB])
section
variable {P : Program} {w : World} {K : PySem.W.Frag} {mg : Str → Option Value} {base : Heap}
end
end Fm
namespace Fm
open PySem PySem.Spec PyProof.Rows L2
local macro_rules | `(tactic| walk_at "nn") => `(tactic| dsimp only [tC, tNil, tCons, tCB, tCall, gName, tSeq, tAsg, tPar, tDrop, tRet])
local macro_rules | `(tactic| walk_at "nc") => `(tactic| dsimp only [tC, tNil, tCons, tCB])
mutual
def Th.dep : Th → Nat
  | .tup ts => Th.deps ts + 1
  | _ => 0
def Th.deps : List Th → Nat
  | [] => 0
  | t :: ts => max t.dep (Th.deps ts)
end
def sp_isTermR (K : PySem.W.Frag) (d : Nat) : Sp := fun vs H Q _ => ∃ (v : V) (t : Th) (b : Addr), vs = [v] ∧ Is K b H v t ∧ t.dep < d ∧ ∀ H', Mv [] H H' → Q (.bl (isTerm t)) H'
section
variable {P : Program} {w : World} {K : PySem.W.Frag} {mg : Str → Option Value} {base : Heap}
end
end Fm
namespace Fm
open PySem PySem.Spec PyProof.Rows L2 SlX
local macro_rules | `(tactic| walk_at "nn") => `(tactic| dsimp only [tC, tNil, tCons, tCB, tCall, gName, tSeq, tAsg, tPar, tDrop, tRet])
local macro_rules | `(tactic| walk_at "nc") => `(tactic| dsimp only [tC, tNil, tCons, tCB, tCall])
structure PtC (ts : List Tm) : Prop where
  ok : Tm.oks (fun i => 0 ≤ i ∧ i < 60) ts
  dep : Tm.deps ts ≤ 50
  nod : Tm.nod ts ≤ 4000
inductive PtV (K : PySem.W.Frag) (b : Addr) (H : Hp) : V → Option (List Tm) → Prop
  | tms {a : Addr} {xs : List V} {us : List Tm} : SqT K H a xs → Ims K H xs (Tm.ds us) → Tm.oks (fun i => 0 ≤ i ∧ i.natAbs < 10 ^ 40) us → Tm.deps us ≤ 50 → Th.cnt (.tup (Tm.ths us)) ≤ 90000 → PtV K b H (.ref a) (some us)
  | odd {v : V} {t : Th} : Is K b H v t → t.cnt ≤ 90000 → t.dep ≤ 55 → (∀ ts, t = .tup ts → isTerms ts = false) → PtV K b H v none
theorem PtV.mv0 {K : PySem.W.Frag} {b : Addr} {H H' : Hp} {v : V} {o : Option (List Tm)} (h : PtV K b H v o) (m : Mv [] H H') : PtV K b H' v o := by
  cases h with
  | tms h1 h2 h3 h4 h5 => exact .tms (m.sqT h1) (h2.mv m) h3 h4 h5
  | odd h1 h2 h3 h4 => exact .odd (h1.mv0 m) h2 h3 h4
open Classical in
noncomputable def instB (ts : List Tm) (o : Option (List Tm)) : Bool := match o with
  | some us => decide (us.length = ts.length ∧ Inst ts us)
  | none => false
def sp_PatTerms (K : PySem.W.Frag) (C : Addr) : Sp := fun vs H Q _ => ∃ (x : Addr) (ts : List Tm), vs = [.ref x] ∧ PatAt K H C x ts ∧ ∀ v, Im K H v (tsD ts) → Q v H
def sp_Patternlen (K : PySem.W.Frag) (C : Addr) : Sp := fun vs H Q _ => ∃ (x : Addr) (ts : List Tm), vs = [.ref x] ∧ PatAt K H C x ts ∧ Q (.int ts.length) H
def sp_PatternEq (K : PySem.W.Frag) (C : Addr) : Sp := fun vs H Q _ => ∃ (x : Addr) (ts : List Tm) (y : V), vs = [.ref x, y] ∧ PatAt K H C x ts ∧ PtC ts ∧
  ((∃ x2 ts2, y = .ref x2 ∧ PatAt K H C x2 ts2 ∧ PtC ts2 ∧ Q (.bl (decide (ts = ts2))) H) ∨ (∃ T, TyX K H y (.type T) ∧ plainTy T = true ∧ Q (.bl false) H))
def patText (ts : List Tm) : Str := Str.ofString "Pattern(" ++ (tsD ts).shown ++ Str.ofString ")"
def sp_Patrepr (K : PySem.W.Frag) (C : Addr) : Sp := fun vs H Q _ => ∃ (x : Addr) (ts : List Tm), vs = [.ref x] ∧ PatAt K H C x ts ∧ Shw (tsD ts) ∧ Q (.str (patText ts)) H
noncomputable def sp_PatternIn (K : PySem.W.Frag) (C : Addr) : Sp := fun vs H Q _ => ∃ (x b : Addr) (ts : List Tm) (v : V) (o : Option (List Tm)), vs = [.ref x, v] ∧ PatAt K H C x ts ∧ PtC ts ∧ PtV K b H v o ∧ ∀ H', Mv [] H H' → Q (.bl (instB ts o)) H'
theorem ok40 {ts : List Tm} (h : PtC ts) : Tm.oks (fun i => i.natAbs < 10 ^ 40) ts := by
  refine Tm.oks_iff.mpr fun t ht => ?_
  have h1 := Tm.oks_iff.mp h.ok t ht
  exact Tm.ok_on t h1 fun i hi => by
    have := Tm.ok_leaves t h1 i hi
    exact Nat.lt_of_lt_of_le (show i.natAbs < 100 by omega) (by decide)
theorem PtC.leaf {ts : List Tm} (h : PtC ts) : ∀ i ∈ Tm.leavesL ts, 0 ≤ i ∧ i < 60 := Tm.oks_leaves ts h.ok
theorem ts_shaped {ts : List Tm} (h : Tm.oks (fun i => i.natAbs < 10 ^ 40) ts) (hd : Tm.deps ts ≤ 50) : SeqAt.shaped (tsD ts) = true := by
  show (PyData.canLay0 (.tuple (Tm.ds ts)) && decide (PyData.depth (.tuple (Tm.ds ts)) ≤ 64)) = true
  have e2 : PyData.depth (.tuple (Tm.ds ts)) ≤ 64 := by
    simp only [PyData.depth, depth_ds]
    omega
  rw [(fine_lay (.tuple (Tm.ds ts)) (fine_ds (fun _ h => h) ts h)).1, decide_eq_true e2]
  rfl
theorem ts_eqv {a b : List Tm} (h : Tm.oks (fun i => i.natAbs < 10 ^ 40) a) : PyData.eqv (tsD a) (tsD b) = decide (a = b) := by
  rw [Bool.eq_iff_iff, decide_eq_true_eq]
  exact ⟨fun h => eqv_ds a b (by simpa [tsD, PyData.eqv] using h), fun e => by rw [← e]; exact SeqAt.eqv_refl _ (fine_lay _ (show fine (tsD a) from fine_ds (fun _ h => h) _ h)).1⟩
section
variable {P : Program} {w : World} {K : PySem.W.Frag} {mg : Str → Option Value} {base : Heap}
theorem ok_Pattern_terms (T : TX K mg) {k : Nat} : FnOk P w K mg base CX0 (k + 1) T.d_Pattern_terms.f T.d_Pattern_terms.fd P_Pattern_terms (sp_PatTerms K T.C_Pattern) := by
  refine T.d_Pattern_terms.F.ok sc_Pattern_terms (fun vs H Q E h => ?_) (fun cdv A outer s H vs Q E hr h => ?_)
  · obtain ⟨_, _, rfl, _⟩ := h
    rfl
  · obtain ⟨x, ts, rfl, hR, q⟩ := h
    obtain ⟨dx, p, xs, hs, hp, hx⟩ := hR
    refine ⟨_, (pss_one (ps_ret (pe_slC (K := K) rfl (pv 0)))), ?_⟩
    exact ⟨.ref x, rfl, x, T.C_Pattern, dx, T.p_Pattern_its_terms, _, 0, .ref p, rfl, hs, T.c_Pattern, T.sl_Pattern_its_terms, rfl, q _ (.tup hp hx)⟩
theorem ok_Pattern___eq__ (T : TX K mg) {k : Nat} : FnOk P w K mg base CX0 (k + 1) T.d_Pattern___eq__.f T.d_Pattern___eq__.fd P_Pattern___eq__ (sp_PatternEq K T.C_Pattern) := by
  refine T.d_Pattern___eq__.F.ok sc_Pattern___eq__ (fun vs H Q E h => ?_) (fun cdv A outer s H vs Q E hr h => ?_)
  · obtain ⟨_, _, _, rfl, _⟩ := h
    rfl
  · obtain ⟨x, ts, y, rfl, hR, hC, h⟩ := h
    obtain ⟨dx, p, xs, hs, hp, hx⟩ := hR
    have hu64 := hr.units
    refine ⟨_, (pss_one (ps_ret (pe_and (pe_callB (r := rIsiX K (.ref T.C_Pattern)) (call_isiX (.ref T.C_Pattern)) (by rfl) T.b_isinstance bt_isinstance (pa_cons (pv 1) (pa_cons (pe_glob rfl T.g_Pattern (show L2.RelV (.ref T.C_Pattern) _ from rfl)) pa_nil))) (pe_one (pe_cmpR (r := rEqG K) (op_eqG hu64) (pe_slC (K := K) rfl (pv 0)) (pe_slC (K := K) rfl (pv 1)) (nomark _)))))), ?_⟩
    rcases h with ⟨x2, ts2, rfl, hR2, hC2, q⟩ | ⟨ty, ht, hpl, q⟩
    · obtain ⟨dx2, p2, xs2, hs2, hp2, hx2⟩ := hR2
      refine ⟨.ref x2, rfl, ?_⟩
      walk_at "nc"
      refine Or.inl ⟨x2, T.C_Pattern, dx2, _, .ref T.C_Pattern, true, rfl, rfl, fun _ h => h, hs2, T.c_Pattern, T.is_Pattern, kitOne_self _, ?_⟩
      refine ⟨_, rfl, ?_⟩
      refine ⟨.ref x, rfl, x, T.C_Pattern, dx, T.p_Pattern_its_terms, _, 0, .ref p, rfl, hs, T.c_Pattern, T.sl_Pattern_its_terms, rfl, ?_⟩
      refine ⟨.ref x2, rfl, x2, T.C_Pattern, dx2, T.p_Pattern_its_terms, _, 0, .ref p2, rfl, hs2, T.c_Pattern, T.sl_Pattern_its_terms, rfl, ?_⟩
      refine Or.inr ⟨_, _, (Im.tup hp hx).dp, (Im.tup hp2 hx2).dp, ts_shaped (ok40 hC) hC.dep, ts_shaped (ok40 hC2) hC2.dep, ?_⟩
      rw [show PyData.eqv (.tuple (Tm.ds ts)) (.tuple (Tm.ds ts2)) = decide (ts = ts2) from ts_eqv (ok40 hC)]
      exact q
    · refine ⟨y, rfl, ?_⟩
      walk_at "nc"
      refine Or.inr ⟨y, .ref T.C_Pattern, .type ty, .ref T.C_Pattern, false, rfl, .own _, ht, kitOne_plain hpl T.c_Pattern.ic T.ty_Pattern, ?_⟩
      exact ⟨_, rfl, q⟩
theorem ok_Pattern___repr__ (T : TX K mg) {k : Nat} : FnOkG P w K mg base CX0 (k + 1) T.d_Pattern___repr__.f T.d_Pattern___repr__.fd P_Pattern___repr__ (sp_Patrepr K T.C_Pattern) := by
  refine okG T.d_Pattern___repr__.F sc_Pattern___repr__ (fun vs H Q E h => ?_) (fun cdv A outer s H vs Q E hgd hr h => ?_)
  · obtain ⟨_, _, rfl, _⟩ := h
    rfl
  · obtain ⟨x, ts, rfl, hR, hsh, q⟩ := h
    obtain ⟨dx, p, xs, hs, hp, hx⟩ := hR
    have hu64 := hr.units
    refine ⟨_, (pss_one (ps_ret (pe_joined (PJ.cons pe_str (PJ.cons (pe_fmtRD hgd hu64 (pe_slC (K := K) rfl (pv 0))) (PJ.cons pe_str PJ.nil)))))), ?_⟩
    have hf := fine_lay _ hsh.fi
    have hl2 : (tsD ts).shown.length ≤ 16000000 := Nat.le_trans (shown_le _ hsh.fi) hsh.wl
    have h16 : 16000100 ≤ sizeLine := by decide
    have l1 : (Str.ofString "Pattern(").length = 8 := by decide +kernel
    have l3 : (Str.ofString ")").length = 1 := by decide +kernel
    have l6 : (Str.ofString "Pattern(" ++ (tsD ts).shown).length ≤ 16000050 := by rw [strLen_append]; omega
    have l7 : (Str.ofString "Pattern(" ++ (tsD ts).shown ++ Str.ofString ")").length ≤ 16000051 := by rw [strLen_append]; omega
    refine ⟨_, rfl, (by decide : _ ≤ sizeLine), ?_⟩
    rw [show Str.empty ++ Str.ofString "Pattern(" = Str.ofString "Pattern(" by decide +kernel]
    refine ⟨.ref x, rfl, x, T.C_Pattern, dx, T.p_Pattern_its_terms, _, 0, .ref p, rfl, hs, T.c_Pattern, T.sl_Pattern_its_terms, rfl, p, tsD ts, rfl, (Im.tup hp hx).dp, hf.2.1, hf.2.2, hsh.dp, Nat.le_trans hl2 (by decide), _, rfl, ?_, ?_⟩
    · exact Nat.le_trans l6 (by decide)
    refine ⟨_, rfl, ?_, ?_⟩
    · exact Nat.le_trans l7 (by decide)
    exact q
theorem ok_Pattern___contains__ (T : TX K mg) {k : Nat} : FnOk P w K mg base CX0 (k + 5) T.d_Pattern___contains__.f T.d_Pattern___contains__.fd P_Pattern___contains__ (sp_PatternIn K T.C_Pattern) := by
  have G_are_values : FnOk P w K mg base CX0 3 T.d_are_values.f T.d_are_values.fd P_are_values (sp_vals K) := ok_are_values (k := 0) T
  have G_stood_for : FnOk P w K mg base CX0 1 T.d_stood_for.f T.d_stood_for.fd P_stood_for (sp_stood K) := ok_stood_for (k := 0) T
  refine T.d_Pattern___contains__.F.ok sc_Pattern___contains__ (fun vs H Q E h => ?_) (fun cdv A outer s H vs Q E hr h => ?_)
  · obtain ⟨_, _, _, _, _, rfl, _⟩ := h
    rfl
  · obtain ⟨x, b, ts, v, o, rfl, hR, hC, hv, q⟩ := h
    obtain ⟨dx, p, xs, hs, hp, hx⟩ := hR
    have hl : xs.length = ts.length := by rw [hx.length, Tm.ds_map, List.length_map]
    refine ⟨_, (pss_one (ps_ret (pe_and (pe_call G_are_values (hr.mono (by omega)) rfl T.d_are_values.g T.d_are_values.F.kp T.d_are_values.b .nil pass0 (pa_cons (pe_callB (r := rLenG K) call_lenG (by rfl) T.b_len bt_len (pa_cons (pe_slC (K := K) rfl (pv 0)) pa_nil)) (pa_cons (pv 1) pa_nil))) (pe_one (pe_cmpR op_notN (pe_call G_stood_for (hr.mono (by omega)) rfl T.d_stood_for.g T.d_stood_for.F.kp T.d_stood_for.b .nil pass0 (pa_cons (pe_slC (K := K) rfl (pv 0)) (pa_cons (pv 1) pa_nil))) pe_non (nomark _)))))), ?_⟩
    refine ⟨.ref x, rfl, x, T.C_Pattern, dx, T.p_Pattern_its_terms, _, 0, .ref p, rfl, hs, T.c_Pattern, T.sl_Pattern_its_terms, rfl, ?_⟩
    walk_at "nc"
    refine rd_len (.inr hp) ?_
    rw [hl]
    refine ⟨v, rfl, ?_⟩
    cases hv with
    | @odd _ t h1 h2 _ h3 =>
      refine ⟨_, v, t, b, rfl, h1, h2, fun H1 m1 => ?_⟩
      refine ⟨_, rfl, ?_⟩
      cases t with
      | tup us =>
        show if (decide ((us.length : Int) = ts.length) && isTerms us) = true then _ else _
        rw [h3 us rfl, Bool.and_false]
        exact q H1 m1
      | _ => exact q H1 m1
    | @tms a ys us h1 h2 h3 h4 h5 =>
      have hth : IsAll K b H ys (Tm.ths us) := IsAll.of_ims us ys h3 h2
      refine ⟨_, .ref a, .tup (Tm.ths us), b, rfl, ⟨a, ys, rfl, h1, hth⟩, h5, fun H1 m1 => ?_⟩
      refine ⟨_, rfl, ?_⟩
      show if (decide (((Tm.ths us).length : Int) = ts.length) && isTerms (Tm.ths us)) = true then _ else _
      rw [isTerms_ths (fun i h => h.1) us h3, Bool.and_true, ths_len]
      by_cases he : us.length = ts.length
      · rw [decide_eq_true (by omega : (us.length : Int) = ts.length)]
        refine ⟨.ref x, rfl, x, T.C_Pattern, dx, T.p_Pattern_its_terms, _, 0, .ref p, rfl, Slt.mv hs m1, T.c_Pattern, T.sl_Pattern_its_terms, rfl, ?_⟩
        refine ⟨.ref a, rfl, p, a, xs, ys, ts, us, rfl, m1.sqT hp, m1.sqT h1, hx.mv m1, h2.mv m1, he.symm, ?_, hC.nod, hC.leaf, fun p2 H2 m2 hI => ?_, fun H2 m2 hI => ?_⟩
        · exact .zip (ok40 hC) hC.dep (Tm.oks_iff.mpr fun t ht => Tm.ok_on t (Tm.oks_iff.mp h3 t ht) fun i hi => (Tm.ok_leaves t (Tm.oks_iff.mp h3 t ht) i hi).2) h4
        · refine ⟨rfl, ?_⟩
          have := q H2 (m1.trans m2)
          simpa [instB, he, hI] using this
        · refine ⟨rfl, ?_⟩
          have := q H2 (m1.trans m2)
          simpa [instB, hI] using this
      · rw [decide_eq_false (by omega : ¬ (us.length : Int) = ts.length)]
        have := q H1 m1
        simpa [instB, he] using this
end
end Fm
namespace Fm
open PySem PySem.Spec PyProof.Rows L2 SlX
local macro_rules | `(tactic| walk_at "nn") => `(tactic| dsimp only [tC, tNil, tCons, tCB, tCall, gName, tSeq, tAsg, tPar, tDrop, tRet])
local macro_rules | `(tactic| walk_at "nc") => `(tactic| dsimp only [tC, tNil, tCons, tCB, tCall])
def ColsAt (K : PySem.W.Frag) (S : List Addr) (H : Hp) : List V → List (List Tm) → Prop := Paired fun v c => ∃ a xs, v = .ref a ∧ a ∉ S ∧ H a = some (.lst xs) ∧ Ims K H xs (Tm.ds c)
theorem ColsAt.mv {K : PySem.W.Frag} {S : List Addr} {H H' : Hp} (m : Mv S H H') {ks : List V} {cs : List (List Tm)} (h : ColsAt K S H ks cs) : ColsAt K S H' ks cs :=
  paired_imp (fun v c ⟨a, xs, h1, h2, h3, h4⟩ => ⟨a, xs, h1, h2, m.keep _ _ h2 h3, h4.mv m⟩) h
theorem ColsAt.dp {K : PySem.W.Frag} {S : List Addr} {H : Hp} : ∀ {ks : List V} {cs : List (List Tm)}, ColsAt K S H ks cs → DpAll K H ks (cs.map colD)
  | [], _, h => by cases h; exact .nil
  | _ :: _, _, h => by
    cases h with
    | cons h1 h2 =>
      obtain ⟨a, xs, rfl, _, h3, h4⟩ := h1
      exact .cons (.lst (.inl (.inl h3)) h4.dp) (ColsAt.dp h2)
theorem ColsAt.get {K : PySem.W.Frag} {S : List Addr} {H : Hp} : ∀ {ks : List V} {cs : List (List Tm)} {i : Nat} {v : V}, ColsAt K S H ks cs → ks[i]? = some v → ∃ c a xs, cs[i]? = some c ∧ v = .ref a ∧ a ∉ S ∧ H a = some (.lst xs) ∧ Ims K H xs (Tm.ds c)
  | _ :: _, _, 0, _, h, e => by
    cases h with
    | cons h1 h2 =>
      cases e
      obtain ⟨a, xs, h⟩ := h1
      exact ⟨_, a, xs, rfl, h⟩
  | _ :: _, _, i + 1, _, h, e => by
    cases h with
    | cons h1 h2 => exact ColsAt.get (i := i) h2 (by simpa using e)
theorem ColsAt.add {K : PySem.W.Frag} {S : List Addr} {D : Addr} {H : Hp} (n : H D = none) {ks : List V} {cs : List (List Tm)} (h : ColsAt K S H ks cs) : ColsAt K (D :: S) H ks cs :=
  paired_imp (fun v c ⟨a, xs, h1, h2, h3, h4⟩ => ⟨a, xs, h1, by
    rw [List.mem_cons]
    rintro (rfl | h)
    · rw [n] at h3
      cases h3
    · exact h2 h, h3, h4⟩) h
theorem ColsAt.mono {K : PySem.W.Frag} {S S' : List Addr} {H : Hp} (hS : ∀ a ∈ S', a ∈ S) {ks : List V} {cs : List (List Tm)} (h : ColsAt K S H ks cs) : ColsAt K S' H ks cs :=
  paired_imp (fun v c ⟨a, xs, h1, h2, h3, h4⟩ => ⟨a, xs, h1, fun z => h2 (hS a z), h3, h4⟩) h
def sp_col (K : PySem.W.Frag) (d : Nat) : Sp := fun vs H Q _ => ∃ (c kn : Addr) (S : List Addr) (xs ks : List V) (t : Tm) (us : List Tm) (cs : List (List Tm)), vs = [.ref c, .ref kn] ∧ kn ∈ S ∧ (∀ a ∈ S, H a ≠ none) ∧ c ∉ S ∧ H c = some (.lst xs) ∧ Ims K H xs (Tm.ds (t :: us)) ∧
  ColF (t :: us) ∧ us.length ≤ 3 ∧ t.dep < d ∧ H kn = some (.lst ks) ∧ ColsAt K S H ks cs ∧ (∀ c ∈ cs, ColF c) ∧ cs.length + Tm.nod [t] ≤ 90000 ∧
  ∀ v H' ks', Mv [kn] H H' → H' kn = some (.lst ks') → ColsAt K S H' ks' ((skT t us).lab.foldl stpg cs) → Im K H' v ((skT t us).num (idxN ((skT t us).lab.foldl stpg cs))).d → Q v H'
theorem idx_le {α : Type} [DecidableEq α] {a : α} : ∀ {l : List α} {m : Nat} (h : m < l.length), l[m] = a → l.idxOf a ≤ m
  | [], _, h, _ => by simp at h
  | x :: l, 0, h, e => by
    have e : x = a := e
    rw [e, List.idxOf_cons_self]
    exact Nat.le_refl _
  | x :: l, m + 1, h, e => by
    have ih := idx_le (l := l) (m := m) (by simpa using h) (by simpa using e)
    rw [List.idxOf_cons]
    cases x == a <;> simp only [cond_true, cond_false] <;> omega
def ixOf {α : Type} [DecidableEq α] (l : List α) (a : α) : Nat := l.idxOf a
theorem ixOf_get {α : Type} [DecidableEq α] {l : List α} {a : α} (h : a ∈ l) : l[ixOf l a]? = some a := by
  have hlt := List.idxOf_lt_length_of_mem h
  unfold ixOf
  rw [List.getElem?_eq_getElem hlt, List.getElem_idxOf hlt]
theorem ixOf_le {α : Type} [DecidableEq α] {l : List α} {a : α} {m : Nat} (h : m < l.length) (e : l[m] = a) : ixOf l a ≤ m := idx_le h e
theorem rd_heads {K : PySem.W.Frag} {D : Addr} {vs : List V} {t : Tm} {us : List Tm} {σ : L2.St} {H : Hp} {A B : TS} {Dk : L2.Ends} (hs : σ[2]? = some (some (.ref D))) (he : H D = some (.lst vs)) (hi : Ims K H vs ((t :: us).map hdD)) (hF : ColF (t :: us))
    (h1 : ∀ x ts, t = .op x ts → (t :: us).all (fun u => decide (Tm.hd u = some (x, ts.length))) = true → A Dk σ H) (h2 : skT t us = .leaf (t :: us) → B Dk σ H) :
    tIfS (tAnd (tTest (tOp (fun x y H Q => y = V.non ∧ Q (V.bl !decide (x = V.non)) H) (tOp (rIx K) (tVar 2) (tC (V.int 0))) (tC V.non))) (tTest (tOp (rEqG K) (tBM K "list" (rCountD K) (tVar 2) (tCons (tOp (rIx K) (tVar 2) (tC (V.int 0))) tNil)) (tCB (rLenG K) (tCons (tVar 2) tNil))))) A B Dk σ H := by
  obtain ⟨y, ys, rfl, hy, hys⟩ := hi.invD
  have hL : SqL K H D (y :: ys) := .inl (.inl he)
  have hyl : ys.length = us.length := by rw [hys.length, List.length_map]
  refine ⟨.ref D, hs, rd_ixL hL (by decide) (v := y) rfl ⟨rfl, _, rfl, ?_⟩⟩
  cases t with
  | var i =>
    have : y = .non := by
      cases hy.dp
      rfl
    subst this
    exact h2 rfl
  | op x ts =>
    obtain ⟨a, as, rfl, _, _⟩ := hy.tupI
    obtain ⟨f1, f2⟩ := hds_shaped hF
    have hsh : SeqAt.shaped (.list (((Tm.op x ts) :: us).map hdD)) = true := shaped_fi f1 (by simp only [PyData.depth]; omega)
    have hsd : SeqAt.shaped (hdD (Tm.op x ts)) = true := by
      obtain ⟨g1, g2⟩ := hd_fine (hF _ List.mem_cons_self).1
      exact shaped_fi g1 (by omega)
    refine ⟨.ref D, hs, .inl ⟨rfl, _, hL⟩, .ref D, hs, rd_ixL hL (by decide) (v := .ref a) rfl ⟨D, .ref a, _, _, rfl, rfl, .lst hL hi.dp, hy.dp, hsh, hsd, .ref D, hs, ?_⟩⟩
    walk_at "nc"
    refine rd_len (.inl hL) (Or.inl ⟨rfl, _, rfl, ?_⟩)
    by_cases hall : ((Tm.op x ts) :: us).all (fun u => decide (Tm.hd u = some (x, ts.length))) = true
    · have hcnt := (hds_count ((Tm.op x ts) :: us) x ts).mpr hall
      have he' : V.int (((Tm.op x ts :: us).length : Nat) : Int) = V.int (((V.ref a :: ys).length : Nat) : Int) := by simp [hyl]
      rw [hcnt, decide_eq_true he']
      exact h1 x ts rfl hall
    · have hcnt : ¬ _ := fun z => hall ((hds_count ((Tm.op x ts) :: us) x ts).mp z)
      have hne : ¬ V.int ((List.countP (fun z => PyData.eqv z (hdD (Tm.op x ts))) (List.map hdD (Tm.op x ts :: us)) : Nat) : Int) = V.int ((V.ref a :: ys).length : Nat) := fun z => hcnt (by
        have := V.int.inj z
        simp only [List.length_cons, hyl] at this ⊢
        omega)
      rw [decide_eq_false hne]
      refine h2 ?_
      rw [skT, if_neg]
      intro z
      apply hall
      rw [List.all_cons, z, Bool.and_true]
      simp [Tm.hd]
section
variable {P : Program} {w : World} {K : PySem.W.Frag} {mg : Str → Option Value} {base : Heap}
theorem ok__law_column (T : TX K mg) : ∀ d : Nat, FnOk P w K mg base CX0 (d + 1) T.d__law_column.f T.d__law_column.fd P__law_column (sp_col K d)
  | 0 => ⟨fun vs H Q E h => by obtain ⟨_, _, _, _, _, _, _, _, _, _, _, _, _, _, _, _, h, _⟩ := h; omega, fun _ _ _ _ _ _ _ _ _ _ _ _ _ h => by obtain ⟨_, _, _, _, _, _, _, _, _, _, _, _, _, _, _, _, h, _⟩ := h; omega⟩
  | d + 1 => by
    have G__law_column := ok__law_column T d
    refine T.d__law_column.F.ok sc__law_column (fun vs H Q E h => ?_) (fun cdv A outer s H vs Q E hr h => ?_)
    · obtain ⟨_, _, _, _, _, _, _, _, rfl, _⟩ := h
      rfl
    · obtain ⟨c, kn, S, xs, ks, t, us, cs, rfl, hkS, hS, hcS, hc, hxs, hF, hul, hdp, hk, hCs, hcF, hsz, q⟩ := h
      have hck : c ≠ kn := fun z => hcS (z ▸ hkS)
      have hu64 := hr.units
      have hu65 := hu65_of hr
      have hu1 := hu1_of hr
      have hxl : xs.length = us.length + 1 := by rw [hxs.length, Tm.ds_map, List.length_map]; rfl
      refine ⟨_, (pss_cons (ps_setLc (i := 2) (own := [("_law_term_here", 4)]) (g := gName 4) (by rfl) sc__law_column.nd rfl rfl (sw_true rfl rfl rfl (by decide +kernel)) (pi_seq (pv 0)) (blkOk_by (own := [("_law_term_here", 4)]) (N := N__law_column) (sc := defScope s__law_column) (by decide +kernel)) (fun _ _ _ _ _ => pg_name (i := 4) sc__law_column.nd rfl (Or.inl rfl)) (fun _ _ _ _ _ => pts_nil) (fun _ _ _ _ _ => (pe_ifExp (pt_val (pe_callB (r := rIsi K) call_isi (by rfl) T.b_isinstance bt_isinstance (pa_cons (pv 4) (pa_cons (pe_ty T.b_int bt_int) pa_nil)))) pe_non (pe_tup (pa_cons (pe_ix (r := rIx K) ix_seq (pv 4) pe_int (fun _ _ => rfl)) (pa_cons (pe_callB (r := rLenG K) call_lenG (by rfl) T.b_len bt_len (pa_cons (pv 4) pa_nil)) pa_nil)))))) (pss_cons (ps_if (PW.pt (pw_and (pt_cmpR op_notN (pe_ix (r := rIx K) ix_seq (pv 2) pe_int (fun _ _ => rfl)) pe_non (nomark _)) (pw_and1 (pt_cmpR (r := rEqG K) (op_eqG hu64) (pe_countD (K := K) rfl hu65 (pv 2) (pa_cons (pe_ix (r := rIx K) ix_seq (pv 2) pe_int (fun _ _ => rfl)) pa_nil)) (pe_callB (r := rLenG K) call_lenG (by rfl) T.b_len bt_len (pa_cons (pv 2) pa_nil)) (nomark _))))) (pss_cons (ps_setLc (i := 3) (own := [("_law_at", 5)]) (g := gName 5) (by rfl) sc__law_column.nd rfl rfl (sw_true rfl rfl rfl (by decide +kernel)) (pi_range2 (by rfl) T.b_range (pa_cons pe_int (pa_cons (pe_callB (r := rLenG K) call_lenG (by rfl) T.b_len bt_len (pa_cons (pe_ix (r := rIx K) ix_seq (pv 0) pe_int (fun _ _ => rfl)) pa_nil)) pa_nil))) (blkOk_by (own := [("_law_at", 5)]) (N := N__law_column) (sc := defScope s__law_column) (by decide +kernel)) (fun _ _ _ _ _ => pg_name (i := 5) sc__law_column.nd rfl (Or.inr rfl)) (fun _ _ _ _ _ => pts_nil) (fun _ _ _ _ _ => (pe_lc (own := [("_law_term_here", 4)]) (g := gName 4) (by rfl) sc__law_column.nd (pi_seqC (K := K) rfl (pv 0)) (by exact blkOk_by (by rfl)) (fun _ _ _ _ _ => pg_name (i := 4) sc__law_column.nd rfl (Or.inl rfl)) (fun _ _ _ _ _ => pts_nil) (fun _ _ _ _ _ => (pe_ix (r := rIx K) ix_seq (pv 4) (pv 5) (fun _ _ => rfl)))))) (pss_one (ps_ret (pe_op (r := rAddG K) op_addG (pe_slice (r := rSlG K) sl_G (pe_ix (r := rIx K) ix_seq (pv 0) pe_int (fun _ _ => rfl)) po_none (po_some pe_int)) (pe_callTy (r := rTupOf K) call_tupG (by rfl) T.b_tuple bt_tuple (pa_cons (pe_lc (own := [("_law_part", 6)]) (g := gName 6) (by rfl) sc__law_column.nd (pi_seq (pv 3)) (blkOk_by (own := [("_law_part", 6)]) (N := N__law_column) (sc := defScope s__law_column) (by decide +kernel)) (fun _ _ _ _ _ => pg_name (i := 6) sc__law_column.nd rfl (Or.inl rfl)) (fun _ _ _ _ _ => pts_nil) (fun _ _ _ _ _ => (pe_call G__law_column (hr.mono (by omega)) rfl T.d__law_column.g T.d__law_column.F.kp T.d__law_column.b .nil pass0 (pa_cons (pv 6) (pa_cons (pv 1) pa_nil))))) pa_nil)))))) pss_nil) (Evl.pss_cut (ps_if (pt_cmpR (r := rNotInG K) (op_notInG hu65) (pv 0) (pv 1) rfl) (pss_one (ps_expr (pe_bm PySem.F.plainAttrs_list PySem.F.slot_list_append PySem.F.type_list_append mt_append (pv 1) (pa_cons (pv 0) pa_nil)))) pss_nil) (pss_one (ps_ret (pe_bm PySem.F.plainAttrs_list PySem.F.slot_list_index PySem.F.type_list_index (r := rIndexD K) (mt_indexD hu65) (pv 1) (pa_cons (pv 0) pa_nil))))))), ?_⟩
      refine ⟨.ref c, rfl, c, rfl, ?_⟩
      refine lc_seq (xs := xs) (.inl (.inl (.inl hc))) (fun i D H1 => ∃ vs, H1 D = some (.lst vs) ∧ Ims K H1 vs (((t :: us).take i).map hdD) ∧ Mv [] H H1)
        (fun D nD => ⟨[], upd_same, Ims.nil, .new nD⟩) (fun i D H1 nD h1 => h1.elim fun _ h => h.2.2) (fun D nD i x H1 hx h1 => ?_) (fun D H1 nD h1 => ?_)
      · obtain ⟨vs, e1, i1, m1⟩ := h1
        obtain ⟨xd, hxd, him⟩ := hxs.get hx
        rw [Tm.ds_map, List.getElem?_map] at hxd
        obtain ⟨u, hu, rfl⟩ := Option.map_eq_some_iff.mp hxd
        have hmem := List.mem_of_getElem? hu
        have hi := (List.getElem?_eq_some_iff.mp hu).1
        refine ⟨rfl, x, rfl, ?_⟩
        walk_at "nn"
        refine rd_isInt (him.mv m1) ?_
        refine ⟨_, rfl, ?_⟩
        have hvl : vs.length = i := by rw [i1.length, List.length_map, List.length_take]; omega
        have hil : i < 4 := by rw [List.length_cons] at hi; omega
        have htk : ((t :: us).take (i + 1)).map hdD = ((t :: us).take i).map hdD ++ [hdD u] := by rw [List.take_add_one, hu]; simp
        cases u with
        | var j =>
          refine ⟨vs, e1, by rw [hvl]; exact line5lt (by omega), vs ++ [.non], upd_same, ?_, m1.wr nD⟩
          rw [htk]
          exact (i1.append (Ims.cons Im.non Ims.nil)).mv (Mv.set (S := [D]) e1 (by simp))
        | op y ws =>
          obtain ⟨a, zs0, rfl, ha, hzs0⟩ := (him.mv m1).tupI
          obtain ⟨n0, zs, rfl, hn0, hzs⟩ := hzs0.invD
          cases hn0.strI
          have hzl : zs.length = ws.length := by rw [hzs.length, Tm.ds_map, List.length_map]
          refine ⟨.ref a, rfl, rd_ixT ha (by decide) (v := .str y) rfl ⟨.ref a, rfl, ?_⟩⟩
          walk_at "nc"
          refine rd_len (.inr ha) ⟨by show 2 ≤ sizeLine; decide, fun p np => ?_⟩
          rw [List.length_cons, hzl]
          have m2 : Mv [] H1 (upd H1 p (.tup [.str y, .int ((ws.length + 1 : Nat) : Int)])) := .new np
          have e2 := m2.same _ _ e1
          refine ⟨vs, e2, by rw [hvl]; exact line5lt (by omega), vs ++ [.ref p], upd_same, ?_, (m1.trans m2).wr nD⟩
          rw [htk]
          refine ((i1.mv m2).append (Ims.cons (Im.tup (.inl (.inl upd_same)) (Ims.cons (.str y) (Ims.cons (.int _) Ims.nil))) Ims.nil)).mv (Mv.set (S := [D]) e2 (by simp))
      · obtain ⟨vs, e1, i1, m1⟩ := h1
        rw [hxl, List.take_of_length_le (by simp)] at i1
        have hc1 := m1.same _ _ hc
        have hk1 := m1.same _ _ hk
        have hx1 := hxs.mv m1
        have hC1 : ColsAt K S H1 ks cs := hCs.mv (m1.mono (by simp))
        refine rd_heads (D := D) (σ := (L2.start N__law_column [V.ref c, V.ref kn]).set 2 (some (.ref D))) rfl e1 i1 hF (fun x ts et hall => ?_) (fun hsk => ?_)
        · subst et
          have hxop : ∃ a as, xs.head? = some (.ref a) ∧ SqT K H1 a (.str x :: as) ∧ Ims K H1 as (Tm.ds ts) := by
            obtain ⟨y0, ys, rfl, hy, hys⟩ := hx1.invD
            obtain ⟨a, zs0, rfl, ha, hzs0⟩ := hy.tupI
            obtain ⟨n0, zs, rfl, hn0, hzs⟩ := hzs0.invD
            cases hn0.strI
            exact ⟨a, zs, rfl, ha, hzs⟩
          obtain ⟨a0, as, hx0, ha0, has⟩ := hxop
          have hasl : as.length = ts.length := by rw [has.length, Tm.ds_map, List.length_map]
          have hts3 : ts.length ≤ 3 := (hF _ List.mem_cons_self).1.2.1
          have hx0' : xs[(0 : Int).toNat]? = some (.ref a0) := by
            cases xs with
            | nil => cases hx0
            | cons y ys => exact hx0
          have hskT : skT (.op x ts) us = .op x (skL ts 0 us) := by
            rw [skT, if_pos]
            rw [List.all_cons, Bool.and_eq_true] at hall
            exact hall.2
          refine ⟨.ref c, rfl, rd_ixL (.inl (.inl hc1)) (by decide) hx0' ?_⟩
          walk_at "nc"
          refine rd_len (.inr ha0) ⟨1, _, rfl, ⟨by decide, by decide, by rw [List.length_cons]; omega, by rw [List.length_cons]; omega⟩, fun D2 nD2 => ?_⟩
          have hn : ((((V.str x :: as).length : Nat) : Int) - 1).toNat = ts.length := by rw [List.length_cons, hasl]; omega
          rw [hn]
          have hknD2 : kn ≠ D2 := ne_of_none hk1 nD2
          refine lc_range (lo := 1) (n := ts.length) (fun i H3 => ∃ vs, H3 D2 = some (.lst vs) ∧ ColsAt K (D2 :: S) H3 vs ((List.range i).map fun j => (Tm.op x ts :: us).map (Tm.arg j)) ∧ Mv [] H1 H3)
            ⟨[], upd_same, .nil, .new nD2⟩ (fun i H3 hi h3 => ?_) (fun H3 h3 => ?_)
          · obtain ⟨vs3, e3, c3, m3⟩ := h3
            have hc3 := m3.same _ _ hc1
            have hx3 := hx1.mv m3
            refine ⟨rfl, .ref c, rfl, c, rfl, ?_⟩
            refine lc_seq (xs := xs) (.inl (.inl (.inl hc3))) (fun i2 D3 H4 => ∃ ys, H4 D3 = some (.lst ys) ∧ Ims K H4 ys (Tm.ds (((Tm.op x ts :: us).take i2).map (Tm.arg i))) ∧ Mv [] H3 H4)
              (fun D3 nD3 => ⟨[], upd_same, Ims.nil, .new nD3⟩) (fun i2 D3 H4 nD3 h4 => h4.elim fun _ h => h.2.2) (fun D3 nD3 i2 y H4 hy h4 => ?_) (fun D3 H4 nD3 h4 => ?_)
            · obtain ⟨ys4, e4, i4, m4⟩ := h4
              obtain ⟨xd, hxd, him⟩ := hx3.get hy
              rw [Tm.ds_map, List.getElem?_map] at hxd
              obtain ⟨u, hu, rfl⟩ := Option.map_eq_some_iff.mp hxd
              have hmem := List.mem_of_getElem? hu
              have hi2 := (List.getElem?_eq_some_iff.mp hu).1
              obtain ⟨yn, ws, rfl, hws⟩ := arg_get (of_decide_eq_true (List.all_eq_true.mp hall u hmem)) hi
              obtain ⟨a1, zs0, rfl, ha1, hzs0⟩ := (him.mv m4).tupI
              obtain ⟨n1, zs1, rfl, hn1, hzs1⟩ := hzs0.invD
              obtain ⟨v1, hv1, him1⟩ := hzs1.getD (d := ((Tm.op yn ws).arg i).d) (i := i) (by rw [Tm.ds_map, List.getElem?_map, hws]; rfl)
              have hyl : ys4.length = i2 := by rw [i4.length, Tm.ds_map, List.length_map, List.length_map, List.length_take]; omega
              rw [List.length_cons] at hi2
              refine ⟨rfl, .ref a1, rfl, .int (1 + (i : Int)), rfl, rd_ixT ha1 (by omega) (v := v1) (by rw [show (1 + (i : Int)).toNat = i + 1 by omega]; exact hv1) ?_⟩
              refine ⟨ys4, e4, by rw [hyl]; exact line5lt (by omega), ys4 ++ [v1], upd_same, ?_, m4.wr nD3⟩
              rw [List.take_add_one, hu]
              rw [show Tm.ds (List.map (Tm.arg i) (List.take i2 (Tm.op x ts :: us) ++ (some (Tm.op yn ws)).toList)) = Tm.ds (List.map (Tm.arg i) (List.take i2 (Tm.op x ts :: us))) ++ [((Tm.op yn ws).arg i).d] by simp [Tm.ds_map]]
              exact (i4.append (Ims.cons him1 Ims.nil)).mv (Mv.set (S := [D3]) e4 (by simp))
            · obtain ⟨ys4, e4, i4, m4⟩ := h4
              rw [hxl, List.take_of_length_le (by simp)] at i4
              have e34 := m4.same _ _ e3
              have hvl : vs3.length = i := by rw [paired_len c3, List.length_map, List.length_range]
              refine ⟨vs3, e34, by rw [hvl]; exact line5lt (by omega), vs3 ++ [.ref D3], upd_same, ?_, (m3.trans m4).wr nD2⟩
              rw [List.range_succ, List.map_append]
              have m5 : Mv [D2] H4 (upd H4 D2 (.lst (vs3 ++ [.ref D3]))) := .set e34 (by simp)
              have hk3 := m3.same _ _ hk1
              have hS3 : ∀ a ∈ S, H3 a ≠ none := fun a ha z => hS a ha ((m1.trans m3).free z)
              have hD32 : D3 ≠ D2 := (ne_of_none e3 nD3).symm
              refine paired_snocN ((c3.mv (m4.mono (by simp))).mv (m5.mono (by simp))) ⟨D3, ys4, rfl, by rw [List.mem_cons]; rintro (z | z); exact hD32 z; exact hS3 D3 z nD3, ?_, i4.mv m5⟩
              rw [upd_ne hD32]
              exact e4
          · obtain ⟨vs3, e3, c3, m3⟩ := h3
            have hc3 := m3.same _ _ hc1
            have hk3 := m3.same _ _ hk1
            have ha3 := m3.sqT ha0
            refine ⟨.ref c, rfl, rd_ixL (.inl (.inl hc3)) (by decide) hx0' ?_⟩
            refine ⟨_, rfl, ?_⟩
            refine rd_slA ha3 fun p4 H4 m4 e4 => ?_
            have m14 := m3.trans m4
            have e34 := m4.same _ _ e3
            have hk4 := m4.same _ _ hk3
            have c4 := c3.mv (m4.mono (by simp))
            have hC4 : ColsAt K S H4 ks cs := hC1.mv (m14.mono (by simp))
            have hvl : vs3.length = ts.length := by rw [paired_len c3, List.length_map, List.length_range]
            refine ⟨.ref D2, rfl, D2, rfl, ?_⟩
            rw [Tm.nod_op] at hsz
            have hS4 : ∀ a ∈ S, H4 a ≠ none := fun a ha z => hS a ha ((m1.trans m14).free z)
            refine Or.inl ⟨⟨vs3, .inl (.inl e34)⟩, fun D5 nD5 => lc_list (xs := vs3) (fun i H5 => ∃ ys ks', H5 D5 = some (.lst ys) ∧ Ims K H5 ys (Tm.ds (Gt.nums (idxN ((Gt.labs ((skL ts 0 us).take i)).foldl stpg cs)) ((skL ts 0 us).take i))) ∧ H5 kn = some (.lst ks') ∧ ColsAt K (D5 :: S) H5 ks' ((Gt.labs ((skL ts 0 us).take i)).foldl stpg cs) ∧ Mv [kn] H4 H5)
              ⟨[], ks, upd_same, Ims.nil, (Mv.new (S := []) nD5).same _ _ hk4, (hC4.add nD5).mv (.new nD5), .new nD5⟩ (fun i H5 _ h5 => ?_) (fun i x H5 hx h5 => ?_) (fun H5 h5 => ?_)⟩
            · obtain ⟨ys, ks', _, _, _, _, m5⟩ := h5
              exact .inl (.inl (m5.keep _ _ (by simpa using hknD2.symm) e34))
            · obtain ⟨ys, ks', e5, i5, k5, c5, m5⟩ := h5
              have hi : i < ts.length := by rw [← hvl]; exact (List.getElem?_eq_some_iff.mp hx).1
              obtain ⟨ti, hti⟩ : ∃ ti, ts[i]? = some ti := ⟨_, List.getElem?_eq_getElem hi⟩
              obtain ⟨c', a, xs', hc', rfl, haS, ha5, hxs'⟩ := ((c4.add nD5).mv (m5.mono (by simp; exact .inr (.inr hkS)))).get hx
              rw [List.getElem?_map, List.getElem?_range hi] at hc'
              cases hc'
              dsimp only at hxs'
              have hFi := colF_arg hF (fun u hu => of_decide_eq_true (List.all_eq_true.mp hall u hu)) hi
              rw [List.map_cons, show (Tm.op x ts).arg i = ti by rw [Tm.arg, List.getD_eq_getElem?_getD, hti]; rfl] at hFi hxs'
              have hg : (skL ts 0 us).take (i + 1) = (skL ts 0 us).take i ++ [skT ti (us.map (Tm.arg i))] := by
                rw [List.take_add_one, skL_get hti, Nat.zero_add]
                rfl
              have hcsF : ∀ c ∈ (Gt.labs ((skL ts 0 us).take i)).foldl stpg cs, ColF c := fun c hc => by
                rcases (foldg_mem _ _ _).mp hc with h | h
                · exact hcF c h
                · refine skL_colF ts 0 us (fun j t' ht' => ?_) c ?_
                  · have hj := (List.getElem?_eq_some_iff.mp ht').1
                    have h1 := colF_arg hF (fun u hu => of_decide_eq_true (List.all_eq_true.mp hall u hu)) hj
                    rw [List.map_cons, show (Tm.op x ts).arg j = t' by rw [Tm.arg, List.getD_eq_getElem?_getD, ht']; rfl] at h1
                    rwa [Nat.zero_add]
                  · rw [← List.take_append_drop i (skL ts 0 us), Gt.labs_app]
                    exact List.mem_append.mpr (.inl h)
              have hcl : ((Gt.labs ((skL ts 0 us).take i)).foldl stpg cs).length + Tm.nod [ti] ≤ 90000 := by
                have h1 := foldg_len (Gt.labs ((skL ts 0 us).take i)) cs
                rw [skL_take] at h1 ⊢
                have h2 := skL_labs (ts.take i) 0 us
                have h3 : Tm.nod ts = Tm.nod (ts.take i) + (Tm.nod [ti] + Tm.nod (ts.drop (i + 1))) := by
                  rw [← nod_cons, ← Tm.nod_append]
                  congr 1
                  rw [show ti = ts[i] from (List.getElem?_eq_some_iff.mp hti).2.symm]
                  simp
                omega
              have hS5 : ∀ b ∈ D5 :: S, H5 b ≠ none := fun b hb z => by
                rcases List.mem_cons.mp hb with rfl | hb
                · rw [e5] at z
                  cases z
                · by_cases hbk : b = kn
                  · rw [hbk, k5] at z
                    cases z
                  · cases hz : H4 b with
                    | none => exact hS4 b hb hz
                    | some o =>
                      rw [m5.keep b o (by simpa using hbk) hz] at z
                      cases z
              have hdi : ti.dep < d := by
                simp only [Tm.dep] at hdp
                have := Tm.deps_le.mp (show Tm.deps ts ≤ Tm.deps ts from Nat.le_refl _) ti (List.mem_of_getElem? hti)
                omega
              have haS5 : a ∉ D5 :: S := fun z => haS (by simp at z ⊢; exact z.elim .inl fun z => .inr (.inr z))
              refine ⟨rfl, .ref a, rfl, .ref kn, rfl, a, kn, D5 :: S, xs', ks', ti, us.map (Tm.arg i), _, rfl, List.mem_cons_of_mem _ hkS, hS5, haS5, ha5, hxs', hFi, by rw [List.length_map]; exact hul, hdi, k5, c5, hcsF, hcl, fun v H6 ks6 m6 k6 c6 im6 => ?_⟩
              have hDk : D5 ≠ kn := (ne_of_none hk4 nD5).symm
              have e6 := m6.keep _ _ (by simpa using hDk) e5
              have hyl : ys.length = i := by rw [i5.length, Tm.ds_map, List.length_map, Gt.nums_len, List.length_take, skL_len]; omega
              have hcs : (Gt.labs ((skL ts 0 us).take (i + 1))).foldl stpg cs = (skT ti (us.map (Tm.arg i))).lab.foldl stpg ((Gt.labs ((skL ts 0 us).take i)).foldl stpg cs) := by
                rw [hg, Gt.labs_snoc, List.foldl_append]
              have m7 : Mv [D5] H6 (upd H6 D5 (.lst (ys ++ [v]))) := .set e6 (by simp)
              refine ⟨ys, e6, by rw [hyl]; exact line5lt (by omega), ys ++ [v], ks6, upd_same, ?_, by rw [upd_ne hDk.symm]; exact k6, ?_, (m5.trans m6).wr nD5⟩
              · rw [hcs, hg, Gt.nums_snoc, num_grow fun c hc => (foldg_mem _ _ _).mpr (.inr hc), Tm.ds_append]
                exact ((i5.mv m6).append (Ims.cons im6 Ims.nil)).mv m7
              · rw [hcs]
                exact c6.mv (m7.mono (by simp))
            · obtain ⟨ys, ks', e5, i5, k5, c5, m5⟩ := h5
              rw [hvl, List.take_of_length_le (by rw [skL_len]; omega)] at i5 c5
              have hyl : ys.length = ts.length := by rw [i5.length, Tm.ds_map, List.length_map, Gt.nums_len, skL_len]
              walk_at "nn"
              refine rd_tupOf (.inl (.inl e5)) fun p6 H6 m6 e6 => ?_
              refine rd_cat ((m5.trans (m6.mono (by simp))).sqT e4) e6 ?_ fun p7 H7 m7 e7 => ?_
              · rw [hyl]
                exact Nat.le_of_lt (line5lt (by simp; omega))
              · have m67 := m6.trans m7
                have m47 : Mv [kn] H4 H7 := m5.trans (m67.mono (by simp))
                refine q _ H7 ks' ((m1.trans m14).mono (by simp) |>.trans m47) (m67.same _ _ k5) ?_ ?_
                · rw [hskT]
                  exact (c5.mv (m67.mono (by simp))).mono (by simp_all)
                · rw [hskT]
                  exact Im.tup e7 (Ims.cons (.str x) (i5.mv m67))
        · have hsh : ∀ c' ∈ [t :: us].foldl stpg cs, ColF c' := fun c' h => by
            rcases (foldg_mem [t :: us] cs c').mp h with h | h
            · exact hcF c' h
            · rw [List.mem_singleton.mp h]
              exact hF
          refine ⟨fun σ' H' => σ' = (L2.start N__law_column [V.ref c, V.ref kn]).set 2 (some (.ref D)) ∧ ∃ ks', Mv [kn] H H' ∧ H' kn = some (.lst ks') ∧ ColsAt K S H' ks' ([t :: us].foldl stpg cs), ?_, ?_⟩
          · refine ⟨.ref c, rfl, .ref kn, rfl, Or.inl ⟨colD (t :: us), cs.map colD, .lst (.inl (.inl hc1)) hx1.dp, .lst (.inl (.inl hk1)) hC1.dp, col_shaped hF, cols_shaped hcF, ?_⟩⟩
            rw [cols_any hcF]
            refine ⟨_, rfl, ?_⟩
            rw [foldg_one]
            by_cases hm : t :: us ∈ cs
            · rw [decide_eq_true hm, if_pos hm]
              exact ⟨rfl, ks, m1.mono (by simp), hk1, hC1⟩
            · rw [decide_eq_false hm, if_neg hm]
              have hkl : ks.length = cs.length := paired_len hC1
              refine ⟨.ref kn, rfl, .inl ⟨rfl, _, .inl (.inl hk1)⟩, .ref c, rfl, kn, ks, .ref c, rfl, rfl, hk1, line5lt (by omega), ?_⟩
              have m2 : Mv [kn] H1 (upd H1 kn (.lst (ks ++ [.ref c]))) := .set hk1 (by simp)
              refine ⟨rfl, _, (m1.mono (by simp)).trans m2, upd_same, paired_snocN (hC1.mv (m2.mono (by simpa using hkS))) ⟨c, xs, rfl, hcS, ?_, hx1.mv m2⟩⟩
              exact m2.keep _ _ (by simpa using hck) hc1
          · rintro σ' H2 ⟨rfl, ks', m2, hk2, hC2⟩
            have hc2 := m2.keep _ _ (by simpa using hck) hc
            have hmem : t :: us ∈ [t :: us].foldl stpg cs := (foldg_mem _ _ _).mpr (.inr (by simp))
            refine ⟨.ref kn, rfl, .inl ⟨rfl, _, .inl (.inl hk2)⟩, .ref c, rfl, kn, .ref c, colD (t :: us), ([t :: us].foldl stpg cs).map colD, ixOf ([t :: us].foldl stpg cs) (t :: us), colD (t :: us), rfl, rfl, .lst (.inl (.inl hk2)) hC2.dp, .lst (.inl (.inl hc2)) (hxs.mv m2).dp, cols_shaped hsh, col_shaped hF, ?_, ?_, fun m z' hm hz => ?_, ?_⟩
            · rw [List.getElem?_map, ixOf_get hmem]
              rfl
            · rw [col_eqv hF]
              exact decide_eq_true rfl
            · rw [List.getElem?_map] at hz
              obtain ⟨c', hc', rfl⟩ := Option.map_eq_some_iff.mp hz
              rw [col_eqv (hsh c' (List.mem_of_getElem? hc'))]
              refine decide_eq_false fun e => ?_
              subst e
              have := List.getElem?_eq_some_iff.mp hc'
              obtain ⟨hl, e⟩ := this
              exact absurd hm (Nat.not_lt.mpr (ixOf_le hl e))
            · refine q _ H2 ks' m2 hk2 ?_ ?_
              · rw [hsk]
                exact hC2
              · rw [hsk]
                exact Im.int _
end
end Fm
namespace Fm
open PySem PySem.Spec PyProof.Rows L2 SlX
local macro_rules | `(tactic| walk_at "nn") => `(tactic| dsimp only [tC, tNil, tCons, tCB, tCall, gName, tSeq, tAsg, tPar, tDrop, tRet])
local macro_rules | `(tactic| walk_at "nc") => `(tactic| dsimp only [tC, tNil, tCons, tCB, tCall])
mutual
theorem skT_num {P R : Int → Prop} {f : List Tm → Int} : ∀ (t : Tm) (us : List Tm), t.ok P → (∀ a ∈ (skT t us).lab, R (f a)) → ((skT t us).num f).ok R ∧ ((skT t us).num f).dep ≤ t.dep ∧ Tm.nod [(skT t us).num f] ≤ Tm.nod [t]
  | .var i, us, _, h => ⟨h _ (by simp [skT, Gt.lab]), by simp [skT, Gt.num, Tm.dep], by rw [Tm.nod_var]; simp [skT, Gt.num, Tm.nod_var]⟩
  | .op x ts, us, ho, h => by
    rw [skT] at h ⊢
    split
    · rename_i hall
      rw [if_pos hall] at h
      obtain ⟨h1, h2, h3⟩ := skL_num (P := P) (R := R) (f := f) ts 0 us ho.2.2 (fun a ha => h a (by simpa [Gt.lab] using ha))
      refine ⟨⟨ho.1, ?_, h1⟩, ?_, ?_⟩
      · rw [Gt.nums_len, skL_len]
        exact ho.2.1
      · simp only [Gt.num, Tm.dep]
        omega
      · rw [Gt.num, Tm.nod_op, Tm.nod_op]
        omega
    · rename_i hall
      rw [if_neg hall] at h
      refine ⟨h _ (by simp [Gt.lab]), by simp [Gt.num, Tm.dep], ?_⟩
      rw [Gt.num, Tm.nod_var, Tm.nod_op]
      omega
theorem skL_num {P R : Int → Prop} {f : List Tm → Int} : ∀ (ts : List Tm) (k : Nat) (us : List Tm), Tm.oks P ts → (∀ a ∈ Gt.labs (skL ts k us), R (f a)) → Tm.oks R (Gt.nums f (skL ts k us)) ∧ Tm.deps (Gt.nums f (skL ts k us)) ≤ Tm.deps ts ∧ Tm.nod (Gt.nums f (skL ts k us)) ≤ Tm.nod ts
  | [], k, us, _, _ => ⟨trivial, by simp [skL, Gt.nums], by simp [skL, Gt.nums]⟩
  | t :: ts, k, us, ho, h => by
    simp only [skL, Gt.labs] at h
    obtain ⟨h1, h2, h3⟩ := skT_num (P := P) (R := R) (f := f) t (us.map (Tm.arg k)) ho.1 (fun a ha => h a (List.mem_append.mpr (.inl ha)))
    obtain ⟨h4, h5, h6⟩ := skL_num (P := P) (R := R) (f := f) ts (k + 1) us ho.2 (fun a ha => h a (List.mem_append.mpr (.inr ha)))
    simp only [skL, Gt.nums]
    refine ⟨⟨h1, h4⟩, ?_, ?_⟩
    · simp only [Tm.deps]
      omega
    · rw [nod_cons, nod_cons t]
      omega
end
theorem idxN_lt {α : Type} [DecidableEq α] {l : List α} {a : α} (h : a ∈ l) : 0 ≤ idxN l a ∧ idxN l a < l.length := by
  have := List.idxOf_lt_length_of_mem h
  unfold idxN
  omega
theorem genL_num {P : Int → Prop} {ts : List Tm} {rest : List (List Tm)} (h : Tm.oks P ts) : Tm.oks (fun i => 0 ≤ i ∧ i < (ordg (Gt.labs (skL ts 0 (rest.map (Tm.op ""))))).length) (genL ts rest) ∧ Tm.deps (genL ts rest) ≤ Tm.deps ts ∧ Tm.nod (genL ts rest) ≤ Tm.nod ts :=
  skL_num (P := P) ts 0 _ h fun a ha => idxN_lt (ordg_mem.mpr ha)
theorem genL_len (ts : List Tm) (rest : List (List Tm)) : (genL ts rest).length = ts.length := by
  unfold genL canon
  rw [Gt.nums_len, skL_len]
theorem genL_colF {ts : List Tm} {rest : List (List Tm)} (h : ColF ts) (hn : Tm.nod ts ≤ 80000) : ColF (genL ts rest) := by
  have ho : Tm.oks (fun i => 0 ≤ i ∧ i.natAbs < 10 ^ 40) ts := Tm.oks_iff.mpr fun t ht => (h t ht).1
  obtain ⟨h1, h2, _⟩ := genL_num (rest := rest) ho
  have hd := h.deps
  have hl : (ordg (Gt.labs (skL ts 0 (rest.map (Tm.op ""))))).length ≤ 80000 := by
    have e1 := foldg_len (Gt.labs (skL ts 0 (rest.map (Tm.op "")))) []
    have e2 := skL_labs ts 0 (rest.map (Tm.op ""))
    simp only [List.length_nil] at e1
    show (List.foldl stpg [] _).length ≤ _
    omega
  intro u hu
  have hou := Tm.oks_iff.mp h1 u hu
  refine ⟨Tm.ok_on u hou fun i hi => ?_, Tm.deps_le.mp (show Tm.deps (genL ts rest) ≤ 50 by omega) u hu⟩
  have := Tm.ok_leaves u hou i hi
  exact ⟨this.1, Nat.lt_of_lt_of_le (show i.natAbs < 100000 by omega) (by decide)⟩
theorem Mv.hide {k : Addr} {H H0 H5 : Hp} (m0 : Mv [] H H0) (n : H k = none) (m : Mv [k] H0 H5) : Mv [] H H5 :=
  ⟨fun a xs h => m.tk a xs (m0.tk a xs h), fun a o _ h => m.keep a o (by
    rw [List.mem_singleton]
    rintro rfl
    rw [n] at h
    cases h) (m0.same _ _ h)⟩
theorem col_of {ts : List Tm} {rest : List (List Tm)} {i : Nat} {ti : Tm} (hF : ∀ c ∈ ts :: rest, ColF c ∧ c.length = ts.length) (h : ts[i]? = some ti) : ((ts :: rest).map fun c => (Tm.op "" c).arg i) = ti :: (rest.map (Tm.op "")).map (Tm.arg i) ∧ ColF (ti :: (rest.map (Tm.op "")).map (Tm.arg i)) := by
  have e : ((ts :: rest).map fun c => (Tm.op "" c).arg i) = ti :: (rest.map (Tm.op "")).map (Tm.arg i) := by
    rw [List.map_cons, List.map_map]
    congr 1
    rw [Tm.arg, List.getD_eq_getElem?_getD, h]
    rfl
  refine ⟨e, ?_⟩
  rw [← e]
  intro u hu
  obtain ⟨c, hc, rfl⟩ := List.mem_map.mp hu
  obtain ⟨h1, h2⟩ := hF c hc
  have hi := (List.getElem?_eq_some_iff.mp h).1
  refine h1 _ ?_
  rw [Tm.arg, List.getD_eq_getElem?_getD, List.getElem?_eq_getElem (by omega)]
  exact List.getElem_mem _
def sp_gen (K : PySem.W.Frag) : Sp := fun vs H Q _ => ∃ (l : Addr) (ls : List V) (ts : List Tm) (rest : List (List Tm)), vs = [.ref l] ∧ H l = some (.lst ls) ∧ ColsAt K [] H ls (ts :: rest) ∧ (∀ c ∈ ts :: rest, ColF c ∧ c.length = ts.length) ∧ rest.length ≤ 3 ∧ Tm.nod ts ≤ 80000 ∧
  ∀ v H', Mv [] H H' → Im K H' v (tsD (genL ts rest)) → Q v H'
def sp_lnum (K : PySem.W.Frag) : Sp := fun vs H Q _ => ∃ (a : Addr) (xs : List V) (ts : List Tm), vs = [.ref a] ∧ (SqL K H a xs ∨ SqT K H a xs) ∧ Ims K H xs (Tm.ds ts) ∧ ColF ts ∧ Tm.nod ts ≤ 80000 ∧
  ∀ v H', Mv [] H H' → Im K H' v (tsD (genL ts [])) → Q v H'
section
variable {P : Program} {w : World} {K : PySem.W.Frag} {mg : Str → Option Value} {base : Heap}
theorem ok__law_general (T : TX K mg) {k : Nat} : FnOk P w K mg base CX0 (k + 53) T.d__law_general.f T.d__law_general.fd P__law_general (sp_gen K) := by
  have G__law_column : FnOk P w K mg base CX0 52 T.d__law_column.f T.d__law_column.fd P__law_column (sp_col K 51) := ok__law_column T 51
  refine T.d__law_general.F.ok sc__law_general (fun vs H Q E h => ?_) (fun cdv A outer s H vs Q E hr h => ?_)
  · obtain ⟨_, _, _, _, rfl, _⟩ := h
    rfl
  · obtain ⟨l, ls, ts, rest, rfl, hl, hC, hF, hrl, hnd, q⟩ := h
    refine ⟨_, (pss_cons (ps_set (i := 1) sc__law_general.nd rfl (Or.inr rfl) (pe_lst pa_nil)) (pss_one (ps_ret (pe_callTy (r := rTupOf K) call_tupG (by rfl) T.b_tuple bt_tuple (pa_cons (pe_lc (own := [("_law_at", 2)]) (g := gName 2) (by rfl) sc__law_general.nd (pi_range1 (by rfl) T.b_range (pa_cons (pe_callB (r := rLenG K) call_lenG (by rfl) T.b_len bt_len (pa_cons (pe_ix (r := rIx K) ix_seq (pv 0) pe_int (fun _ _ => rfl)) pa_nil)) pa_nil)) (blkOk_by (own := [("_law_at", 2)]) (N := N__law_general) (sc := defScope s__law_general) (by decide +kernel)) (fun _ _ _ _ _ => pg_name (i := 2) sc__law_general.nd rfl (Or.inr rfl)) (fun _ _ _ _ _ => pts_nil) (fun _ _ _ _ _ => (pe_call G__law_column (hr.mono (by omega)) rfl T.d__law_column.g T.d__law_column.F.kp T.d__law_column.b .nil pass0 (pa_cons (pe_lc (own := [("_law_some", 3)]) (g := gName 3) (by rfl) sc__law_general.nd (pi_seqC (K := K) rfl (pv 0)) (by exact blkOk_by (by rfl)) (fun _ _ _ _ _ => pg_name (i := 3) sc__law_general.nd rfl (Or.inl rfl)) (fun _ _ _ _ _ => pts_nil) (fun _ _ _ _ _ => (pe_ix (r := rIx K) ix_seq (pv 3) (pv 2) (fun _ _ => rfl)))) (pa_cons (pv 1) pa_nil))))) pa_nil))))), ?_⟩
    refine ⟨Nat.zero_le _, fun kn nkn => ?_⟩
    have m0 : Mv [] H (upd H kn (.lst [])) := .new nkn
    have e0 : upd H kn (.lst []) kn = some (.lst []) := upd_same
    generalize upd H kn (.lst []) = H0 at m0 e0 ⊢
    have hl0 := m0.same _ _ hl
    have hC0 := hC.mv m0
    obtain ⟨v0, ls', rfl, a0, xs0, rfl, _, ha0, hx0⟩ : ∃ v0 ls', ls = v0 :: ls' ∧ ∃ a xs, v0 = .ref a ∧ a ∉ ([] : List Addr) ∧ H0 a = some (.lst xs) ∧ Ims K H0 xs (Tm.ds ts) := by
      cases hC0 with
      | cons h1 h2 => exact ⟨_, _, rfl, h1⟩
    have hx0l : xs0.length = ts.length := by rw [hx0.length, Tm.ds_map, List.length_map]
    have htl := Tm.nod_len ts
    have hll : ((.ref a0) :: ls' : List V).length = rest.length + 1 := paired_len hC
    refine ⟨.ref l, rfl, rd_ixL (.inl (.inl hl0)) (by decide) (v := .ref a0) rfl ?_⟩
    dsimp only [tNil]
    refine rd_len (.inl (.inl (.inl ha0))) ⟨_, rfl, by omega, by rw [hx0l]; omega, fun D nD => ?_⟩
    rw [show ((xs0.length : Nat) : Int).toNat = ts.length by omega]
    have hkD : kn ≠ D := ne_of_none e0 nD
    refine lc_range (lo := 0) (n := ts.length) (fun i H5 => ∃ ys ks', H5 D = some (.lst ys) ∧ Ims K H5 ys (Tm.ds (Gt.nums (idxN ((Gt.labs ((skL ts 0 (rest.map (Tm.op ""))).take i)).foldl stpg [])) ((skL ts 0 (rest.map (Tm.op ""))).take i))) ∧ H5 kn = some (.lst ks') ∧ ColsAt K [kn, D] H5 ks' ((Gt.labs ((skL ts 0 (rest.map (Tm.op ""))).take i)).foldl stpg []) ∧ Mv [kn] H0 H5)
      ⟨[], [], upd_same, Ims.nil, (Mv.new (S := []) nD).same _ _ e0, .nil, .new nD⟩ (fun i H5 hi h5 => ?_) (fun H5 h5 => ?_)
    · obtain ⟨ys, ks', e5, i5, k5, c5, m5⟩ := h5
      have m05 : Mv [] H H5 := m0.hide nkn m5
      have hl5 := m05.same _ _ hl
      have hC5 : ColsAt K [] H5 _ _ := hC.mv m05
      obtain ⟨ti, hti⟩ : ∃ ti, ts[i]? = some ti := ⟨_, List.getElem?_eq_getElem hi⟩
      refine ⟨rfl, .ref l, rfl, l, rfl, ?_⟩
      refine lc_seq (xs := .ref a0 :: ls') (.inl (.inl (.inl hl5))) (fun i2 D3 H4 => ∃ zs, H4 D3 = some (.lst zs) ∧ Ims K H4 zs (Tm.ds (((ts :: rest).take i2).map fun c => (Tm.op "" c).arg i)) ∧ Mv [] H5 H4)
        (fun D3 nD3 => ⟨[], upd_same, Ims.nil, .new nD3⟩) (fun i2 D3 H4 nD3 h4 => h4.elim fun _ h => h.2.2) (fun D3 nD3 i2 y H4 hy h4 => ?_) (fun D3 H4 nD3 h4 => ?_)
      · obtain ⟨zs, e4, i4, m4⟩ := h4
        obtain ⟨cc, a1, zs1, hcc, rfl, _, ha1, hz1⟩ := (hC5.mv m4).get hy
        have hmem := List.mem_of_getElem? hcc
        have hi2 := (List.getElem?_eq_some_iff.mp hcc).1
        rw [List.length_cons] at hi2
        obtain ⟨hcF, hcl⟩ := hF cc hmem
        obtain ⟨u, hu⟩ : ∃ u, cc[i]? = some u := ⟨_, List.getElem?_eq_getElem (by omega)⟩
        obtain ⟨v1, hv1, him1⟩ := hz1.getD (d := u.d) (i := i) (by rw [Tm.ds_map, List.getElem?_map, hu]; rfl)
        have hzl : zs.length = i2 := by rw [i4.length, Tm.ds_map, List.length_map, List.length_map, List.length_take, List.length_cons]; omega
        refine ⟨rfl, .ref a1, rfl, .int (0 + (i : Int)), rfl, rd_ixL (.inl (.inl ha1)) (by omega) (v := v1) (by rw [show (0 + (i : Int)).toNat = i by omega]; exact hv1) ?_⟩
        refine ⟨zs, e4, by rw [hzl]; exact line5lt (by omega), zs ++ [v1], upd_same, ?_, m4.wr nD3⟩
        rw [List.take_add_one, hcc]
        rw [show Tm.ds (List.map (fun c => (Tm.op "" c).arg i) (List.take i2 (ts :: rest) ++ (some cc).toList)) = Tm.ds (List.map (fun c => (Tm.op "" c).arg i) (List.take i2 (ts :: rest))) ++ [u.d] by
          simp [Tm.ds_map, Tm.arg, hu]]
        exact (i4.append (Ims.cons him1 Ims.nil)).mv (Mv.set (S := [D3]) e4 (by simp))
      · obtain ⟨zs, e4, i4, m4⟩ := h4
        rw [hll, List.take_of_length_le (by simp)] at i4
        obtain ⟨ec, hcol⟩ := col_of hF hti
        rw [ec] at i4
        have hk4 := m4.same _ _ k5
        have e54 := m4.same _ _ e5
        have hS4 : ∀ a ∈ [kn, D], H4 a ≠ none := fun a ha => by
          rcases List.mem_cons.mp ha with rfl | ha
          · rw [hk4]
            simp
          · rw [List.mem_singleton.mp ha, e54]
            simp
        have hD3 : D3 ∉ [kn, D] := fun ha => by
          rcases List.mem_cons.mp ha with rfl | ha
          · rw [k5] at nD3
            cases nD3
          · rw [List.mem_singleton.mp ha, e5] at nD3
            cases nD3
        have hg : (skL ts 0 (rest.map (Tm.op ""))).take (i + 1) = (skL ts 0 (rest.map (Tm.op ""))).take i ++ [skT ti ((rest.map (Tm.op "")).map (Tm.arg i))] := by
          rw [List.take_add_one, skL_get hti, Nat.zero_add]
          rfl
        have hallF : ∀ c ∈ Gt.labs (skL ts 0 (rest.map (Tm.op ""))), ColF c := skL_colF ts 0 _ fun j t' ht' => by
          rw [Nat.zero_add]
          exact (col_of hF ht').2
        have hcsF : ∀ c ∈ (Gt.labs ((skL ts 0 (rest.map (Tm.op ""))).take i)).foldl stpg [], ColF c := fun c hc => by
          rcases (foldg_mem _ _ _).mp hc with h | h
          · cases h
          · refine hallF c ?_
            rw [← List.take_append_drop i (skL ts 0 (rest.map (Tm.op ""))), Gt.labs_app]
            exact List.mem_append.mpr (.inl h)
        have hcl : ((Gt.labs ((skL ts 0 (rest.map (Tm.op ""))).take i)).foldl stpg []).length + Tm.nod [ti] ≤ 90000 := by
          have h1 := foldg_len (Gt.labs ((skL ts 0 (rest.map (Tm.op ""))).take i)) []
          rw [skL_take] at h1 ⊢
          have h2 := skL_labs (ts.take i) 0 (rest.map (Tm.op ""))
          have h3 : Tm.nod ts = Tm.nod (ts.take i) + (Tm.nod [ti] + Tm.nod (ts.drop (i + 1))) := by
            rw [← nod_cons, ← Tm.nod_append]
            congr 1
            rw [show ti = ts[i] from (List.getElem?_eq_some_iff.mp hti).2.symm]
            simp
          simp only [List.length_nil] at h1
          omega
        have hdi : ti.dep < 51 := by
          have := (hF ts List.mem_cons_self).1 ti (List.mem_of_getElem? hti)
          omega
        refine ⟨.ref kn, rfl, D3, kn, [kn, D], zs, ks', ti, _, _, rfl, by simp, hS4, hD3, e4, i4, hcol, by simpa using hrl, hdi, hk4, c5.mv (m4.mono (by simp)), hcsF, hcl, fun v H6 ks6 m6 k6 c6 im6 => ?_⟩
        have e6 := m6.keep _ _ (by simpa using hkD.symm) e54
        have hyl : ys.length = i := by rw [i5.length, Tm.ds_map, List.length_map, Gt.nums_len, List.length_take, skL_len]; omega
        have hcs : (Gt.labs ((skL ts 0 (rest.map (Tm.op ""))).take (i + 1))).foldl stpg [] = (skT ti ((rest.map (Tm.op "")).map (Tm.arg i))).lab.foldl stpg ((Gt.labs ((skL ts 0 (rest.map (Tm.op ""))).take i)).foldl stpg []) := by
          rw [hg, Gt.labs_snoc, List.foldl_append]
        have m7 : Mv [D] H6 (upd H6 D (.lst (ys ++ [v]))) := .set e6 (by simp)
        refine ⟨ys, e6, by rw [hyl]; exact line5lt (by omega), ys ++ [v], ks6, upd_same, ?_, by rw [upd_ne hkD]; exact k6, ?_, ((m5.trans (m4.mono (by simp))).trans m6).wr nD⟩
        · rw [hcs, hg, Gt.nums_snoc, num_grow fun c hc => (foldg_mem _ _ _).mpr (.inr hc), Tm.ds_append]
          exact (((i5.mv m4).mv m6).append (Ims.cons im6 Ims.nil)).mv m7
        · rw [hcs]
          exact c6.mv (m7.mono (by simp))
    · obtain ⟨ys, ks', e5, i5, k5, c5, m5⟩ := h5
      rw [List.take_of_length_le (by rw [skL_len]; omega)] at i5
      refine rd_tupOf (.inl (.inl e5)) fun p6 H6 m6 e6 => ?_
      exact q _ H6 ((m0.hide nkn m5).trans m6) (Im.tup e6 (i5.mv m6))
end
end Fm
namespace Fm
open PySem PySem.Spec PyProof.Rows L2 SlX
local macro_rules | `(tactic| walk_at "nn") => `(tactic| dsimp only [tC, tNil, tCons, tCB, tCall, gName, tSeq, tAsg, tPar, tDrop, tRet])
local macro_rules | `(tactic| walk_at "nc") => `(tactic| dsimp only [tC, tNil, tCons, tCB, tCall])
def sameB (t u : Tm) : Bool := match t with
  | .var _ => false
  | .op x ts => decide (Tm.hd u = some (x, ts.length))
theorem sameB_op {t u : Tm} (h : sameB t u = true) : ∃ x ts us, t = .op x ts ∧ u = .op x us ∧ us.length = ts.length := by
  cases t with
  | var i => cases h
  | op x ts =>
    have h := of_decide_eq_true h
    cases u with
    | var j => cases h
    | op y us =>
      simp only [Tm.hd, Option.some.injEq, Prod.mk.injEq] at h
      exact ⟨x, ts, us, rfl, by rw [h.1], h.2⟩
theorem sameB_leaf {t u : Tm} (h : sameB t u = false) : skT t [u] = .leaf [t, u] := by
  cases t with
  | var i => rfl
  | op x ts =>
    rw [skT, if_neg]
    intro z
    rw [List.all_cons, List.all_nil, Bool.and_true] at z
    exact absurd (show sameB (.op x ts) u = true from z) (by rw [h]; simp)
theorem skT_same {x : Str} {ts us : List Tm} (h : us.length = ts.length) : skT (.op x ts) [.op x us] = .op x (skL ts 0 [.op x us]) := by
  rw [skT, if_pos]
  simp [Tm.hd, h]
theorem sameB_len (x : Str) (ts us : List Tm) : sameB (.op x ts) (.op x us) = decide (us.length = ts.length) := by
  rw [Bool.eq_iff_iff, decide_eq_true_eq]
  constructor
  · intro h
    have h := of_decide_eq_true h
    simp only [Tm.hd, Option.some.injEq, Prod.mk.injEq] at h
    exact h.2
  · intro h
    exact decide_eq_true (by simp [Tm.hd, h])
theorem sameB_name {x y : Str} (h : x ≠ y) (ts us : List Tm) : sameB (.op x ts) (.op y us) = false := by
  refine decide_eq_false fun z => ?_
  simp only [Tm.hd, Option.some.injEq, Prod.mk.injEq] at z
  exact h z.1.symm
def sp_same (K : PySem.W.Frag) : Sp := fun vs H Q _ => ∃ (x y : V) (t u : Tm), vs = [x, y] ∧ Im K H x t.d ∧ Im K H y u.d ∧ ColF [t, u] ∧ Q (.bl (sameB t u)) H
def pairL (ks : List (List Tm)) : List PyData := ks.map tsD
theorem pairs_fine : ∀ {cs : List (List Tm)}, (∀ c ∈ cs, ColF c) → fineAll (cs.map tsD) ∧ PyData.depthAll (cs.map tsD) ≤ 52
  | [], _ => ⟨trivial, by simp [PyData.depthAll]⟩
  | c :: cs, h => by
    obtain ⟨i1, i2⟩ := pairs_fine (cs := cs) fun q hq => h q (List.mem_cons_of_mem _ hq)
    have hc := h c List.mem_cons_self
    have hd := hc.deps
    refine ⟨⟨fine_ds (fun _ h => h) c hc.oks, i1⟩, ?_⟩
    simp only [List.map_cons, PyData.depthAll, tsD, PyData.depth, depth_ds]
    omega
theorem pairs_shaped {cs : List (List Tm)} (h : ∀ c ∈ cs, ColF c) : SeqAt.shaped (.list (cs.map tsD)) = true := by
  obtain ⟨h1, h2⟩ := pairs_fine h
  exact shaped_fi h1 (by simp only [PyData.depth]; omega)
theorem pair_eqv {a b : List Tm} (h : ColF a) : PyData.eqv (tsD a) (tsD b) = decide (a = b) := ts_eqv h.oks
theorem pairs_any {cs : List (List Tm)} {c : List Tm} (h : ∀ c ∈ cs, ColF c) : ((cs.map tsD).any fun z => PyData.eqv z (tsD c)) = decide (c ∈ cs) := by
  rw [Bool.eq_iff_iff, List.any_eq_true, decide_eq_true_eq]
  constructor
  · rintro ⟨d, hd, e⟩
    obtain ⟨a, ha, rfl⟩ := List.mem_map.mp hd
    rw [pair_eqv (h a ha)] at e
    exact (of_decide_eq_true e) ▸ ha
  · intro hc
    exact ⟨_, List.mem_map.mpr ⟨c, hc, rfl⟩, by rw [pair_eqv (h c hc)]; exact decide_eq_true rfl⟩
def sp_jn (K : PySem.W.Frag) (d : Nat) : Sp := fun vs H Q _ => ∃ (v1 v2 : V) (pr : Addr) (ks : List V) (t u : Tm) (cs : List (List Tm)), vs = [v1, v2, .ref pr] ∧ H pr = some (.lst ks) ∧ Ims K H ks (cs.map tsD) ∧ Im K H v1 t.d ∧ Im K H v2 u.d ∧
  ColF [t, u] ∧ t.dep < d ∧ (∀ c ∈ cs, ColF c) ∧ cs.length + Tm.nod [t] ≤ 90000 ∧
  ∀ r H' v pr' ks', Mv [] H H' → (pr' = pr ∨ H pr' = none) → SqT K H' r [v, .ref pr'] → H' pr' = some (.lst ks') → Ims K H' ks' (((skT t [u]).lab.foldl stpg cs).map tsD) → Im K H' v ((skT t [u]).num (idxN ((skT t [u]).lab.foldl stpg cs))).d → Q (.ref r) H'
def sp_alljn (K : PySem.W.Frag) : Sp := fun vs H Q _ => ∃ (a b : Addr) (xs ys : List V) (ts us : List Tm), vs = [.ref a, .ref b] ∧ SqT K H a xs ∧ SqT K H b ys ∧ Ims K H xs (Tm.ds ts) ∧ Ims K H ys (Tm.ds us) ∧ us.length = ts.length ∧ ColF ts ∧ ColF us ∧ Tm.nod ts ≤ 80000 ∧
  ∀ l zs H', Mv [] H H' → H l = none → H' l = some (.lst zs) → Ims K H' zs (Tm.ds (genL ts [us])) → Q (.ref l) H'
structure PtO (ts : List Tm) : Prop where
  ok : ColF ts
  nod : Tm.nod ts ≤ 4000
def sp_PatOr (K : PySem.W.Frag) (C EU : Addr) : Sp := fun vs H Q E => ∃ (x y : Addr) (ts us : List Tm), vs = [.ref x, .ref y] ∧ PatAt K H C x ts ∧ PatAt K H C y us ∧ PtO ts ∧ PtO us ∧
  (ts.length ≠ us.length → E (.ref EU) none H) ∧ (ts.length = us.length → ∀ z H', Mv [] H H' → PatAt K H' C z (genL ts [us]) → Q (.ref z) H')
theorem genL_canon (ts : List Tm) (rest : List (List Tm)) : canon (Tm.gts (genL ts rest)) = genL ts rest := canon_canon _
theorem PtO.gen {ts : List Tm} {rest : List (List Tm)} (h : PtO ts) : PtO (genL ts rest) := by
  refine ⟨genL_colF h.ok (by have := h.nod; omega), ?_⟩
  obtain ⟨_, _, h3⟩ := genL_num (rest := rest) (Tm.oks_iff.mpr fun t ht => (h.ok t ht).1)
  have := h.nod
  omega
theorem PtO.ptf {ts : List Tm} (h : PtO ts) : PtF ts := ⟨Tm.oks_iff.mpr fun t ht => (h.ok t ht).1, h.ok.deps, h.nod⟩
section
variable {P : Program} {w : World} {K : PySem.W.Frag} {mg : Str → Option Value} {base : Heap}
theorem ok_is_same_operation (T : TX K mg) {k : Nat} : FnOk P w K mg base CX0 (k + 1) T.d_is_same_operation.f T.d_is_same_operation.fd P_is_same_operation (sp_same K) := by
  refine T.d_is_same_operation.F.ok sc_is_same_operation (fun vs H Q E h => ?_) (fun cdv A outer s H vs Q E hr h => ?_)
  · obtain ⟨_, _, _, _, rfl, _⟩ := h
    rfl
  · obtain ⟨v1, v2, t, u, rfl, h1, h2, hF, q⟩ := h
    have hu64 := hr.units
    refine ⟨_, (pss_cons (ps_if (PW.pt (pw_or (pt_val (pe_callB (r := rIsi K) call_isi (by rfl) T.b_isinstance bt_isinstance (pa_cons (pv 0) (pa_cons (pe_ty T.b_int bt_int) pa_nil)))) (pw_or1 (pt_val (pe_callB (r := rIsi K) call_isi (by rfl) T.b_isinstance bt_isinstance (pa_cons (pv 1) (pa_cons (pe_ty T.b_int bt_int) pa_nil))))))) (pss_one (ps_ret pe_bl)) pss_nil) (pss_one (ps_ret (pe_and (pe_cmpR (r := rEqG K) (op_eqG hu64) (pe_ix (r := rIx K) ix_seq (pv 0) pe_int (fun _ _ => rfl)) (pe_ix (r := rIx K) ix_seq (pv 1) pe_int (fun _ _ => rfl)) (nomark _)) (pe_one (pe_cmpR (r := rEqG K) (op_eqG hu64) (pe_callB (r := rLenG K) call_lenG (by rfl) T.b_len bt_len (pa_cons (pv 0) pa_nil)) (pe_callB (r := rLenG K) call_lenG (by rfl) T.b_len bt_len (pa_cons (pv 1) pa_nil)) (nomark _))))))), ?_⟩
    refine ⟨v1, rfl, ?_⟩
    walk_at "nn"
    refine rd_isInt h1 ?_
    refine ⟨_, rfl, ?_⟩
    cases t with
    | var i => exact q
    | op x ts =>
      obtain ⟨a1, z1, rfl, ha1, hz1⟩ := h1.tupI
      obtain ⟨n1, zs1, rfl, hn1, hzs1⟩ := hz1.invD
      refine ⟨v2, rfl, ?_⟩
      walk_at "nn"
      refine rd_isInt h2 ?_
      refine ⟨_, rfl, ?_⟩
      cases u with
      | var j => exact q
      | op y us =>
        obtain ⟨a2, z2, rfl, ha2, hz2⟩ := h2.tupI
        obtain ⟨n2, zs2, rfl, hn2, hzs2⟩ := hz2.invD
        cases hn1.strI
        cases hn2.strI
        have l1 : zs1.length = ts.length := by rw [hzs1.length, Tm.ds_map, List.length_map]
        have l2 : zs2.length = us.length := by rw [hzs2.length, Tm.ds_map, List.length_map]
        refine ⟨.ref a1, rfl, rd_ixT ha1 (by decide) (v := .str x) rfl ⟨.ref a2, rfl, rd_ixT ha2 (by decide) (v := .str y) rfl (Or.inl ⟨rfl, _, rfl, ?_⟩)⟩⟩
        by_cases hxy : x = y
        · subst hxy
          rw [decide_eq_true rfl]
          refine ⟨.ref a1, rfl, ?_⟩
          walk_at "nc"
          refine rd_len (.inr ha1) ⟨.ref a2, rfl, ?_⟩
          walk_at "nc"
          refine rd_len (.inr ha2) (Or.inl ⟨rfl, ?_⟩)
          rw [sameB_len] at q
          rw [show decide (V.int ((V.str x :: zs1).length : Nat) = V.int ((V.str x :: zs2).length : Nat)) = decide (us.length = ts.length) by
            rw [List.length_cons, List.length_cons, l1, l2, Bool.eq_iff_iff, decide_eq_true_eq, decide_eq_true_eq, V.int.injEq]
            omega]
          exact q
        · rw [decide_eq_false (by simpa using hxy)]
          rw [sameB_name hxy] at q
          exact q
theorem ok_joined (T : TX K mg) : ∀ d : Nat, FnOk P w K mg base CX0 (d + 2) T.d_joined.f T.d_joined.fd P_joined (sp_jn K d)
  | 0 => ⟨fun vs H Q E h => by obtain ⟨_, _, _, _, _, _, _, _, _, _, _, _, _, h, _⟩ := h; omega, fun _ _ _ _ _ _ _ _ _ _ _ _ _ h => by obtain ⟨_, _, _, _, _, _, _, _, _, _, _, _, _, h, _⟩ := h; omega⟩
  | d + 1 => by
    have G_joined := ok_joined T d
    have G_is_same_operation : FnOk P w K mg base CX0 1 T.d_is_same_operation.f T.d_is_same_operation.fd P_is_same_operation (sp_same K) := ok_is_same_operation (k := 0) T
    refine T.d_joined.F.ok sc_joined (fun vs H Q E h => ?_) (fun cdv A outer s H vs Q E hr h => ?_)
    · obtain ⟨_, _, _, _, _, _, _, rfl, _⟩ := h
      rfl
    · obtain ⟨v1, v2, pr, ks, t, u, cs, rfl, hp, hk, h1, h2, hF, hd, hcF, hsz, q⟩ := h
      have hu64 := hr.units
      have hu65 := hu65_of hr
      refine ⟨_, (pss_cons (ps_if (pt_not (pt_val (pe_call G_is_same_operation (hr.mono (by omega)) rfl T.d_is_same_operation.g T.d_is_same_operation.F.kp T.d_is_same_operation.b .nil pass0 (pa_cons (pv 0) (pa_cons (pv 1) pa_nil))))) (Evl.pss_cut (ps_if (pt_cmpR (r := rNotInG K) (op_notInG hu65) (pe_tup (pa_cons (pv 0) (pa_cons (pv 1) pa_nil))) (pv 2) rfl) (pss_one (ps_set (i := 2) sc_joined.nd rfl (Or.inl rfl) (pe_op (r := rAddG K) op_addG (pv 2) (pe_lst (pa_cons (pe_tup (pa_cons (pv 0) (pa_cons (pv 1) pa_nil))) pa_nil))))) pss_nil) (pss_one (ps_ret (pe_tup (pa_cons (pe_bm PySem.F.plainAttrs_list PySem.F.slot_list_index PySem.F.type_list_index (r := rIndexD K) (mt_indexD hu65) (pv 2) (pa_cons (pe_tup (pa_cons (pv 0) (pa_cons (pv 1) pa_nil))) pa_nil)) (pa_cons (pv 2) pa_nil)))))) pss_nil) (pss_cons (ps_set (i := 3) sc_joined.nd rfl (Or.inl rfl) (pe_lst pa_nil)) (pss_cons (ps_for PassesOwn.never rfl (RZ.pi_zipA (by rfl) T.b_zip (pa_cons (pe_slice (r := rSlG K) sl_G (pv 0) (po_some pe_int) po_none) (pa_cons (pe_slice (r := rSlG K) sl_G (pv 1) (po_some pe_int) po_none) pa_nil))) (pg_tup rfl (pgs_cons (pg_name (i := 4) sc_joined.nd rfl (Or.inl rfl)) (pgs_cons (pg_name (i := 5) sc_joined.nd rfl (Or.inl rfl)) pgs_nil))) (pss_cons (ps_asg (pe_call G_joined (hr.mono (by omega)) rfl T.d_joined.g T.d_joined.F.kp T.d_joined.b .nil pass0 (pa_cons (pv 4) (pa_cons (pv 5) (pa_cons (pv 2) pa_nil)))) (pg_tup rfl (pgs_cons (pg_name (i := 6) sc_joined.nd rfl (Or.inl rfl)) (pgs_cons (pg_name (i := 2) sc_joined.nd rfl (Or.inl rfl)) pgs_nil)))) (pss_one (ps_expr (pe_bm PySem.F.plainAttrs_list PySem.F.slot_list_append PySem.F.type_list_append mt_append (pv 3) (pa_cons (pv 6) pa_nil)))))) (pss_one (ps_ret (pe_tup (pa_cons (pe_op (r := rAddG K) op_addG (pe_slice (r := rSlG K) sl_G (pv 0) po_none (po_some pe_int)) (pe_callTy (r := rTupOf K) call_tupG (by rfl) T.b_tuple bt_tuple (pa_cons (pv 3) pa_nil))) (pa_cons (pv 2) pa_nil)))))))), ?_⟩
      refine ⟨v1, rfl, v2, rfl, v1, v2, t, u, rfl, h1, h2, hF, ?_⟩
      have hsh : ∀ c' ∈ [[t, u]].foldl stpg cs, ColF c' := fun c' h => by
        rcases (foldg_mem [[t, u]] cs c').mp h with h | h
        · exact hcF c' h
        · rw [List.mem_singleton.mp h]
          exact hF
      have hkl : ks.length = cs.length := by rw [hk.length, List.length_map]
      have hn1 : 1 ≤ Tm.nod [t] := by
        cases t with
        | var i => rw [Tm.nod_var]; exact Nat.le_refl _
        | op x ts => rw [Tm.nod_op]; omega
      have hpt : ∀ {H' : Hp} {p : Addr}, Mv [] H H' → SqT K H' p [v1, v2] → Im K H' (.ref p) (tsD [t, u]) := fun m e => Im.tup e (Ims.cons (h1.mv m) (Ims.cons (h2.mv m) Ims.nil))
      have hps : SeqAt.shaped (tsD [t, u]) = true := ts_shaped hF.oks hF.deps
      cases hs : sameB t u with
      | false =>
        have hleaf := sameB_leaf hs
        refine ⟨_, rfl, ?_⟩
        refine ⟨fun σ' H' => ∃ pr' ks', σ' = (L2.start N_joined [v1, v2, V.ref pr]).set 2 (some (.ref pr')) ∧ (pr' = pr ∨ H pr' = none) ∧ Mv [] H H' ∧ H' pr' = some (.lst ks') ∧ Ims K H' ks' (([[t, u]].foldl stpg cs).map tsD), ?_, ?_⟩
        · refine ⟨v1, rfl, v2, rfl, (by decide : 2 ≤ sizeLine), fun p np => ?_⟩
          have m1 : Mv [] H (upd H p (.tup [v1, v2])) := .new np
          have e1 : SqT K (upd H p (.tup [v1, v2])) p [v1, v2] := .inl (.inl upd_same)
          generalize upd H p (.tup [v1, v2]) = H1 at m1 e1 ⊢
          refine ⟨.ref pr, rfl, Or.inl ⟨tsD [t, u], cs.map tsD, (hpt m1 e1).dp, .lst (.inl (.inl (m1.same _ _ hp))) (hk.mv m1).dp, hps, pairs_shaped hcF, ?_⟩⟩
          rw [pairs_any hcF]
          refine ⟨_, rfl, ?_⟩
          rw [foldg_one]
          by_cases hm : [t, u] ∈ cs
          · rw [decide_eq_true hm, if_pos hm]
            exact ⟨pr, ks, rfl, .inl rfl, m1, m1.same _ _ hp, hk.mv m1⟩
          · rw [decide_eq_false hm, if_neg hm]
            refine ⟨.ref pr, rfl, v1, rfl, v2, rfl, (by decide : 2 ≤ sizeLine), fun p2 np2 => ?_⟩
            have m2 : Mv [] H1 (upd H1 p2 (.tup [v1, v2])) := .new np2
            have e2 : SqT K (upd H1 p2 (.tup [v1, v2])) p2 [v1, v2] := .inl (.inl upd_same)
            generalize upd H1 p2 (.tup [v1, v2]) = H2 at m2 e2 ⊢
            refine ⟨(by decide : 1 ≤ sizeLine), fun l nl => ?_⟩
            have m3 : Mv [] H2 (upd H2 l (.lst [.ref p2])) := .new nl
            have e3 : upd H2 l (.lst [.ref p2]) l = some (.lst [.ref p2]) := upd_same
            generalize upd H2 l (.lst [.ref p2]) = H3 at m3 e3 ⊢
            have m03 := m1.trans (m2.trans m3)
            refine rd_catL (m03.same _ _ hp) e3 (by rw [hkl, List.length_singleton]; exact Nat.le_of_lt (line5lt (by omega))) fun p4 H4 n4 m4 e4 => ?_
            refine ⟨p4, _, rfl, .inr (m03.free n4), m03.trans m4, e4, ?_⟩
            rw [List.map_append]
            exact (hk.mv (m03.trans m4)).append (Ims.cons (hpt (m03.trans m4) ((m3.trans m4).sqT e2)) Ims.nil)
        · rintro σ' H2 ⟨pr', ks', rfl, o2, m2, e2, i2⟩
          have hmem : [t, u] ∈ [[t, u]].foldl stpg cs := (foldg_mem _ _ _).mpr (.inr (by simp))
          refine ⟨.ref pr', rfl, .inl ⟨rfl, _, .inl (.inl e2)⟩, v1, rfl, v2, rfl, (by decide : 2 ≤ sizeLine), fun p3 np3 => ?_⟩
          have m3 : Mv [] H2 (upd H2 p3 (.tup [v1, v2])) := .new np3
          have e3 : SqT K (upd H2 p3 (.tup [v1, v2])) p3 [v1, v2] := .inl (.inl upd_same)
          generalize upd H2 p3 (.tup [v1, v2]) = H3 at m3 e3 ⊢
          have e23 := m3.same _ _ e2
          refine ⟨pr', .ref p3, tsD [t, u], ([[t, u]].foldl stpg cs).map tsD, ixOf ([[t, u]].foldl stpg cs) [t, u], tsD [t, u], rfl, rfl, .lst (.inl (.inl e23)) (i2.mv m3).dp, (hpt (m2.trans m3) e3).dp, pairs_shaped hsh, hps, ?_, ?_, fun m z' hm hz => ?_, ?_⟩
          · rw [List.getElem?_map, ixOf_get hmem]
            rfl
          · rw [pair_eqv hF]
            exact decide_eq_true rfl
          · rw [List.getElem?_map] at hz
            obtain ⟨c', hc', rfl⟩ := Option.map_eq_some_iff.mp hz
            rw [pair_eqv (hsh c' (List.mem_of_getElem? hc'))]
            refine decide_eq_false fun e => ?_
            subst e
            obtain ⟨hl, e⟩ := List.getElem?_eq_some_iff.mp hc'
            exact absurd hm (Nat.not_lt.mpr (ixOf_le hl e))
          · refine ⟨.ref pr', rfl, (by decide : 2 ≤ sizeLine), fun r nr => ?_⟩
            have m4 : Mv [] H3 (upd H3 r (.tup [.int (ixOf ([[t, u]].foldl stpg cs) [t, u] : Nat), .ref pr'])) := .new nr
            refine q r _ _ pr' ks' ((m2.trans m3).trans m4) o2 (.inl (.inl upd_same)) (m4.same _ _ e23) ?_ ?_
            · rw [hleaf]
              exact i2.mv (m3.trans m4)
            · rw [hleaf]
              exact Im.int _
      | true =>
        obtain ⟨x, ts, us, rfl, rfl, hl⟩ := sameB_op hs
        have hsk := skT_same (x := x) hl
        refine ⟨_, rfl, ?_⟩
        refine ⟨Nat.zero_le _, fun l nl => ?_⟩
        have m1 : Mv [] H (upd H l (.lst [])) := .new nl
        have e1 : upd H l (.lst []) l = some (.lst []) := upd_same
        generalize upd H l (.lst []) = H1 at m1 e1 ⊢
        obtain ⟨a1, z1, rfl, ha1, hz1⟩ := h1.tupI
        obtain ⟨n1, xs, rfl, hn1', hxs⟩ := hz1.invD
        obtain ⟨a2, z2, rfl, ha2, hz2⟩ := h2.tupI
        obtain ⟨n2, ys, rfl, hn2', hys⟩ := hz2.invD
        cases hn1'.strI
        cases hn2'.strI
        have hxl : xs.length = ts.length := by rw [hxs.length, Tm.ds_map, List.length_map]
        have hyl : ys.length = us.length := by rw [hys.length, Tm.ds_map, List.length_map]
        have hop := (hF _ List.mem_cons_self).1
        have hts3 : ts.length ≤ 3 := hop.2.1
        rw [Tm.nod_op] at hsz
        refine ⟨.ref a1, rfl, 1, rfl, rd_sl1 (m1.sqT ha1) fun q1 H2 m2 f1 => ⟨.ref a2, rfl, 1, rfl, rd_sl1 ((m1.trans m2).sqT ha2) fun q2 H3 m3 f2 => ?_⟩⟩
        have m03 := m1.trans (m2.trans m3)
        have e3 := (m2.trans m3).same _ _ e1
        have f1' := m3.sqT f1
        have hall : ∀ c ∈ [Tm.op x ts, Tm.op x us], Tm.hd c = some (x, ts.length) := fun c hc => by
          rcases List.mem_cons.mp hc with rfl | hc
          · rfl
          · rw [List.mem_singleton.mp hc]
            simp [Tm.hd, hl]
        refine ⟨q1, q2, xs, ys, rfl, .inr ⟨f1', f2, RZ.for_zipT (xs := xs) (ys := ys) (by omega) (fun i σ H4 => ∃ (pr' : Addr) (ks' ps : List V) (y4 y5 y6 : Option V), σ = [some (.ref a1), some (.ref a2), some (.ref pr'), some (.ref l), y4, y5, y6] ∧ (pr' = pr ∨ H pr' = none) ∧ pr' ≠ l ∧ H4 pr' = some (.lst ks') ∧
          Ims K H4 ks' (((Gt.labs ((skL ts 0 [.op x us]).take i)).foldl stpg cs).map tsD) ∧ H4 l = some (.lst ps) ∧ Ims K H4 ps (Tm.ds (Gt.nums (idxN ((Gt.labs ((skL ts 0 [.op x us]).take i)).foldl stpg cs)) ((skL ts 0 [.op x us]).take i))) ∧ Mv [] H H4 ∧ Mv [l] H3 H4) ?_ ?_ ?_ ?_⟩⟩
        · exact ⟨pr, ks, [], none, none, none, rfl, .inl rfl, ne_of_none hp nl, m03.same _ _ hp, hk.mv m03, e3, Ims.nil, m03, .refl⟩
        · rintro i σ H4 ⟨pr', ks', ps, y4, y5, y6, rfl, o4, d4, e4, i4, l4, j4, m4, w4⟩
          exact ⟨w4.sqT f1', w4.sqT f2⟩
        · rintro i vx vy tt σ H4 hx hy ⟨pr', ks', ps, y4, y5, y6, rfl, o4, d4, e4, i4, l4, j4, m4, w4⟩ nt
          have hi : i < ts.length := by rw [← hxl]; exact (List.getElem?_eq_some_iff.mp hx).1
          obtain ⟨ti, hti⟩ : ∃ ti, ts[i]? = some ti := ⟨_, List.getElem?_eq_getElem hi⟩
          obtain ⟨ui, hui⟩ : ∃ ui, us[i]? = some ui := ⟨_, List.getElem?_eq_getElem (by omega)⟩
          have m5 : Mv [] H4 (upd H4 tt (.tup [vx, vy])) := .new nt
          have e5 : SqT K (upd H4 tt (.tup [vx, vy])) tt [vx, vy] := .inl (.inl upd_same)
          generalize upd H4 tt (.tup [vx, vy]) = H5 at m5 e5 ⊢
          have m05 := m4.trans m5
          obtain ⟨xd, hxd, ix⟩ := hxs.get hx
          rw [Tm.ds_map, List.getElem?_map, hti] at hxd
          cases hxd
          obtain ⟨yd, hyd, iy⟩ := hys.get hy
          rw [Tm.ds_map, List.getElem?_map, hui] at hyd
          cases hyd
          have hFi := colF_arg hF hall hi
          rw [List.map_cons, List.map_cons, List.map_nil, show (Tm.op x ts).arg i = ti by rw [Tm.arg, List.getD_eq_getElem?_getD, hti]; rfl, show (Tm.op x us).arg i = ui by rw [Tm.arg, List.getD_eq_getElem?_getD, hui]; rfl] at hFi
          have hg : (skL ts 0 [Tm.op x us]).take (i + 1) = (skL ts 0 [Tm.op x us]).take i ++ [skT ti [ui]] := by
            rw [List.take_add_one, skL_get hti, Nat.zero_add, List.map_cons, List.map_nil, show (Tm.op x us).arg i = ui by rw [Tm.arg, List.getD_eq_getElem?_getD, hui]; rfl]
            rfl
          have hcsF : ∀ c ∈ (Gt.labs ((skL ts 0 [Tm.op x us]).take i)).foldl stpg cs, ColF c := fun c hc => by
            rcases (foldg_mem _ _ _).mp hc with h | h
            · exact hcF c h
            · refine skL_colF ts 0 [Tm.op x us] (fun j t' ht' => ?_) c ?_
              · have hj := (List.getElem?_eq_some_iff.mp ht').1
                have h1 := colF_arg hF hall hj
                rw [List.map_cons, show (Tm.op x ts).arg j = t' by rw [Tm.arg, List.getD_eq_getElem?_getD, ht']; rfl] at h1
                rwa [Nat.zero_add]
              · rw [← List.take_append_drop i (skL ts 0 [Tm.op x us]), Gt.labs_app]
                exact List.mem_append.mpr (.inl h)
          have hcl : ((Gt.labs ((skL ts 0 [Tm.op x us]).take i)).foldl stpg cs).length + Tm.nod [ti] ≤ 90000 := by
            have h1 := foldg_len (Gt.labs ((skL ts 0 [Tm.op x us]).take i)) cs
            rw [skL_take] at h1 ⊢
            have h2 := skL_labs (ts.take i) 0 [Tm.op x us]
            have h3 : Tm.nod ts = Tm.nod (ts.take i) + (Tm.nod [ti] + Tm.nod (ts.drop (i + 1))) := by
              rw [← nod_cons, ← Tm.nod_append]
              congr 1
              rw [show ti = ts[i] from (List.getElem?_eq_some_iff.mp hti).2.symm]
              simp
            omega
          have hdi : ti.dep < d := by
            simp only [Tm.dep] at hd
            have := Tm.deps_le.mp (show Tm.deps ts ≤ Tm.deps ts from Nat.le_refl _) ti (List.mem_of_getElem? hti)
            omega
          refine ⟨tt, [vx, vy], rfl, e5, rfl, vx, [vy], rfl, vy, [], rfl, rfl, ?_⟩
          refine ⟨vx, rfl, vy, rfl, .ref pr', rfl, vx, vy, pr', ks', ti, ui, _, rfl, m5.same _ _ e4, i4.mv m5, ix.mv m05, iy.mv m05, hFi, hdi, hcsF, hcl, fun r H6 v pr6 ks6 m6 o6 r6 k6 i6 im6 => ?_⟩
          refine ⟨r, [v, .ref pr6], rfl, r6, rfl, v, [.ref pr6], rfl, .ref pr6, [], rfl, rfl, ?_⟩
          have l6 := (m5.trans m6).same _ _ l4
          have hyl' : ps.length = i := by rw [j4.length, Tm.ds_map, List.length_map, Gt.nums_len, List.length_take, skL_len]; omega
          have hcs : (Gt.labs ((skL ts 0 [Tm.op x us]).take (i + 1))).foldl stpg cs = (skT ti [ui]).lab.foldl stpg ((Gt.labs ((skL ts 0 [Tm.op x us]).take i)).foldl stpg cs) := by
            rw [hg, Gt.labs_snoc, List.foldl_append]
          have m7 : Mv [l] H6 (upd H6 l (.lst (ps ++ [v]))) := .set l6 (by simp)
          have hpl : pr6 ≠ l := fun z => by
            rcases o6 with o6 | o6
            · exact d4 (o6 ▸ z)
            · rw [z, m5.same _ _ l4] at o6
              cases o6
          refine ⟨.ref l, rfl, .inl ⟨rfl, _, .inl (.inl l6)⟩, v, rfl, l, ps, v, rfl, rfl, l6, by rw [hyl']; exact line5lt (by omega), ?_⟩
          refine ⟨pr6, ks6, ps ++ [v], _, _, _, rfl, o6.elim (fun z => z ▸ o4) fun z => .inr (m05.free z), hpl, by rw [upd_ne hpl]; exact k6, ?_, upd_same, ?_, (m05.trans m6).wr nl, (w4.trans ((m5.trans m6).mono (by simp))).trans m7⟩
          · rw [hcs]
            exact i6.mv m7
          · rw [hcs, hg, Gt.nums_snoc, num_grow fun c hc => (foldg_mem _ _ _).mpr (.inr hc), Tm.ds_append]
            exact ((j4.mv (m5.trans m6)).append (Ims.cons im6 Ims.nil)).mv m7
        · rintro σ H4 ⟨pr', ks', ps, y4, y5, y6, rfl, o4, d4, e4, i4, l4, j4, m4, w4⟩
          rw [hxl, List.take_of_length_le (by rw [skL_len]; omega)] at i4 j4
          have hpl : ps.length = ts.length := by rw [j4.length, Tm.ds_map, List.length_map, Gt.nums_len, skL_len]
          refine ⟨.ref a1, rfl, 1, rfl, rd_slA (m4.sqT ha1) fun p5 H5 m5 e5 => ?_⟩
          refine ⟨.ref l, rfl, ?_⟩
          walk_at "nc"
          refine rd_tupOf (.inl (.inl (m5.same _ _ l4))) fun p6 H6 m6 e6 => ?_
          refine rd_cat (m6.sqT e5) e6 ?_ fun p7 H7 m7 e7 => ?_
          · rw [hpl]
            exact Nat.le_of_lt (line5lt (by simp; omega))
          · have m47 := m5.trans (m6.trans m7)
            refine ⟨.ref pr', rfl, (by decide : 2 ≤ sizeLine), fun r nr => ?_⟩
            have m8 : Mv [] H7 (upd H7 r (.tup [.ref p7, .ref pr'])) := .new nr
            refine q r _ _ pr' ks' (m4.trans (m47.trans m8)) o4 (.inl (.inl upd_same)) ((m47.trans m8).same _ _ e4) ?_ ?_
            · rw [hsk]
              exact i4.mv (m47.trans m8)
            · rw [hsk]
              exact Im.tup (m8.sqT e7) (Ims.cons (.str x) (j4.mv (m47.trans m8)))
theorem ok_all_joined (T : TX K mg) {k : Nat} : FnOk P w K mg base CX0 (k + 54) T.d_all_joined.f T.d_all_joined.fd P_all_joined (sp_alljn K) := by
  have G_joined : FnOk P w K mg base CX0 53 T.d_joined.f T.d_joined.fd P_joined (sp_jn K 51) := ok_joined T 51
  refine T.d_all_joined.F.ok sc_all_joined (fun vs H Q E h => ?_) (fun cdv A outer s H vs Q E hr h => ?_)
  · obtain ⟨_, _, _, _, _, _, rfl, _⟩ := h
    rfl
  · obtain ⟨a, b, xs, ys, ts, us, rfl, ha, hb, hxs, hys, hl, hF, hFu, hsz, q⟩ := h
    have hu64 := hr.units
    have hxl : xs.length = ts.length := by rw [hxs.length, Tm.ds_map, List.length_map]
    have hyl : ys.length = us.length := by rw [hys.length, Tm.ds_map, List.length_map]
    refine ⟨_, (pss_cons (ps_set (i := 2) sc_all_joined.nd rfl (Or.inl rfl) (pe_lst pa_nil)) (pss_cons (ps_set (i := 3) sc_all_joined.nd rfl (Or.inl rfl) (pe_lst pa_nil)) (pss_cons (ps_for PassesOwn.never rfl (RZ.pi_zipA (by rfl) T.b_zip (pa_cons (pv 0) (pa_cons (pv 1) pa_nil))) (pg_tup rfl (pgs_cons (pg_name (i := 4) sc_all_joined.nd rfl (Or.inl rfl)) (pgs_cons (pg_name (i := 5) sc_all_joined.nd rfl (Or.inl rfl)) pgs_nil))) (pss_cons (ps_asg (pe_call G_joined (hr.mono (by omega)) rfl T.d_joined.g T.d_joined.F.kp T.d_joined.b .nil pass0 (pa_cons (pv 4) (pa_cons (pv 5) (pa_cons (pv 3) pa_nil)))) (pg_tup rfl (pgs_cons (pg_name (i := 6) sc_all_joined.nd rfl (Or.inl rfl)) (pgs_cons (pg_name (i := 3) sc_all_joined.nd rfl (Or.inl rfl)) pgs_nil)))) (pss_one (ps_expr (pe_bm PySem.F.plainAttrs_list PySem.F.slot_list_append PySem.F.type_list_append mt_append (pv 2) (pa_cons (pv 6) pa_nil)))))) (pss_one (ps_ret (pv 2)))))), ?_⟩
    refine ⟨Nat.zero_le _, fun l nl => ?_⟩
    have m1 : Mv [] H (upd H l (.lst [])) := .new nl
    have e1 : upd H l (.lst []) l = some (.lst []) := upd_same
    generalize upd H l (.lst []) = H1 at m1 e1 ⊢
    refine ⟨Nat.zero_le _, fun pr np => ?_⟩
    have m2 : Mv [] H1 (upd H1 pr (.lst [])) := .new np
    have e2 : upd H1 pr (.lst []) pr = some (.lst []) := upd_same
    have e1' := m2.same _ _ e1
    have hlp : pr ≠ l := (ne_of_none e1 np).symm
    generalize upd H1 pr (.lst []) = H2 at m2 e2 e1' ⊢
    have m02 := m1.trans m2
    have hF2 : ∀ c ∈ ts :: [us], ColF c ∧ c.length = ts.length := fun c hc => by
      rcases List.mem_cons.mp hc with rfl | hc
      · exact ⟨hF, rfl⟩
      · rw [List.mem_singleton.mp hc]
        exact ⟨hFu, hl⟩
    refine ⟨.ref a, rfl, .ref b, rfl, a, b, xs, ys, rfl, .inr ⟨m02.sqT ha, m02.sqT hb, RZ.for_zipT (xs := xs) (ys := ys) (by omega) (fun i σ H4 => ∃ (pr' : Addr) (ks' ps : List V) (y4 y5 y6 : Option V), σ = [some (.ref a), some (.ref b), some (.ref l), some (.ref pr'), y4, y5, y6] ∧ pr' ≠ l ∧ H4 pr' = some (.lst ks') ∧
      Ims K H4 ks' (((Gt.labs ((skL ts 0 ([us].map (Tm.op ""))).take i)).foldl stpg []).map tsD) ∧ H4 l = some (.lst ps) ∧ Ims K H4 ps (Tm.ds (Gt.nums (idxN ((Gt.labs ((skL ts 0 ([us].map (Tm.op ""))).take i)).foldl stpg [])) ((skL ts 0 ([us].map (Tm.op ""))).take i))) ∧ Mv [] H H4) ?_ ?_ ?_ ?_⟩⟩
    · exact ⟨pr, [], [], none, none, none, rfl, hlp, e2, Ims.nil, e1', Ims.nil, m02⟩
    · rintro i σ H4 ⟨pr', ks', ps, y4, y5, y6, rfl, d4, e4, i4, l4, j4, m4⟩
      exact ⟨m4.sqT ha, m4.sqT hb⟩
    · rintro i vx vy tt σ H4 hx hy ⟨pr', ks', ps, y4, y5, y6, rfl, d4, e4, i4, l4, j4, m4⟩ nt
      have hi : i < ts.length := by rw [← hxl]; exact (List.getElem?_eq_some_iff.mp hx).1
      obtain ⟨ti, hti⟩ : ∃ ti, ts[i]? = some ti := ⟨_, List.getElem?_eq_getElem hi⟩
      obtain ⟨ui, hui⟩ : ∃ ui, us[i]? = some ui := ⟨_, List.getElem?_eq_getElem (by omega)⟩
      have m5 : Mv [] H4 (upd H4 tt (.tup [vx, vy])) := .new nt
      have e5 : SqT K (upd H4 tt (.tup [vx, vy])) tt [vx, vy] := .inl (.inl upd_same)
      generalize upd H4 tt (.tup [vx, vy]) = H5 at m5 e5 ⊢
      have m05 := m4.trans m5
      obtain ⟨xd, hxd, ix⟩ := hxs.get hx
      rw [Tm.ds_map, List.getElem?_map, hti] at hxd
      cases hxd
      obtain ⟨yd, hyd, iy⟩ := hys.get hy
      rw [Tm.ds_map, List.getElem?_map, hui] at hyd
      cases hyd
      have hui' : (Tm.op "" us).arg i = ui := by rw [Tm.arg, List.getD_eq_getElem?_getD, hui]; rfl
      obtain ⟨_, hFi⟩ := col_of hF2 hti
      rw [List.map_cons, List.map_nil, List.map_cons, List.map_nil, hui'] at hFi
      have hg : (skL ts 0 ([us].map (Tm.op ""))).take (i + 1) = (skL ts 0 ([us].map (Tm.op ""))).take i ++ [skT ti [ui]] := by
        rw [List.take_add_one, skL_get hti, Nat.zero_add, List.map_cons, List.map_nil, List.map_cons, List.map_nil, hui']
        rfl
      have hcsF : ∀ c ∈ (Gt.labs ((skL ts 0 ([us].map (Tm.op ""))).take i)).foldl stpg [], ColF c := fun c hc => by
        rcases (foldg_mem _ _ _).mp hc with h | h
        · cases h
        · refine skL_colF ts 0 ([us].map (Tm.op "")) (fun j t' ht' => ?_) c ?_
          · rw [Nat.zero_add]
            exact (col_of hF2 ht').2
          · rw [← List.take_append_drop i (skL ts 0 ([us].map (Tm.op ""))), Gt.labs_app]
            exact List.mem_append.mpr (.inl h)
      have hcl : ((Gt.labs ((skL ts 0 ([us].map (Tm.op ""))).take i)).foldl stpg []).length + Tm.nod [ti] ≤ 90000 := by
        have h1 := foldg_len (Gt.labs ((skL ts 0 ([us].map (Tm.op ""))).take i)) []
        rw [skL_take] at h1 ⊢
        have h2 := skL_labs (ts.take i) 0 ([us].map (Tm.op ""))
        have h3 : Tm.nod ts = Tm.nod (ts.take i) + (Tm.nod [ti] + Tm.nod (ts.drop (i + 1))) := by
          rw [← nod_cons, ← Tm.nod_append]
          congr 1
          rw [show ti = ts[i] from (List.getElem?_eq_some_iff.mp hti).2.symm]
          simp
        simp only [List.length_nil] at h1
        omega
      have hdi : ti.dep < 51 := by
        have := (hF ti (List.mem_of_getElem? hti)).2
        omega
      refine ⟨tt, [vx, vy], rfl, e5, rfl, vx, [vy], rfl, vy, [], rfl, rfl, ?_⟩
      refine ⟨vx, rfl, vy, rfl, .ref pr', rfl, vx, vy, pr', ks', ti, ui, _, rfl, m5.same _ _ e4, i4.mv m5, ix.mv m05, iy.mv m05, hFi, hdi, hcsF, hcl, fun r H6 v pr6 ks6 m6 o6 r6 k6 i6 im6 => ?_⟩
      refine ⟨r, [v, .ref pr6], rfl, r6, rfl, v, [.ref pr6], rfl, .ref pr6, [], rfl, rfl, ?_⟩
      have l6 := (m5.trans m6).same _ _ l4
      have hyl' : ps.length = i := by rw [j4.length, Tm.ds_map, List.length_map, Gt.nums_len, List.length_take, skL_len]; omega
      have hcs : (Gt.labs ((skL ts 0 ([us].map (Tm.op ""))).take (i + 1))).foldl stpg [] = (skT ti [ui]).lab.foldl stpg ((Gt.labs ((skL ts 0 ([us].map (Tm.op ""))).take i)).foldl stpg []) := by
        rw [hg, Gt.labs_snoc, List.foldl_append]
      have m7 : Mv [l] H6 (upd H6 l (.lst (ps ++ [v]))) := .set l6 (by simp)
      have hpl : pr6 ≠ l := fun z => by
        rcases o6 with o6 | o6
        · exact d4 (o6 ▸ z)
        · rw [z, m5.same _ _ l4] at o6
          cases o6
      have hnt := Tm.nod_len ts
      refine ⟨.ref l, rfl, .inl ⟨rfl, _, .inl (.inl l6)⟩, v, rfl, l, ps, v, rfl, rfl, l6, by rw [hyl']; exact line5lt (by omega), ?_⟩
      refine ⟨pr6, ks6, ps ++ [v], _, _, _, rfl, hpl, by rw [upd_ne hpl]; exact k6, ?_, upd_same, ?_, (m05.trans m6).wr nl⟩
      · rw [hcs]
        exact i6.mv m7
      · rw [hcs, hg, Gt.nums_snoc, num_grow fun c hc => (foldg_mem _ _ _).mpr (.inr hc), Tm.ds_append]
        exact ((j4.mv (m5.trans m6)).append (Ims.cons im6 Ims.nil)).mv m7
    · rintro σ H4 ⟨pr', ks', ps, y4, y5, y6, rfl, d4, e4, i4, l4, j4, m4⟩
      rw [hxl, List.take_of_length_le (by rw [skL_len]; omega)] at j4
      exact ⟨.ref l, rfl, q l ps H4 m4 nl l4 j4⟩
theorem ok_Pattern___or__ (T : TX K mg) (Y : TY P K mg) {k : Nat} : FnOk P w K mg base (CX P w) (k + 60) T.d_Pattern___or__.f T.d_Pattern___or__.fd P_Pattern___or__ (sp_PatOr K T.C_Pattern Y.C_Unlike) := by
  have G_all_joined : FnOk P w K mg base CX0 54 T.d_all_joined.f T.d_all_joined.fd P_all_joined (sp_alljn K) := ok_all_joined (k := 0) T
  have G_Pattern___init__ : FnOk P w K mg base (CX P w) 55 T.d_Pattern___init__.f T.d_Pattern___init__.fd P_Pattern___init__ (sp_Pat K T.C_Pattern Y.C_Wrong) := ok_Pattern___init__ T Y (k := 0)
  refine T.d_Pattern___or__.F.okX sc_Pattern___or__ (fun vs H Q E h => ?_) (fun cdv A outer s H vs Q E hr h => ?_)
  · obtain ⟨_, _, _, _, rfl, _⟩ := h
    rfl
  · obtain ⟨x, y, ts, us, rfl, hR, hR2, hO, hO2, qU, q⟩ := h
    obtain ⟨dx, p, xs, hs, hp, hx⟩ := hR
    obtain ⟨dx2, p2, xs2, hs2, hp2, hx2⟩ := hR2
    have hu64 := hr.units
    have hl : xs.length = ts.length := by rw [hx.length, Tm.ds_map, List.length_map]
    have hl2 : xs2.length = us.length := by rw [hx2.length, Tm.ds_map, List.length_map]
    refine ⟨_, (pss_cons (ps_if (pt_cmpR (r := rNeG K) (op_neG hu64) (pe_callB (r := rLenG K) call_lenG (by rfl) T.b_len bt_len (pa_cons (pe_slC (K := K) rfl (pv 0)) pa_nil)) (pe_callB (r := rLenG K) call_lenG (by rfl) T.b_len bt_len (pa_cons (pe_slC (K := K) rfl (pv 1)) pa_nil)) (nomark _)) (pss_one (ps_raise rfl (takes_of rfl rfl rfl rfl) (pmk_z Y.x_Unlike))) pss_nil) (pss_one (ps_ret (pe_makeS ⟨T.mk_Pattern, T.d_Pattern___init__.M.at_, T.d_Pattern___init__.M.fn, T.k_Pattern⟩ G_Pattern___init__ (hr.mono (by omega)) rfl T.g_Pattern T.d_Pattern___init__.b (fun σ => passAt (takes_of rfl rfl rfl rfl) σ) (pa_cons (pe_call G_all_joined (hr.mono (by omega)) rfl T.d_all_joined.g T.d_all_joined.F.kp T.d_all_joined.b .nil pass0 (pa_cons (pe_slC (K := K) rfl (pv 0)) (pa_cons (pe_slC (K := K) rfl (pv 1)) pa_nil))) pa_nil))))), ?_⟩
    refine ⟨.ref x, rfl, x, T.C_Pattern, dx, T.p_Pattern_its_terms, _, 0, .ref p, rfl, hs, T.c_Pattern, T.sl_Pattern_its_terms, rfl, ?_⟩
    walk_at "nc"
    refine rd_len (.inr hp) ?_
    refine ⟨.ref y, rfl, y, T.C_Pattern, dx2, T.p_Pattern_its_terms, _, 0, .ref p2, rfl, hs2, T.c_Pattern, T.sl_Pattern_its_terms, rfl, ?_⟩
    walk_at "nc"
    refine rd_len (.inr hp2) (Or.inl ⟨rfl, _, rfl, ?_⟩)
    rw [hl, hl2]
    refine ite2 (fun e => ?_) (fun e => ?_)
    · exact qU fun z => by rw [z] at e; simp at e
    have hw : ts.length = us.length := by simp at e; omega
    refine ⟨.ref x, rfl, x, T.C_Pattern, dx, T.p_Pattern_its_terms, _, 0, .ref p, rfl, hs, T.c_Pattern, T.sl_Pattern_its_terms, rfl, ?_⟩
    refine ⟨.ref y, rfl, y, T.C_Pattern, dx2, T.p_Pattern_its_terms, _, 0, .ref p2, rfl, hs2, T.c_Pattern, T.sl_Pattern_its_terms, rfl, ?_⟩
    refine ⟨p, p2, xs, xs2, ts, us, rfl, hp, hp2, hx, hx2, hw.symm, hO.ok, hO2.ok, by have := hO.nod; omega, fun l zs H1 m1 n1 e1 i1 => ?_⟩
    intro z dz nz ndz hne
    refine ⟨z, dz, .ref l, H1, rfl, rfl, nz, ndz, hne, .inl ⟨l, zs, genL ts [us], rfl, .inl e1, i1, hO.gen.ptf, fun H2 m2 hP => ?_⟩⟩
    rw [genL_canon] at hP
    exact ⟨rfl, q hw z H2 (m1.trans m2) hP⟩
end
end Fm
namespace Fm
open PySem PySem.Spec PyProof.Rows L2
section
variable {X : Cx} {a b c d : Expr} {ta tb tc td : TE} {pos : Pos}
def tChain3 (r r' r3 : R2) (ta tb tc td : TE) : TE := fun σ H Q => ta σ H fun x H1 => tb σ H1 fun y H2 => r x y H2 fun z H3 => ∃ k, z = .bl k ∧
  (if k = true then tc σ H3 fun w' H4 => r' y w' H4 fun z2 H5 => ∃ k2, z2 = .bl k2 ∧ (if k2 = true then td σ H5 fun u H6 => r3 w' u H6 Q else Q (.bl false) H5) else Q (.bl false) H3)
end
end Fm
namespace Fm
open PySem PySem.Spec PyProof.Rows L2 SlX
local macro_rules | `(tactic| walk_at "nn") => `(tactic| dsimp only [tC, tNil, tCons, tCB, tCall, gName, tSeq, tAsg, tPar, tDrop, tRet])
local macro_rules | `(tactic| walk_at "nc") => `(tactic| dsimp only [tC, tNil, tCons, tCB])
def lettersIn (x : Str) : List Nat := x.cps.toList.filter fun c => decide (c ∈ lettersS.cps.toList)
section
variable {P : Program} {w : World} {K : PySem.W.Frag} {mg : Str → Option Value} {base : Heap}
end
end Fm
namespace Fm
open PySem PySem.Spec PyProof.Rows L2 SlX
local macro_rules | `(tactic| walk_at "nn") => `(tactic| dsimp only [tC, tNil, tCons, tCB, tCall, gName, tSeq, tAsg, tPar, tDrop, tRet])
local macro_rules | `(tactic| walk_at "nc") => `(tactic| dsimp only [tC, tNil, tCons, tCB, tCall])
mutual
theorem tm_thdep : ∀ t : Tm, t.th.dep = t.dep
  | .var _ => by simp [Tm.th, Th.dep, Tm.dep]
  | .op _ ts => by simp [Tm.th, Th.dep, Th.deps, Tm.dep, tms_thdep ts]
theorem tms_thdep : ∀ ts : List Tm, Th.deps (Tm.ths ts) = Tm.deps ts
  | [] => by simp [Tm.ths, Th.deps, Tm.deps]
  | t :: ts => by simp [Tm.ths, Th.deps, Tm.deps, tm_thdep t, tms_thdep ts]
end
theorem PtV.is {K : PySem.W.Frag} {b : Addr} {H : Hp} {v : V} {o : Option (List Tm)} (h : PtV K b H v o) : ∃ t, Is K b H v t ∧ t.cnt ≤ 90000 ∧ t.dep ≤ 55 ∧ (o = none → ∀ ts, t = .tup ts → isTerms ts = false) ∧
    ∀ us, o = some us → t = .tup (Tm.ths us) ∧ Tm.oks (fun i => 0 ≤ i ∧ i.natAbs < 10 ^ 40) us ∧ Tm.deps us ≤ 50 := by
  cases h with
  | @tms a xs us h1 h2 h3 h4 h5 =>
    refine ⟨.tup (Tm.ths us), ⟨a, xs, rfl, h1, IsAll.of_ims us xs h3 h2⟩, h5, ?_, fun e => (by cases e), fun us' e => ?_⟩
    · rw [Th.dep, tms_thdep]
      omega
    · cases e
      exact ⟨rfl, h3, h4⟩
  | @odd _ t h1 h2 h3 h4 => exact ⟨t, h1, h2, h3, fun _ => h4, fun us e => (by cases e)⟩
mutual
theorem is_im {K : PySem.W.Frag} {b : Addr} {H : Hp} : ∀ (t : Tm) (v : V), Is K b H v t.th → Im K H v t.d
  | .var i, v, h => by
    simp only [Tm.th, Is] at h
    rw [h]
    exact .int i
  | .op x ts, v, h => by
    simp only [Tm.th, Is] at h
    obtain ⟨a, xs, rfl, h1, y, ys, rfl, ⟨rfl, _⟩, h3⟩ := h
    exact .tup h1 (Ims.cons (.str x) (iss_ims ts ys h3))
theorem iss_ims {K : PySem.W.Frag} {b : Addr} {H : Hp} : ∀ (ts : List Tm) (vs : List V), IsAll K b H vs (Tm.ths ts) → Ims K H vs (Tm.ds ts)
  | [], vs, h => by
    simp only [Tm.ths, IsAll] at h
    rw [h]
    exact Ims.nil
  | t :: ts, vs, h => by
    simp only [Tm.ths, IsAll] at h
    obtain ⟨y, ys, rfl, h1, h2⟩ := h
    exact Ims.cons (is_im t y h1) (iss_ims ts ys h2)
end
noncomputable def sp_lins (K : PySem.W.Frag) : Sp := fun vs H Q _ => ∃ (p b : Addr) (xs : List V) (ts : List Tm) (v : V) (o : Option (List Tm)), vs = [.ref p, v] ∧ SqT K H p xs ∧ Ims K H xs (Tm.ds ts) ∧ ColF ts ∧ Tm.nod ts ≤ 4000 ∧ PtV K b H v o ∧
  ∀ H', Mv [] H H' → Q (.bl (instB ts o)) H'
section
variable {P : Program} {w : World} {K : PySem.W.Frag} {mg : Str → Option Value} {base : Heap}
end
end Fm
namespace Fm
open PySem PySem.Spec PyProof.Rows L2
def kD : L2.Key → PyData
  | .inl i => .int i
  | .inr x => .str x
mutual
inductive Js (K : PySem.W.Frag) (b : Addr) (H : Hp) : V → PyData → Prop
  | non : Js K b H .non .none
  | bl (c : Bool) : Js K b H (.bl c) (.bool c)
  | int (i : Int) : Js K b H (.int i) (.int i)
  | str (x : Str) (h : x.length ≤ 1000) : Js K b H (.str x) (.str x)
  | lst {a : Addr} {xs : List V} {ds : List PyData} : a ≠ b → H a = some (.lst xs) → JsAll K b H xs ds → Js K b H (.ref a) (.list ds)
  | tup {a : Addr} {xs : List V} {ds : List PyData} : SqT K H a xs → JsAll K b H xs ds → Js K b H (.ref a) (.tuple ds)
  | dct {a : Addr} {es : List (L2.Key × V)} {kvs : List (PyData × PyData)} : a ≠ b → H a = some (.dK es) → JsKv K b H es kvs → Js K b H (.ref a) (.dict kvs)
inductive JsAll (K : PySem.W.Frag) (b : Addr) (H : Hp) : List V → List PyData → Prop
  | nil : JsAll K b H [] []
  | cons {v : V} {vs : List V} {d : PyData} {ds : List PyData} : Js K b H v d → JsAll K b H vs ds → JsAll K b H (v :: vs) (d :: ds)
inductive JsKv (K : PySem.W.Frag) (b : Addr) (H : Hp) : List (L2.Key × V) → List (PyData × PyData) → Prop
  | nil : JsKv K b H [] []
  | cons {k : L2.Key} {v : V} {es : List (L2.Key × V)} {d : PyData} {kvs : List (PyData × PyData)} : Js K b H v d → JsKv K b H es kvs → JsKv K b H ((k, v) :: es) ((kD k, d) :: kvs)
end
section
variable {K : PySem.W.Frag} {b : Addr} {H H' : Hp}
mutual
theorem Js.mv (m : Mv [b] H H') : ∀ (d : PyData) (v : V), Js K b H v d → Js K b H' v d
  | .none, _, h => by cases h; exact .non
  | .bool c, _, h => by cases h; exact .bl c
  | .int i, _, h => by cases h; exact .int i
  | .str x, _, h => by
    cases h with
    | str _ h => exact .str x h
  | .list ds, _, h => by
    cases h with
    | lst hb ha hs => exact .lst hb (m.keep _ _ (by simpa using hb) ha) (JsAll.mv m ds _ hs)
  | .tuple ds, _, h => by
    cases h with
    | tup ha hs => exact .tup (m.sqT ha) (JsAll.mv m ds _ hs)
  | .dict kvs, _, h => by
    cases h with
    | dct hb ha hs => exact .dct hb (m.keep _ _ (by simpa using hb) ha) (JsKv.mv m kvs _ hs)
theorem JsAll.mv (m : Mv [b] H H') : ∀ (ds : List PyData) (vs : List V), JsAll K b H vs ds → JsAll K b H' vs ds
  | [], _, h => by cases h; exact .nil
  | d :: ds, _, h => by
    cases h with
    | cons h1 h2 => exact .cons (Js.mv m d _ h1) (JsAll.mv m ds _ h2)
theorem JsKv.mv (m : Mv [b] H H') : ∀ (kvs : List (PyData × PyData)) (es : List (L2.Key × V)), JsKv K b H es kvs → JsKv K b H' es kvs
  | [], _, h => by cases h; exact .nil
  | (_, d) :: kvs, _, h => by
    cases h with
    | cons h1 h2 => exact .cons (Js.mv m d _ h1) (JsKv.mv m kvs _ h2)
end
theorem Js.mv0 {d : PyData} {v : V} (h : Js K b H v d) (m : Mv [] H H') : Js K b H' v d := Js.mv (m.mono (by simp)) d v h
theorem Js.dr {d : PyData} {v : V} (h : Js K b H v d) (m : Dr b H H') : Js K b H' v d := Js.mv m.mv d v h
theorem JsAll.mv0 {ds : List PyData} {vs : List V} (h : JsAll K b H vs ds) (m : Mv [] H H') : JsAll K b H' vs ds := JsAll.mv (m.mono (by simp)) ds vs h
theorem JsAll.dr {ds : List PyData} {vs : List V} (h : JsAll K b H vs ds) (m : Dr b H H') : JsAll K b H' vs ds := JsAll.mv m.mv ds vs h
theorem JsAll.length : ∀ {ds : List PyData} {vs : List V}, JsAll K b H vs ds → vs.length = ds.length
  | [], _, h => by cases h; rfl
  | d :: ds, _, h => by
    cases h with
    | cons _ h2 => simp [h2.length]
theorem JsAll.append : ∀ {ds es : List PyData} {vs us : List V}, JsAll K b H vs ds → JsAll K b H us es → JsAll K b H (vs ++ us) (ds ++ es)
  | [], _, _, _, h, k => by cases h; exact k
  | d :: ds, _, _, _, h, k => by
    cases h with
    | cons h1 h2 => exact .cons h1 (h2.append k)
theorem JsAll.get : ∀ {ds : List PyData} {vs : List V} {i : Nat} {v : V}, JsAll K b H vs ds → vs[i]? = some v → ∃ d, ds[i]? = some d ∧ Js K b H v d
  | [], _, _, _, h, e => by cases h; simp at e
  | d :: ds, _, 0, _, h, e => by
    cases h with
    | cons h1 h2 =>
      simp at e
      subst e
      exact ⟨d, rfl, h1⟩
  | d :: ds, _, i + 1, _, h, e => by
    cases h with
    | cons h1 h2 => exact h2.get (i := i) (by simpa using e)
theorem JsAll.getD : ∀ {ds : List PyData} {vs : List V} {i : Nat} {d : PyData}, JsAll K b H vs ds → ds[i]? = some d → ∃ v, vs[i]? = some v ∧ Js K b H v d
  | [], _, _, _, h, e => by simp at e
  | d :: ds, _, 0, _, h, e => by
    cases h with
    | cons h1 h2 =>
      simp at e
      subst e
      exact ⟨_, rfl, h1⟩
  | d :: ds, _, i + 1, _, h, e => by
    cases h with
    | cons h1 h2 => exact h2.getD (i := i) (by simpa using e)
theorem JsAll.take : ∀ {ds : List PyData} {vs : List V} (n : Nat), JsAll K b H vs ds → JsAll K b H (vs.take n) (ds.take n)
  | [], _, n, h => by cases h; simpa using JsAll.nil
  | d :: ds, _, 0, h => by simpa using JsAll.nil
  | d :: ds, _, n + 1, h => by
    cases h with
    | cons h1 h2 => exact .cons h1 (h2.take n)
theorem JsAll.drop : ∀ {ds : List PyData} {vs : List V} (n : Nat), JsAll K b H vs ds → JsAll K b H (vs.drop n) (ds.drop n)
  | [], _, n, h => by cases h; simpa using JsAll.nil
  | d :: ds, _, 0, h => by simpa using h
  | d :: ds, _, n + 1, h => by
    cases h with
    | cons h1 h2 => exact h2.drop n
theorem Js.tup2 {v : V} {d e : PyData} (h : Js K b H v (.tuple [d, e])) : ∃ a x y, v = .ref a ∧ SqT K H a [x, y] ∧ Js K b H x d ∧ Js K b H y e := by
  cases h with
  | tup ha hs =>
    cases hs with
    | cons h1 h2 =>
      cases h2 with
      | cons h3 h4 =>
        cases h4
        exact ⟨_, _, _, rfl, ha, h1, h3⟩
mutual
def thD : PyData → Th
  | .none => .non
  | .bool c => .bl c
  | .int i => .int i
  | .str x => .str x
  | .list _ => .lst
  | .tuple ds => .tup (thDs ds)
  | .dict _ => .dct
def thDs : List PyData → List Th
  | [] => []
  | d :: ds => thD d :: thDs ds
end
mutual
theorem Js.is : ∀ (d : PyData) (v : V), Js K b H v d → Is K b H v (thD d)
  | .none, _, h => by cases h; rfl
  | .bool c, _, h => by cases h; rfl
  | .int i, _, h => by cases h; rfl
  | .str x, _, h => by
    cases h with
    | str _ h => exact ⟨rfl, h⟩
  | .list ds, _, h => by
    cases h with
    | lst hb ha hs => exact ⟨_, _, rfl, hb, ha⟩
  | .tuple ds, _, h => by
    cases h with
    | tup ha hs => exact ⟨_, _, rfl, ha, JsAll.is ds _ hs⟩
  | .dict kvs, _, h => by
    cases h with
    | dct hb ha hs => exact ⟨_, _, rfl, hb, ha⟩
theorem JsAll.is : ∀ (ds : List PyData) (vs : List V), JsAll K b H vs ds → IsAll K b H vs (thDs ds)
  | [], _, h => by cases h; exact IsAll.nil
  | d :: ds, _, h => by
    cases h with
    | cons h1 h2 => exact IsAll.cons (Js.is d _ h1) (JsAll.is ds _ h2)
end
mutual
def shs : PyData → Prop
  | .none => True
  | .bool _ => True
  | .int _ => True
  | .str x => x.length ≤ 1000
  | .list xs => shsA xs
  | .tuple xs => shsA xs
  | .dict _ => True
def shsA : List PyData → Prop
  | [] => True
  | x :: xs => shs x ∧ shsA xs
end
mutual
theorem Js.of0 : ∀ (d : PyData) (v : V), imm d = true → Dp K H v d → shs d → Js K b H v d
  | .none, _, _, h, _ => by cases h; exact .non
  | .bool c, _, _, h, _ => by cases h; exact .bl c
  | .int i, _, _, h, _ => by cases h; exact .int i
  | .str x, _, _, h, l => by
    cases h
    exact .str x l
  | .list ds, _, i, _, _ => by simp [imm] at i
  | .tuple ds, _, i, h, l => by
    cases h with
    | tup ha hs => exact .tup ha (JsAll.of0 ds _ (by simpa [imm] using i) hs l)
  | .dict _, _, i, _, _ => by simp [imm] at i
theorem JsAll.of0 : ∀ (ds : List PyData) (vs : List V), immAll ds = true → DpAll K H vs ds → shsA ds → JsAll K b H vs ds
  | [], _, _, h, _ => by cases h; exact .nil
  | d :: ds, _, i, h, l => by
    have i' : imm d = true ∧ immAll ds = true := by simpa [immAll] using i
    cases h with
    | cons h1 h2 => exact .cons (Js.of0 d _ i'.1 h1 l.1) (JsAll.of0 ds _ i'.2 h2 l.2)
end
theorem Js.of {d : PyData} {v : V} (h : Im K H v d) (l : shs d) : Js K b H v d := Js.of0 d v h.im h.dp l
theorem JsAll.of {ds : List PyData} {vs : List V} (h : Ims K H vs ds) (l : shsA ds) : JsAll K b H vs ds := JsAll.of0 ds vs h.im h.dp l
end
mutual
def fin : PyData → Prop
  | .none => True
  | .bool _ => True
  | .int i => i.natAbs < 10 ^ 40
  | .str x => PyData.strOk x = true
  | .list xs => fins xs
  | .tuple xs => fins xs
  | .dict kvs => finK kvs
def fins : List PyData → Prop
  | [] => True
  | x :: xs => fin x ∧ fins xs
def finK : List (PyData × PyData) → Prop
  | [] => True
  | (k, v) :: r => fin k ∧ fin v ∧ finK r
end
mutual
def wj : PyData → Nat
  | .none => 4
  | .bool _ => 5
  | .int _ => 41
  | .str x => 10 * x.length + 2
  | .list xs => wjs xs + 2
  | .tuple xs => wjs xs + 2
  | .dict kvs => wjK kvs + 2
def wjs : List PyData → Nat
  | [] => 0
  | x :: xs => wj x + 2 + wjs xs
def wjK : List (PyData × PyData) → Nat
  | [] => 0
  | (k, v) :: r => wj k + wj v + 4 + wjK r
end
theorem dictText_le (ts : List Str) : (dictText ts).length ≤ piled ts + 2 := by
  unfold dictText
  rw [strLen_append, strLen_append]
  have e1 : ((("{" : String) : Str)).length = 1 := rfl
  have e2 : ((("}" : String) : Str)).length = 1 := rfl
  rw [e1, e2]
  cases ts with
  | nil => decide +kernel
  | cons t r =>
    have := join_length_add (t :: r) (by simp)
    omega
mutual
theorem shown_wj : ∀ d : PyData, fin d → d.shown.length ≤ wj d
  | .none, _ => by simp only [PyData.shown]; decide
  | .bool b, _ => by cases b <;> (simp only [PyData.shown]; decide)
  | .int i, h => by
    simp only [PyData.shown, wj]
    rw [PySem.ofString_length]
    exact int_text_length_le10 (k := 40) (by decide) h
  | .str x, h => by
    simp only [PyData.shown, wj]
    refine StrLaws.reprText_len x fun c hc => ?_
    have h' : x.cps.all (· < 0x110000) = true := h
    rw [Array.all_eq_true_iff_forall_mem] at h'
    have := h' c (by simpa using hc)
    simp at this
    omega
  | .list xs, h => by
    have := shown_wjs xs h
    have := listText_le (PyData.shownAll xs)
    simp only [PyData.shown, wj]
    omega
  | .tuple xs, h => by
    have := shown_wjs xs h
    have := tupleText_le (PyData.shownAll xs)
    simp only [PyData.shown, wj]
    omega
  | .dict kvs, h => by
    have := shown_wjK kvs h
    have := dictText_le (PyData.shownKv kvs)
    simp only [PyData.shown, wj]
    omega
theorem shown_wjs : ∀ xs : List PyData, fins xs → piled (PyData.shownAll xs) ≤ wjs xs
  | [], _ => by simp [PyData.shownAll, piled, wjs]
  | x :: xs, h => by
    have h1 := shown_wj x h.1
    have h2 := shown_wjs xs h.2
    simp only [PyData.shownAll, wjs]
    rw [piled_cons]
    omega
theorem shown_wjK : ∀ kvs : List (PyData × PyData), finK kvs → piled (PyData.shownKv kvs) ≤ wjK kvs
  | [], _ => by simp [PyData.shownKv, piled, wjK]
  | (k, v) :: r, h => by
    have h1 := shown_wj k h.1
    have h2 := shown_wj v h.2.1
    have h3 := shown_wjK r h.2.2
    have e2 : (((": " : String) : Str)).length = 2 := rfl
    simp only [PyData.shownKv, wjK]
    rw [piled_cons, strLen_append, strLen_append, e2]
    omega
end
mutual
theorem showable_fin : ∀ d : PyData, fin d → d.showable = true
  | .none, _ => by simp [PyData.showable]
  | .bool b, _ => by simp [PyData.showable]
  | .int i, h => by
    have h' : i.natAbs < 10 ^ 40 := h
    have h2 : i.natAbs < 2 ^ 200 := Nat.lt_trans h' (by decide)
    simp only [PyData.showable, decide_eq_true_eq]
    exact Nat.lt_trans (PySem.Flt.log2_lt_of (by decide) h2) (by decide)
  | .str x, h => by simp [PyData.showable]
  | .list xs, h => by simpa [PyData.showable] using showable_fins xs h
  | .tuple xs, h => by simpa [PyData.showable] using showable_fins xs h
  | .dict kvs, h => by simpa [PyData.showable] using showable_finK kvs h
theorem showable_fins : ∀ xs : List PyData, fins xs → PyData.showableAll xs = true
  | [], _ => by simp [PyData.showableAll]
  | x :: xs, h => by simp [PyData.showableAll, showable_fin x h.1, showable_fins xs h.2]
theorem showable_finK : ∀ kvs : List (PyData × PyData), finK kvs → PyData.showableKv kvs = true
  | [], _ => by simp [PyData.showableKv]
  | (k, v) :: r, h => by simp [PyData.showableKv, showable_fin k h.1, showable_fin v h.2.1, showable_finK r h.2.2]
end
structure ShJ (d : PyData) : Prop where
  fi : fin d
  dp : d.depth ≤ 60
  wj : wj d ≤ 16000000
def SysAt (h : Heap) : Prop := ∃ o : Obj, h.get? sysModules = some o
section
variable {X : Cx} {pins : List (Addr × Obj)} {σ : L2.St} {H : Hp} {s : Shared} {b : Addr}
theorem noSys (I : Inv X pins σ H s) (hn : SysAt X.base) {a : Addr} {o : HO} (e : H a = some o) : a ≠ sysModules := by
  rintro rfl
  obtain ⟨u, hu⟩ := hn
  rw [(I.bs _ _ hu).2] at e
  cases e
theorem kv_rel : ∀ {es : List (L2.Key × V)} {kvs : List (PyData × PyData)}, JsKv X.K b H es kvs → ∀ {vs : List (L2.Key × Value)} {ens : List DictEntry}, KV es vs → Pairs (mixKind X.prog X.w) ens vs →
    (∀ d v u, (∃ k, (k, d) ∈ kvs) → Js X.K b H v d → RelV v u → ∃ as, Reads s.heap u d as ∧ sysModules ∉ as) →
    (∃ as, ReadsAll s.heap (ens.map (·.key)) (kvs.map (·.1)) as ∧ sysModules ∉ as) ∧ ∃ as, ReadsAll s.heap (ens.map (·.val)) (kvs.map (·.2)) as ∧ sysModules ∉ as
  | [], _, h, _, _, r, p, _ => by
    cases h
    cases r
    cases p
    exact ⟨⟨[], .nil, by simp⟩, [], .nil, by simp⟩
  | (k, v) :: es, _, h, _, _, r, p, ih => by
    cases h with
    | cons hd hs =>
      cases r with
      | cons e t =>
        obtain ⟨e, rv⟩ := e
        cases p with
        | cons hk hv hp =>
          have ih2 := kv_rel hs t hp fun d' v u h' => ih d' v u (h'.elim fun k' hm => ⟨k', List.mem_cons_of_mem _ hm⟩)
          obtain ⟨⟨as, a1, a2⟩, bs, b1, b2⟩ := ih2
          obtain ⟨cs, c1, c2⟩ := ih _ _ _ ⟨_, List.mem_cons_self⟩ hd rv
          have hk' : ∀ {u : Value}, keyIs k u = true → ∃ ks, Reads s.heap u (kD k) ks ∧ sysModules ∉ ks := by
            intro u hk
            rcases keyIs_shape hk with ⟨i, u, e1, e2⟩ | ⟨y, u, e1, e2⟩
            · rw [e1, e2]
              exact ⟨[], .int i u, by simp⟩
            · rw [e1, e2]
              exact ⟨[], .str y u, by simp⟩
          have e' : k = _ := e
          rw [← e'] at hk
          obtain ⟨ks, k1, k2⟩ := hk' hk
          refine ⟨⟨ks ++ as, .cons k1 a1, by simp [k2, a2]⟩, cs ++ bs, .cons ?_ b1, by simp [c2, b2]⟩
          rw [← hv] at c1
          exact c1
mutual
theorem Js.reads (I : Inv X pins σ H s) (hn : SysAt X.base) : ∀ (d : PyData) (v : V) (u : Value), Js X.K b H v d → RelV v u → ∃ as, Reads s.heap u d as ∧ sysModules ∉ as
  | .none, _, _, h, r => by
    cases h
    cases r
    exact ⟨_, Reads.none, by simp⟩
  | .bool b, _, _, h, r => by
    cases h
    cases r
    exact ⟨_, Reads.bool b, by simp⟩
  | .int i, _, _, h, r => by
    cases h
    obtain ⟨t, rfl⟩ := r
    exact ⟨_, Reads.int i t, by simp⟩
  | .str x, _, _, h, r => by
    cases h
    obtain ⟨t, rfl⟩ := r
    exact ⟨_, Reads.str x t, by simp⟩
  | .list ds, _, _, h, r => by
    cases h with
    | lst hb hs ha =>
      cases r
      obtain ⟨its, rv, ⟨o, n, ho, hc, _, hd⟩, _⟩ := I.list (.inl (.inl hs))
      obtain ⟨as, hr, hm⟩ := Js.readsAll I hn ds _ its ha rv
      refine ⟨_, Reads.list ho hc hd hr, ?_⟩
      rw [List.mem_cons]
      rintro (e | e)
      · exact noSys I hn hs e.symm
      · exact hm e
  | .tuple ds, _, _, h, r => by
    cases h with
    | tup hs ha =>
      cases r
      obtain ⟨its, rv, ⟨o, ho, hc, n, hd⟩, _⟩ := I.tuple hs
      obtain ⟨as, hr, hm⟩ := Js.readsAll I hn ds _ its ha rv
      exact ⟨_, Reads.tuple ho hc hd hr, hm⟩
  | .dict kvs, _, _, h, r => by
    cases h with
    | dct hb hs ha =>
      cases r
      obtain ⟨_, hne, vs, rk, o, es, ep, ho, hx, hd, _, hp, _⟩ := dk_of I.hok hs
      obtain ⟨⟨as, a1, a2⟩, bs, b1, b2⟩ := kv_rel ha rk hp (Js.readsKv I hn kvs)
      refine ⟨_, Reads.dict ho hx.1 hd a1 b1, ?_⟩
      have hne' := beq_eq_false_iff_ne.mp hne
      simp only [List.cons_append, List.mem_cons, List.mem_append]
      rintro (e | e | e)
      · exact hne' e.symm
      · exact a2 e
      · exact b2 e
theorem Js.readsAll (I : Inv X pins σ H s) (hn : SysAt X.base) : ∀ (ds : List PyData) (vs : List V) (us : List Value), JsAll X.K b H vs ds → Vals vs us → ∃ as, ReadsAll s.heap us ds as ∧ sysModules ∉ as
  | [], _, _, h, r => by
    cases h
    cases r
    exact ⟨_, ReadsAll.nil, by simp⟩
  | d :: ds, _, _, h, r => by
    cases h with
    | cons h1 h2 =>
      cases r with
      | cons r1 r2 =>
        obtain ⟨as, q1, n1⟩ := Js.reads I hn d _ _ h1 r1
        obtain ⟨bs, q2, n2⟩ := Js.readsAll I hn ds _ _ h2 r2
        exact ⟨_, ReadsAll.cons q1 q2, by simp [n1, n2]⟩
theorem Js.readsKv (I : Inv X pins σ H s) (hn : SysAt X.base) : ∀ (kvs : List (PyData × PyData)) (d : PyData) (v : V) (u : Value), (∃ k, (k, d) ∈ kvs) → Js X.K b H v d → RelV v u → ∃ as, Reads s.heap u d as ∧ sysModules ∉ as
  | [], _, _, _, ⟨_, h⟩, _, _ => by cases h
  | (k', d') :: kvs, d, v, u, ⟨k, h⟩, hj, r => by
    rcases List.mem_cons.mp h with e | h
    · have e' : d = d' := congrArg Prod.snd e
      rw [e'] at hj ⊢
      exact Js.reads I hn d' v u hj r
    · exact Js.readsKv I hn kvs d v u ⟨k, h⟩ hj r
end
def rReprJ (K : PySem.W.Frag) : List V → Hp → VK → Prop := fun xs H Q => ∃ (x : V) (d : PyData) (b : Addr), xs = [x] ∧ Js K b H x d ∧ ShJ d ∧ Q (.str d.shown) H
end
end Fm
namespace Fm
open PySem PySem.Spec PyProof.Rows L2
def rRepTG (K : PySem.W.Frag) : R2 := fun x y H Q => ∃ l k xs, x = .ref l ∧ y = .int k ∧ SqT K H l xs ∧ xs ≠ [] ∧ 0 ≤ k ∧ k ≤ 1000 ∧ xs.length ≤ 1000 ∧ (k = 1 → Q (.ref l) H) ∧ (k ≠ 1 → ∀ p, H p = none → Q (.ref p) (upd H p (.tup (List.replicate k.toNat xs).flatten)))
section
variable {X : Cx}
end
end Fm
namespace Fm
open PySem PySem.Spec PyProof.Rows L2
def MkJ (K : PySem.W.Frag) (b : Addr) (H0 : Hp) (σ : L2.St) (te : TE) (d : PyData) : Prop := ∀ (H : Hp) (Q : VK), Mv [] H0 H → (∀ v H', Mv [] H H' → Js K b H' v d → Q v H') → te σ H Q
def MkJs (K : PySem.W.Frag) (b : Addr) (H0 : Hp) (σ : L2.St) (ta : TA) (ds : List PyData) : Prop := ∀ (H : Hp) (Q : List V → Hp → Prop), Mv [] H0 H → (∀ xs H', Mv [] H H' → JsAll K b H' xs ds → Q xs H') → ta σ H Q
section
variable {K : PySem.W.Frag} {b : Addr} {H0 : Hp} {σ : L2.St} {te : TE} {ta : TA} {d : PyData} {ds : List PyData}
end
structure SmJ (d : PyData) (n k : Nat) : Prop where
  fi : fin d
  wj : wj d ≤ n
  dp : d.depth ≤ k
structure SmJs (ds : List PyData) (n k : Nat) : Prop where
  fi : fins ds
  wj : wjs ds ≤ n
  dp : PyData.depthAll ds ≤ k
end Fm
namespace Fm
open PySem PySem.Spec PyProof.Rows L2 SlX
local macro_rules | `(tactic| walk_at "nn") => `(tactic| dsimp only [tC, tNil, tCons, tCB, tCall, gName, tSeq, tAsg, tPar, tDrop, tRet])
local macro_rules | `(tactic| walk_at "nc") => `(tactic| dsimp only [tC, tNil, tCons, tCB, tCall])
mutual
def Tm.putTh (f : Int → Th) : Tm → Th
  | .var i => f i
  | .op x ts => .tup (.str x :: Tm.putThs f ts)
def Tm.putThs (f : Int → Th) : List Tm → List Th
  | [] => []
  | t :: ts => t.putTh f :: Tm.putThs f ts
end
def wAt (ws : List Th) (i : Int) : Th := ws.getD i.toNat .non
mutual
def PutR (K : PySem.W.Frag) (H : Hp) (ys : List V) (v : V) : Tm → Prop
  | .var i => ys[i.toNat]? = some v
  | .op x ts => ∃ a xs, v = .ref a ∧ SqT K H a (.str x :: xs) ∧ PutRs K H ys xs ts
def PutRs (K : PySem.W.Frag) (H : Hp) (ys : List V) (vs : List V) : List Tm → Prop
  | [] => vs = []
  | t :: ts => ∃ z zs, vs = z :: zs ∧ PutR K H ys z t ∧ PutRs K H ys zs ts
end
mutual
theorem PutR.mv {K : PySem.W.Frag} {S : List Addr} {H H' : Hp} {ys : List V} (m : Mv S H H') : ∀ (t : Tm) (v : V), PutR K H ys v t → PutR K H' ys v t
  | .var i, v, h => by simpa [PutR] using h
  | .op x ts, v, h => by
    simp only [PutR] at h ⊢
    obtain ⟨a, xs, h1, h2, h3⟩ := h
    exact ⟨a, xs, h1, m.sqT h2, PutRs.mv m ts xs h3⟩
theorem PutRs.mv {K : PySem.W.Frag} {S : List Addr} {H H' : Hp} {ys : List V} (m : Mv S H H') : ∀ (ts : List Tm) (vs : List V), PutRs K H ys vs ts → PutRs K H' ys vs ts
  | [], vs, h => by simpa [PutRs] using h
  | t :: ts, vs, h => by
    simp only [PutRs] at h ⊢
    obtain ⟨z, zs, h1, h2, h3⟩ := h
    exact ⟨z, zs, h1, PutR.mv m t z h2, PutRs.mv m ts zs h3⟩
end
theorem PutRs.len {K : PySem.W.Frag} {H : Hp} {ys : List V} : ∀ {ts : List Tm} {vs : List V}, PutRs K H ys vs ts → vs.length = ts.length
  | [], _, h => by
    simp only [PutRs] at h
    rw [h]
    rfl
  | t :: ts, _, h => by
    simp only [PutRs] at h
    obtain ⟨z, zs, rfl, _, h⟩ := h
    rw [List.length_cons, List.length_cons, PutRs.len h]
theorem PutRs.snoc {K : PySem.W.Frag} {H : Hp} {ys : List V} {t : Tm} {v : V} (hv : PutR K H ys v t) : ∀ {ts : List Tm} {vs : List V}, PutRs K H ys vs ts → PutRs K H ys (vs ++ [v]) (ts ++ [t])
  | [], _, h => by
    simp only [PutRs] at h
    subst h
    exact ⟨v, [], rfl, hv, rfl⟩
  | u :: ts, _, h => by
    simp only [PutRs] at h
    obtain ⟨z, zs, rfl, h1, h⟩ := h
    exact ⟨z, zs ++ [v], rfl, h1, PutRs.snoc hv h⟩
mutual
theorem putR_is {K : PySem.W.Frag} {b : Addr} {H : Hp} {ys : List V} {ws : List Th} (hI : IsAll K b H ys ws) : ∀ (t : Tm) (v : V), t.ok (fun i => 0 ≤ i ∧ i < ws.length) → PutR K H ys v t → Is K b H v (t.putTh (wAt ws))
  | .var i, v, ho, h => by
    simp only [PutR] at h
    obtain ⟨u, hu, hI⟩ := hI.get h
    simp only [Tm.putTh, wAt]
    rw [List.getD_eq_getElem?_getD, hu]
    exact hI
  | .op x ts, v, ho, h => by
    simp only [PutR] at h
    obtain ⟨a, xs, rfl, h2, h3⟩ := h
    exact ⟨a, _, rfl, h2, .str x, xs, rfl, ⟨rfl, by have := nmd_nm ho.1; unfold nmd at this; simp at this; omega⟩, putRs_is hI ts xs ho.2.2 h3⟩
theorem putRs_is {K : PySem.W.Frag} {b : Addr} {H : Hp} {ys : List V} {ws : List Th} (hI : IsAll K b H ys ws) : ∀ (ts : List Tm) (vs : List V), Tm.oks (fun i => 0 ≤ i ∧ i < ws.length) ts → PutRs K H ys vs ts → IsAll K b H vs (Tm.putThs (wAt ws) ts)
  | [], vs, ho, h => by
    simp only [PutRs] at h
    rw [h]
    exact .nil
  | t :: ts, vs, ho, h => by
    simp only [PutRs] at h
    obtain ⟨z, zs, rfl, h1, h2⟩ := h
    exact .cons (putR_is hI t z ho.1 h1) (putRs_is hI ts zs ho.2 h2)
end
def sp_lputT (K : PySem.W.Frag) (d : Nat) : Sp := fun vs H Q _ => ∃ (v : V) (t : Tm) (c : Addr) (ys : List V), vs = [v, .ref c] ∧ Im K H v t.d ∧ H c = some (.lst ys) ∧ t.ok (fun i => 0 ≤ i ∧ i < ys.length) ∧ t.dep < d ∧
  ∀ v' H', Mv [] H H' → PutR K H' ys v' t → Q v' H'
def oddP : List PyData := [.none, .bool true, .bool false, .int (-1), .str "a", .str "", .tuple [.str "A"], .tuple [.str "a", .none], .list [.int 0], .tuple [.str "a", .int 0, .int 0, .int 0, .int 0], .tuple [], .tuple [.str "abcdefghi"], .tuple [.int 0], .dict []]
def sp_oddP14 (K : PySem.W.Frag) : Sp := fun vs H Q _ => ∃ (b : Addr), vs = [.ref b] ∧ Bag H b ∧ ∀ v (u : Th) H', Is K b H' v u → isTerm u = false → u.dep ≤ 1 → u.cnt ≤ 6 → Dr b H H' → Q v H'
section
variable {P : Program} {w : World} {K : PySem.W.Frag} {mg : Str → Option Value} {base : Heap}
end
end Fm
namespace Fm
open PySem PySem.Spec PyProof.Rows L2 SlX
mutual
theorem putTh_congr {f g : Int → Th} : ∀ t : Tm, (∀ i ∈ t.leaves, f i = g i) → t.putTh f = t.putTh g
  | .var i, h => by simpa [Tm.putTh] using h i (by simp [Tm.leaves])
  | .op x ts, h => by simp only [Tm.putTh, putThs_congr ts fun i hi => h i (by simpa [Tm.leaves] using hi)]
theorem putThs_congr {f g : Int → Th} : ∀ ts : List Tm, (∀ i ∈ Tm.leavesL ts, f i = g i) → Tm.putThs f ts = Tm.putThs g ts
  | [], _ => rfl
  | t :: ts, h => by simp only [Tm.putThs, putTh_congr t fun i hi => h i (by simp [Tm.leavesL, hi]), putThs_congr ts fun i hi => h i (by simp [Tm.leavesL, hi])]
end
mutual
theorem putTh_th {g : Int → Tm} : ∀ t : Tm, t.putTh (fun i => (g i).th) = (t.put g).th
  | .var i => by simp [Tm.putTh, Tm.put]
  | .op x ts => by simp only [Tm.putTh, Tm.put, Tm.th, putThs_th ts]
theorem putThs_th {g : Int → Tm} : ∀ ts : List Tm, Tm.putThs (fun i => (g i).th) ts = Tm.ths (Tm.puts g ts)
  | [] => by simp [Tm.putThs, Tm.puts, Tm.ths]
  | t :: ts => by simp only [Tm.putThs, Tm.puts, Tm.ths, putTh_th t, putThs_th ts]
end
mutual
theorem putTh_odd {f : Int → Th} {i : Int} (h : isTerm (f i) = false) : ∀ t : Tm, i ∈ t.leaves → isTerm (t.putTh f) = false
  | .var j, hi => by
    simp only [Tm.leaves, List.mem_singleton] at hi
    subst hi
    simpa [Tm.putTh] using h
  | .op x ts, hi => by
    simp only [Tm.putTh, isTerm]
    rw [putThs_odd h ts (by simpa [Tm.leaves] using hi)]
    simp
theorem putThs_odd {f : Int → Th} {i : Int} (h : isTerm (f i) = false) : ∀ ts : List Tm, i ∈ Tm.leavesL ts → isTerms (Tm.putThs f ts) = false
  | [], hi => by simp [Tm.leavesL] at hi
  | t :: ts, hi => by
    simp only [Tm.leavesL, List.mem_append] at hi
    simp only [Tm.putThs, isTerms]
    rcases hi with hi | hi
    · rw [putTh_odd h t hi]
      rfl
    · rw [putThs_odd h ts hi]
      simp
end
mutual
theorem putTh_cnt {f : Int → Th} {M : Nat} (hM : 2 ≤ M) : ∀ t : Tm, (∀ i ∈ t.leaves, (f i).cnt ≤ M) → (t.putTh f).cnt ≤ M * Tm.nod [t]
  | .var i, h => by
    rw [Tm.nod_var]
    simpa [Tm.putTh] using h i (by simp [Tm.leaves])
  | .op x ts, h => by
    have := putThs_cnt hM ts fun i hi => h i (by simpa [Tm.leaves] using hi)
    rw [Tm.nod_op, Nat.mul_add]
    simp only [Tm.putTh, Th.cnt, Th.cnts]
    omega
theorem putThs_cnt {f : Int → Th} {M : Nat} (hM : 2 ≤ M) : ∀ ts : List Tm, (∀ i ∈ Tm.leavesL ts, (f i).cnt ≤ M) → Th.cnts (Tm.putThs f ts) ≤ M * Tm.nod ts
  | [], _ => by simp [Tm.putThs, Th.cnts]
  | t :: ts, h => by
    have h1 := putTh_cnt hM t fun i hi => h i (by simp [Tm.leavesL, hi])
    have h2 := putThs_cnt hM ts fun i hi => h i (by simp [Tm.leavesL, hi])
    rw [nod_cons, Nat.mul_add]
    simp only [Tm.putThs, Th.cnts]
    omega
end
mutual
theorem putTh_dep {f : Int → Th} {m : Nat} : ∀ t : Tm, (∀ i ∈ t.leaves, (f i).dep ≤ m) → (t.putTh f).dep ≤ t.dep + m
  | .var i, h => by
    have := h i (by simp [Tm.leaves])
    simp only [Tm.putTh]
    omega
  | .op x ts, h => by
    have := putThs_dep ts fun i hi => h i (by simpa [Tm.leaves] using hi)
    simp only [Tm.putTh, Th.dep, Th.deps, Tm.dep]
    omega
theorem putThs_dep {f : Int → Th} {m : Nat} : ∀ ts : List Tm, (∀ i ∈ Tm.leavesL ts, (f i).dep ≤ m) → Th.deps (Tm.putThs f ts) ≤ Tm.deps ts + m
  | [], _ => by simp [Tm.putThs, Th.deps]
  | t :: ts, h => by
    have h1 := putTh_dep t fun i hi => h i (by simp [Tm.leavesL, hi])
    have h2 := putThs_dep ts fun i hi => h i (by simp [Tm.leavesL, hi])
    simp only [Tm.putThs, Th.deps, Tm.deps]
    omega
end
theorem wAt_ths {us : List Tm} {i : Int} (h0 : 0 ≤ i) (h1 : i < us.length) : wAt (Tm.ths us) i = (vat us i).th := by
  have hm := vat_some h0 h1
  unfold wAt
  rw [List.getD_eq_getElem?_getD, ths_map, List.getElem?_map, hm]
  rfl
structure DuF (ts : List Tm) : Prop where
  ok : Tm.oks (fun i => 0 ≤ i ∧ i < 4) ts
  dep : Tm.deps ts ≤ 30
  nod : Tm.nod ts ≤ 2000
  len : ts.length ≤ 10
structure OwF (us : List Tm) : Prop where
  len : us.length = 20
  ok : Tm.oks (fun i => 0 ≤ i ∧ i < 3) us
  dep : Tm.deps us ≤ 1
theorem one_nod {t : Tm} {R : Int → Prop} (h : t.ok R) (hd : t.dep ≤ 1) : Tm.nod [t] ≤ 4 := by
  cases t with
  | var i => rw [Tm.nod_var]; omega
  | op x ts =>
    simp only [Tm.dep] at hd
    have h3 : ts.length ≤ 3 := h.2.1
    have : ∀ l : List Tm, Tm.deps l ≤ 0 → Tm.nod l = l.length := by
      intro l
      induction l with
      | nil => intro _; rfl
      | cons a l ih =>
        intro hl
        simp only [Tm.deps] at hl
        rw [nod_cons, ih (by omega), List.length_cons]
        cases a with
        | var i => rw [Tm.nod_var]; omega
        | op y zs => simp only [Tm.dep] at hl; omega
    rw [Tm.nod_op, this ts (by omega)]
    omega
theorem OwF.cnt {us : List Tm} (h : OwF us) {i : Int} (h0 : 0 ≤ i) (h1 : i < 20) : (wAt (Tm.ths us) i).cnt ≤ 8 ∧ (wAt (Tm.ths us) i).dep ≤ 1 := by
  have hl := h.len
  have hm := vat_mem h0 (show i < us.length by omega)
  have ho := Tm.oks_iff.mp h.ok _ hm
  have hd := Tm.deps_le.mp h.dep _ hm
  rw [wAt_ths h0 (by omega)]
  have h1 := one_nod ho hd
  have h2 := th_nod (vat us i)
  unfold Tm.nod at h1
  simp only [Tm.sizes, Tm.lvs] at h1
  refine ⟨by omega, ?_⟩
  rw [tm_thdep]
  exact hd
mutual
theorem Tm.th_cntP {R : Int → Prop} : ∀ (n : Nat) (t : Tm), t.ok R → t.dep ≤ n → t.th.cnt + 1 ≤ 2 * 3 ^ n
  | 0, .var i, _, _ => by simp [Tm.th, Th.cnt]
  | 0, .op x ts, _, h => by simp [Tm.dep] at h
  | n + 1, .var i, _, _ => by
    have := Nat.one_le_pow (n + 1) 3 (by decide)
    simp only [Tm.th, Th.cnt]
    omega
  | n + 1, .op x ts, k, h => by
    have h1 := Tm.ths_cntP n ts k.2.2 (by simp only [Tm.dep] at h; omega)
    have h2 := Nat.one_le_pow n 3 (by decide)
    have h3 := k.2.1
    rw [Nat.pow_succ]
    simp only [Tm.th, Th.cnt, Th.cnts]
    have h4 : ts.length = 0 ∨ ts.length = 1 ∨ ts.length = 2 ∨ ts.length = 3 := by omega
    rcases h4 with e | e | e | e <;> (rw [e] at h1; omega)
theorem Tm.ths_cntP {R : Int → Prop} : ∀ (n : Nat) (ts : List Tm), Tm.oks R ts → Tm.deps ts ≤ n → Th.cnts (Tm.ths ts) + ts.length ≤ ts.length * (2 * 3 ^ n)
  | _, [], _, _ => by simp [Tm.ths, Th.cnts]
  | n, t :: ts, k, h => by
    simp only [Tm.deps] at h
    have h1 := Tm.th_cntP n t k.1 (by omega)
    have h2 := Tm.ths_cntP n ts k.2 (by omega)
    simp only [Tm.ths, Th.cnts, List.length_cons, Nat.add_mul]
    omega
end
section
variable {K : PySem.W.Frag} {H : Hp}
theorem Ims.take : ∀ {ds : List PyData} {vs : List V} (n : Nat), Ims K H vs ds → Ims K H (vs.take n) (ds.take n)
  | _, _, 0, _ => by simp; exact Ims.nil
  | [], _, n + 1, h => by rw [h.nilD]; exact Ims.nil
  | d :: ds, _, n + 1, h => by
    obtain ⟨v, vs, rfl, h1, h2⟩ := h.invD
    exact Ims.cons h1 (Ims.take n h2)
theorem Ims.drop : ∀ {ds : List PyData} {vs : List V} (n : Nat), Ims K H vs ds → Ims K H (vs.drop n) (ds.drop n)
  | _, _, 0, h => h
  | [], _, n + 1, h => by rw [h.nilD]; exact Ims.nil
  | d :: ds, _, n + 1, h => by
    obtain ⟨v, vs, rfl, h1, h2⟩ := h.invD
    exact Ims.drop n h2
end
theorem IsAll.setP {K : PySem.W.Frag} {b : Addr} {H : Hp} {v : V} {t : Th} : ∀ {ts : List Th} {vs : List V} (j : Nat), IsAll K b H vs ts → Is K b H v t → IsAll K b H (vs.set j v) (ts.set j t)
  | [], vs, j, h, k => by
    have h' : vs = [] := h
    rw [h']
    exact IsAll.nil
  | u :: ts, vs, 0, h, k => by
    obtain ⟨y, zs, rfl, h1, h2⟩ := h
    exact IsAll.cons k h2
  | u :: ts, vs, j + 1, h, k => by
    obtain ⟨y, zs, rfl, h1, h2⟩ := h
    exact IsAll.cons h1 (IsAll.setP j h2 k)
end Fm
namespace Fm
open PySem PySem.Spec PyProof.Rows L2 SlX
local macro_rules | `(tactic| walk_at "nn") => `(tactic| dsimp only [tC, tNil, tCons, tCB, tCall, gName, tSeq, tAsg, tPar, tDrop, tRet])
local macro_rules | `(tactic| walk_at "nc") => `(tactic| dsimp only [tC, tNil, tCons, tCB, tCall])
structure NmsP (H : Hp) (b nm : Addr) (xs : List Str) : Prop where
  at_ : H nm = some (.lst (xs.map V.str))
  ne : nm ≠ b
  len : xs.length = 3
  ok : ∀ x ∈ xs, Nm x
theorem NmsP.dr {H H' : Hp} {b nm : Addr} {xs : List Str} (h : NmsP H b nm xs) (d : Dr b H H') : NmsP H' b nm xs := ⟨d.get h.ne h.at_, h.ne, h.len, h.ok⟩
def sp_linst (K : PySem.W.Frag) : Sp := fun vs H Q _ => ∃ (b nm p : Addr) (ns : List Str) (xs : List V) (ts : List Tm), vs = [.ref b, .ref nm, .ref p] ∧ Bag H b ∧ NmsP H b nm ns ∧ SqT K H p xs ∧ Ims K H xs (Tm.ds ts) ∧ DuF ts ∧
  ∀ l vs H', Dr b H H' → H' l = some (.lst vs) → l ≠ b → (∀ v ∈ vs, ∃ o, PtV K b H' v o) → Q (.ref l) H'
theorem oks_snoc {R : Int → Prop} {ts : List Tm} {t : Tm} (h : Tm.oks R ts) (ht : t.ok R) : Tm.oks R (ts ++ [t]) := Tm.oks_iff.mpr fun u hu => (List.mem_append.mp hu).elim (Tm.oks_iff.mp h u) fun hu => by rw [List.mem_singleton.mp hu]; exact ht
theorem deps_snoc {n : Nat} {ts : List Tm} {t : Tm} (h : Tm.deps ts ≤ n) (ht : t.dep ≤ n) : Tm.deps (ts ++ [t]) ≤ n := Tm.deps_le.mpr fun u hu => (List.mem_append.mp hu).elim (Tm.deps_le.mp h u) fun hu => by rw [List.mem_singleton.mp hu]; exact ht
structure TF (us : List Tm) (n : Nat) : Prop where
  ok : ∀ u ∈ us, u.ok (fun i => 0 ≤ i ∧ i.natAbs < 10 ^ 40) ∧ u.dep ≤ 50
  cnt : Th.cnts (Tm.ths us) ≤ n
theorem cnts_app : ∀ a b : List Tm, Th.cnts (Tm.ths (a ++ b)) = Th.cnts (Tm.ths a) + Th.cnts (Tm.ths b)
  | [], b => by simp [Tm.ths, Th.cnts]
  | t :: a, b => by simp only [List.cons_append, Tm.ths, Th.cnts, cnts_app a b]; omega
theorem TF.app {a b : List Tm} {n m : Nat} (h : TF a n) (h' : TF b m) : TF (a ++ b) (n + m) :=
  ⟨fun u hu => (List.mem_append.mp hu).elim (h.ok u) (h'.ok u), by rw [cnts_app]; have := h.cnt; have := h'.cnt; omega⟩
theorem TF.sub {a b : List Tm} {n : Nat} (h : TF (a ++ b) n) : TF a n ∧ TF b n := by
  have hc := h.cnt
  rw [cnts_app] at hc
  exact ⟨⟨fun u hu => h.ok u (List.mem_append.mpr (.inl hu)), by omega⟩, ⟨fun u hu => h.ok u (List.mem_append.mpr (.inr hu)), by omega⟩⟩
theorem TF.take {a : List Tm} {n : Nat} (h : TF a n) (j : Nat) : TF (a.take j) n := (TF.sub (b := a.drop j) (by rwa [List.take_append_drop])).1
theorem TF.drop {a : List Tm} {n : Nat} (h : TF a n) (j : Nat) : TF (a.drop j) n := (TF.sub (a := a.take j) (by rwa [List.take_append_drop])).2
theorem TF.mono {a : List Tm} {n m : Nat} (h : TF a n) (hm : n ≤ m) : TF a m := ⟨h.ok, Nat.le_trans h.cnt hm⟩
mutual
theorem Is.relist {K : PySem.W.Frag} {b : Addr} {H H' : Hp} (h1 : ∀ a xs, SqT K H a xs → SqT K H' a xs) (h2 : ∀ a xs, H a = some (.lst xs) → ∃ ys, H' a = some (.lst ys)) (h3 : ∀ a kvs, H a = some (.dK kvs) → H' a = some (.dK kvs)) : ∀ (t : Th) (v : V), Is K b H v t → Is K b H' v t
  | .non, v, h => h
  | .bl _, v, h => h
  | .int _, v, h => h
  | .str _, v, h => h
  | .tup ts, v, h => by
    obtain ⟨a, xs, e, hs, hI⟩ := h
    exact ⟨a, xs, e, h1 _ _ hs, IsAll.relist h1 h2 h3 ts xs hI⟩
  | .lst, v, h => by
    obtain ⟨a, xs, e, hb, hs⟩ := h
    obtain ⟨ys, hy⟩ := h2 _ _ hs
    exact ⟨a, ys, e, hb, hy⟩
  | .dct, v, h => by
    obtain ⟨a, xs, e, hb, hs⟩ := h
    exact ⟨a, xs, e, hb, h3 _ _ hs⟩
theorem IsAll.relist {K : PySem.W.Frag} {b : Addr} {H H' : Hp} (h1 : ∀ a xs, SqT K H a xs → SqT K H' a xs) (h2 : ∀ a xs, H a = some (.lst xs) → ∃ ys, H' a = some (.lst ys)) (h3 : ∀ a kvs, H a = some (.dK kvs) → H' a = some (.dK kvs)) : ∀ (ts : List Th) (vs : List V), IsAll K b H vs ts → IsAll K b H' vs ts
  | [], vs, h => h
  | t :: ts, vs, h => by
    obtain ⟨y, ys, e, h4, h5⟩ := h
    exact ⟨y, ys, e, Is.relist h1 h2 h3 t y h4, IsAll.relist h1 h2 h3 ts ys h5⟩
end
theorem PtV.dr {K : PySem.W.Frag} {b : Addr} {H H' : Hp} {v : V} {o : Option (List Tm)} (h : PtV K b H v o) (d : Dr b H H') : PtV K b H' v o := by
  cases h with
  | tms h1 h2 h3 h4 h5 => exact .tms (d.mv.sqT h1) (h2.mv d.mv) h3 h4 h5
  | odd h1 h2 h3 h4 => exact .odd (h1.dr d) h2 h3 h4
section
variable {P : Program} {w : World} {K : PySem.W.Frag} {mg : Str → Option Value} {base : Heap}
end
end Fm
namespace Fm
open PySem PySem.Spec PyProof.Rows L2 SlX
local macro_rules | `(tactic| walk_at "nn") => `(tactic| dsimp only [tC, tNil, tCons, tCB, tCall, gName, tSeq, tAsg, tPar, tDrop, tRet])
local macro_rules | `(tactic| walk_at "nc") => `(tactic| dsimp only [tC, tNil, tCons, tCB, tCall])
def RcB (K : PySem.W.Frag) (b C : Addr) (H : Hp) (v : V) : Prop := ∃ rows, RcV K b C H v rows ∧ areT rows = false ∧ ∀ r, rows = some r → r.2.length ≤ 90000 ∧ ∀ t ∈ r.2, t.cnt ≤ 90000
theorem RcB.mv0 {K : PySem.W.Frag} {b C : Addr} {H H' : Hp} {v : V} (h : RcB K b C H v) (m : Mv [] H H') : RcB K b C H' v := let ⟨r, h1, h2⟩ := h; ⟨r, h1.mv0 m, h2⟩
def sp_gthingsP (K : PySem.W.Frag) (C : Addr) : Sp := fun vs H Q _ => ∃ (b : Addr), vs = [] ∧ (∃ o, H b = some o) ∧ ∀ p (zs : List V) H', Mv [] H H' → H p = none → H' p = some (.lst zs) → zs.length = 4 →
  (∀ z ∈ zs, ∃ t, Is K b H' z t ∧ t.cnt ≤ 90000 ∧ t.dep ≤ 55 ∧ (∀ ts, t = .tup ts → isTerms ts = false) ∧ RcB K b C H' z) → Q (.ref p) H'
def sp_madeB (K : PySem.W.Frag) (C : Addr) : Sp := fun vs H Q _ => ∃ (v : V) (b : Addr), vs = [v] ∧ RcB K b C H v ∧ ∀ r H', Mv [] H H' → Im K H' r (.tuple [.str "wrong", .int 0]) → Q r H'
def sp_chainP (K : PySem.W.Frag) : Sp := fun vs H Q _ => ∃ (b nm : Addr) (ns : List Str), vs = [.ref b, .ref nm] ∧ Bag H b ∧ NmsP H b nm ns ∧ ∀ v (t : Tm) H', Im K H' v t.d → t.ok (fun i => 0 ≤ i ∧ i < 4) → t.dep ≤ 21 → Tm.nod [t] ≤ 50 → Dr b H H' → Q v H'
section
variable {P : Program} {w : World} {K : PySem.W.Frag} {mg : Str → Option Value} {base : Heap}
end
end Fm
namespace Fm
open PySem PySem.Spec PyProof.Rows L2 SlX
local macro_rules | `(tactic| walk_at "nn") => `(tactic| dsimp only [tC, tNil, tCons, tCB, tCall, gName, tSeq, tAsg, tPar, tDrop, tRet])
local macro_rules | `(tactic| walk_at "nc") => `(tactic| dsimp only [tC, tNil, tCons, tCB, tCall])
def oddT : List PyData := [.none, .int (-1), .bool true, .str "a", .tuple [.str "A"], .tuple [], .tuple [.str "a", .none], .list [.int 0], .tuple [.str "a", .int 0, .int 0, .int 0, .int 0]]
def sp_lodd (K : PySem.W.Frag) (C : Addr) : Sp := fun vs H Q _ => ∃ (b l : Addr) (xs : List V) (ts : List Tm), vs = [.ref b, .ref l] ∧ Bag H b ∧ H l = some (.lst xs) ∧ l ≠ b ∧ Ims K H xs (Tm.ds ts) ∧ PtF ts ∧ ∀ v H', Dr b H H' → RcB K b C H' v → Q v H'
section
variable {P : Program} {w : World} {K : PySem.W.Frag} {mg : Str → Option Value} {base : Heap}
end
end Fm
namespace Fm
open PySem PySem.Spec PyProof.Rows L2 SlX
local macro_rules | `(tactic| walk_at "nn") => `(tactic| dsimp only [tC, tNil, tCons, tCB, tCall, gName, tSeq, tAsg, tPar, tDrop, tRet])
local macro_rules | `(tactic| walk_at "nc") => `(tactic| dsimp only [tC, tNil, tCons, tCB, tCall])
theorem RcB.dr {K : PySem.W.Frag} {b C : Addr} {H H' : Hp} {v : V} (h : RcB K b C H v) (m : Dr b H H') (hB : Bag H b) : RcB K b C H' v := by
  obtain ⟨r, hr, hh⟩ := h
  refine ⟨r, ?_, hh⟩
  cases hr with
  | lst h0 h1 h2 => exact .lst h0 (m.get h0 h1) (h2.dr m)
  | tup h1 h2 => exact .tup (m.mv.sqT h1) (h2.dr m)
  | odd h h1 h2 => exact .odd (h.dr m) h1 h2
  | ins h => exact .ins (Slt.dr h m hB)
section
variable {P : Program} {w : World} {K : PySem.W.Frag} {mg : Str → Option Value} {base : Heap}
end
end Fm
namespace Fm
open PySem PySem.Spec PyProof.Rows L2 SlX
mutual
theorem nod_dep {R : Int → Prop} : ∀ (n : Nat) (t : Tm), t.ok R → t.dep ≤ n → 2 * Tm.nod [t] + 1 ≤ 3 ^ (n + 1)
  | n, .var i, _, _ => by
    have := Nat.one_le_pow n 3 (by decide)
    rw [Tm.nod_var, Nat.pow_succ]
    omega
  | 0, .op x ts, _, h => by simp [Tm.dep] at h
  | n + 1, .op x ts, k, h => by
    have h1 := nods_dep n ts k.2.2 (by simp only [Tm.dep] at h; omega)
    have h3 := k.2.1
    have h4 := Nat.one_le_pow (n + 1) 3 (by decide)
    rw [Tm.nod_op, Nat.pow_succ]
    have h4 : ts.length = 0 ∨ ts.length = 1 ∨ ts.length = 2 ∨ ts.length = 3 := by omega
    rcases h4 with e | e | e | e <;> (rw [e] at h1; omega)
theorem nods_dep {R : Int → Prop} : ∀ (n : Nat) (ts : List Tm), Tm.oks R ts → Tm.deps ts ≤ n → 2 * Tm.nod ts + ts.length ≤ ts.length * 3 ^ (n + 1)
  | _, [], _, _ => by simp [Tm.nod, Tm.sizes, Tm.lvs]
  | n, t :: ts, k, h => by
    simp only [Tm.deps] at h
    have h1 := nod_dep n t k.1 (by omega)
    have h2 := nods_dep n ts k.2 (by omega)
    rw [nod_cons]
    simp only [List.length_cons, Nat.add_mul]
    omega
end
mutual
theorem nod_cnt : ∀ t : Tm, Tm.nod [t] ≤ t.th.cnt
  | .var i => by rw [Tm.nod_var]; simp [Tm.th, Th.cnt]
  | .op x ts => by
    have := nods_cnt ts
    rw [Tm.nod_op]
    simp only [Tm.th, Th.cnt, Th.cnts]
    omega
theorem nods_cnt : ∀ ts : List Tm, Tm.nod ts ≤ Th.cnts (Tm.ths ts)
  | [] => by simp [Tm.nod, Tm.sizes, Tm.lvs]
  | t :: ts => by
    have h1 := nod_cnt t
    have h2 := nods_cnt ts
    rw [nod_cons]
    simp only [Tm.ths, Th.cnts]
    omega
end
mutual
theorem cst_nod : ∀ t : Tm, t.cst + 2 ≤ 96 * Tm.nod [t]
  | .var i => by rw [Tm.nod_var]; simp [Tm.cst]
  | .op x ts => by
    have := csts_nod ts
    rw [Tm.nod_op]
    simp only [Tm.cst]
    omega
theorem csts_nod : ∀ ts : List Tm, Tm.csts ts ≤ 96 * Tm.nod ts
  | [] => by simp [Tm.csts]
  | t :: ts => by
    have h1 := cst_nod t
    have h2 := csts_nod ts
    rw [nod_cons]
    simp only [Tm.csts]
    omega
end
theorem lvs_nod (ts : List Tm) : Tm.lvs ts ≤ Tm.nod ts := by
  unfold Tm.nod
  omega
structure HaP (hs : List Tm) : Prop where
  ok : Tm.oks (fun i => 0 ≤ i ∧ i.natAbs < 10 ^ 40) hs
  dep : Tm.deps hs ≤ 21
  nod : Tm.nod hs ≤ 600
  len : hs.length ≤ 6
  few : ∃ fw : List Int, fw.length ≤ 4 ∧ ∀ i ∈ Tm.leavesL hs, i ∈ fw
theorem HaP.colF {hs : List Tm} (h : HaP hs) : ColF hs := fun u hu => ⟨Tm.oks_iff.mp h.ok u hu, Nat.le_trans (Tm.deps_le.mp h.dep u hu) (by decide)⟩
theorem HaP.wl {hs : List Tm} (h : HaP hs) : fineAll (Tm.ds hs) ∧ PyData.depthAll (Tm.ds hs) ≤ 21 ∧ wls (Tm.ds hs) ≤ 90000 := by
  have h1 := csts_nod hs
  have h2 := lvs_nod hs
  have h3 := h.nod
  refine ⟨fine_ds (fun _ h => h.2) hs h.ok, by rw [depth_ds]; exact h.dep, Nat.le_trans (wl_ds hs h.ok) (by omega)⟩
theorem HaP.due {hs : List Tm} (h : HaP hs) : DuF (genL hs []) ∧ HaP (genL hs []) := by
  obtain ⟨fw, f1, f2⟩ := h.few
  obtain ⟨h1, h2, h3⟩ := genL_num (rest := []) h.ok
  have hc : (ordg (Gt.labs (skL hs 0 (([] : List (List Tm)).map (Tm.op ""))))).length ≤ 4 := by
    rw [List.map_nil, skL_nil, Gt.labs_maps, Tm.labs_gts]
    rw [ordg_map (f := fun i => [Tm.var i]) fun x _ y _ e => by simpa using e]
    rw [List.length_map]
    exact Nat.le_trans (nd_few (ordg_nd _) fun k hk => f2 k (ordg_mem.mp hk)) f1
  have h4 : Tm.oks (fun i => 0 ≤ i ∧ i < 4) (genL hs []) := Tm.oks_iff.mpr fun t ht => Tm.ok_on t (Tm.oks_iff.mp h1 t ht) fun i hi => by
    have := Tm.ok_leaves t (Tm.oks_iff.mp h1 t ht) i hi
    omega
  have hd := h.dep
  have hn := h.nod
  have hl := h.len
  have hlen := genL_len hs []
  refine ⟨⟨h4, by omega, by omega, by omega⟩, ⟨Tm.oks_iff.mpr fun t ht => Tm.ok_on t (Tm.oks_iff.mp h4 t ht) fun i hi => ?_, by omega, by omega, by omega, [0, 1, 2, 3], by decide, fun i hi => ?_⟩⟩
  · have := Tm.ok_leaves t (Tm.oks_iff.mp h4 t ht) i hi
    exact ⟨this.1, Nat.lt_of_lt_of_le (show i.natAbs < 100 by omega) (by decide)⟩
  · have := Tm.oks_leaves _ h4 i hi
    have h5 : i = 0 ∨ i = 1 ∨ i = 2 ∨ i = 3 := by omega
    simp only [List.mem_cons, List.not_mem_nil, or_false]
    exact h5
theorem DuF.ptC {ts : List Tm} (h : DuF ts) : PtC ts := ⟨Tm.oks_iff.mpr fun t ht => Tm.ok_on t (Tm.oks_iff.mp h.ok t ht) fun i hi => by
  have := Tm.ok_leaves t (Tm.oks_iff.mp h.ok t ht) i hi
  omega, Nat.le_trans h.dep (by decide), Nat.le_trans h.nod (by decide)⟩
structure TsP (ts : List Tm) : Prop where
  ok : Tm.oks (fun i => 0 ≤ i ∧ i < 4) ts
  dep : Tm.deps ts ≤ 21
  nod : Tm.nod ts ≤ 250
  len : ts.length ≤ 5
def farL : List Tm := [.var 9, .var 5, .var (10 ^ 39), .var 9]
theorem HaP.shw {hs : List Tm} (h : HaP hs) : Shw (tsD hs) ∧ Shw (.list (Tm.ds hs)) := by
  obtain ⟨h1, h2, h3⟩ := h.wl
  exact ⟨⟨h1, by simp only [tsD, PyData.depth]; omega, by simp only [tsD, Fm.wl]; omega⟩, ⟨h1, by simp only [PyData.depth]; omega, by simp only [Fm.wl]; omega⟩⟩
end Fm
namespace Fm
open PySem PySem.Spec PyProof.Rows L2 SlX
structure RowF (wd : Nat) (r : List Tm) : Prop where
  ok : Tm.oks (fun i => 0 ≤ i ∧ i < 3) r
  dep : Tm.deps r ≤ 4
  len : r.length = wd
def Nigh (first r : List Tm) : Prop := ∃ f : Int → Tm, ∀ (k : Nat) (t u : Tm), first[k]? = some t → r[k]? = some u → u = t.put f ∨ u.dep ≤ 2
structure RowsF (wd : Nat) (first : List Tm) (rest : List (List Tm)) : Prop where
  wide : wd ≤ 4
  row : ∀ r ∈ first :: rest, RowF wd r
  nigh : ∀ r ∈ rest, Nigh first r
  few : rest.length ≤ 3
theorem nd_fewC : ∀ {ks l : List (List Tm)}, ks.Nodup → (∀ k ∈ ks, k ∈ l) → ks.length ≤ l.length
  | [], l, _, _ => Nat.zero_le l.length
  | k :: ks, l, h, hs => by
    have hn := List.nodup_cons.mp h
    have hk := hs k (by simp)
    have h1 := nd_fewC (l := l.erase k) hn.2 fun j hj => by
      have hjk : j ≠ k := fun e => hn.1 (by rw [← e]; exact hj)
      exact (List.mem_erase_of_ne hjk).mpr (hs j (by simp [hj]))
    rw [List.length_erase_of_mem hk] at h1
    have hp : 0 < l.length := List.length_pos_of_mem hk
    simp only [List.length_cons]
    omega
theorem labs_len {α : Type} {B : Nat} : ∀ {gs : List (Gt α)}, (∀ g ∈ gs, g.lab.length ≤ B) → (Gt.labs gs).length ≤ gs.length * B
  | [], _ => by simp [Gt.labs]
  | g :: gs, h => by
    have h1 := h g List.mem_cons_self
    have h2 := labs_len (gs := gs) fun k hk => h k (List.mem_cons_of_mem _ hk)
    simp only [Gt.labs, List.length_append, List.length_cons, Nat.add_mul]
    omega
theorem skC_few {R : Int → Prop} : ∀ (n : Nat) (c : List Tm) (u : Tm), u ∈ c → u.ok R → u.dep ≤ n → (skC c).lab.length ≤ 3 ^ n
  | n, c, u, hu, ho, hd => by
    have hne : c ≠ [] := fun z => by rw [z] at hu; cases hu
    have h1 := Nat.one_le_pow n 3 (by decide)
    by_cases h : ∃ x m, ∀ v ∈ c, Tm.hd v = some (x, m)
    · obtain ⟨x, m, h⟩ := h
      have hh := h u hu
      cases u with
      | var i => cases hh
      | op y us =>
        simp only [Tm.hd, Option.some.injEq, Prod.mk.injEq] at hh
        obtain ⟨n, rfl⟩ : ∃ k, n = k + 1 := ⟨n - 1, by simp only [Tm.dep] at hd; omega⟩
        have hm : m ≤ 3 := by have := ho.2.1; omega
        rw [skC_same hne h, Gt.lab]
        refine Nat.le_trans (labs_len (B := 3 ^ n) fun g hg => ?_) ?_
        · obtain ⟨k, hk, rfl⟩ := List.mem_map.mp hg
          have hk := List.mem_range.mp hk
          have hlt : k < us.length := by omega
          have harg : (Tm.op y us).arg k = us[k] := by rw [Tm.arg, List.getD_eq_getElem?_getD, List.getElem?_eq_getElem hlt]; rfl
          refine skC_few (R := R) n _ ((Tm.op y us).arg k) (List.mem_map.mpr ⟨_, hu, rfl⟩) ?_ ?_
          · rw [harg]
            exact Tm.oks_iff.mp ho.2.2 _ (List.getElem_mem hlt)
          · rw [harg]
            simp only [Tm.dep] at hd
            exact Tm.deps_le.mp (show Tm.deps us ≤ n by omega) _ (List.getElem_mem hlt)
        · rw [List.length_map, List.length_range, Nat.pow_succ, Nat.mul_comm (3 ^ n)]
          exact Nat.mul_le_mul_right _ hm
    · rw [skC_leaf fun x m z => h ⟨x, m, z⟩, Gt.lab]
      exact h1
mutual
theorem skT_put (fs : List (Int → Tm)) : ∀ t : Tm, skT t (fs.map fun f => t.put f) = t.gt.map (fun i => Tm.var i :: fs.map fun f => f i)
  | .var i => rfl
  | .op x ts => by
    rw [skT, if_pos, skL_put fs ts 0 x ts rfl]
    · rfl
    · rw [List.all_eq_true]
      intro u hu
      obtain ⟨f, hf, rfl⟩ := List.mem_map.mp hu
      exact decide_eq_true (by simp [Tm.put, Tm.hd, Tm.puts_map])
theorem skL_put (fs : List (Int → Tm)) : ∀ (ts : List Tm) (k : Nat) (x : Str) (ws : List Tm), ws.drop k = ts → skL ts k (fs.map fun f => (Tm.op x ws).put f) = Gt.maps (fun i => Tm.var i :: fs.map fun f => f i) (Tm.gts ts)
  | [], k, x, ws, _ => rfl
  | t :: ts, k, x, ws, h => by
    obtain ⟨hg, hr⟩ := getD_drop h
    have hk : ws[k]? = some t := by
      have := congrArg (fun l => l[0]?) h
      simpa using this
    simp only [skL, Tm.gts, Gt.maps]
    rw [skL_put fs ts (k + 1) x ws hr, ← skT_put fs t]
    congr 2
    rw [List.map_map]
    refine List.map_congr_left fun f hf => ?_
    simp [Tm.put, Tm.arg, Tm.puts_map, List.getD_eq_getElem?_getD, hk]
end
theorem RowF.nod {wd : Nat} {r : List Tm} (h : RowF wd r) (hw : wd ≤ 5) : Tm.nod r ≤ 610 := by
  have h1 := nods_dep 4 r h.ok h.dep
  rw [h.len] at h1
  have : wd * 3 ^ (4 + 1) ≤ 5 * 3 ^ (4 + 1) := Nat.mul_le_mul_right _ hw
  omega
theorem RowF.colF {wd : Nat} {r : List Tm} (h : RowF wd r) : ColF r := fun u hu => by
  have h1 := Tm.oks_iff.mp h.ok u hu
  refine ⟨Tm.ok_on u h1 fun i hi => ?_, Nat.le_trans (Tm.deps_le.mp h.dep u hu) (by decide)⟩
  have := Tm.ok_leaves u h1 i hi
  exact ⟨this.1, Nat.lt_of_lt_of_le (show i.natAbs < 100 by omega) (by decide)⟩
theorem RowF.ptO {wd : Nat} {r : List Tm} (h : RowF wd r) (hw : wd ≤ 5) : PtO r := ⟨h.colF, Nat.le_trans (h.nod hw) (by decide)⟩
structure GenF (ts : List Tm) : Prop where
  ok : Tm.oks (fun i => 0 ≤ i ∧ i < 60) ts
  dep : Tm.deps ts ≤ 4
  nod : Tm.nod ts ≤ 610
theorem GenF.ptC {ts : List Tm} (h : GenF ts) : PtC ts := ⟨h.ok, Nat.le_trans h.dep (by decide), Nat.le_trans h.nod (by decide)⟩
theorem GenF.colF {ts : List Tm} (h : GenF ts) : ColF ts := fun u hu => by
  have h1 := Tm.oks_iff.mp h.ok u hu
  refine ⟨Tm.ok_on u h1 fun i hi => ?_, Nat.le_trans (Tm.deps_le.mp h.dep u hu) (by decide)⟩
  have := Tm.ok_leaves u h1 i hi
  exact ⟨this.1, Nat.lt_of_lt_of_le (show i.natAbs < 100 by omega) (by decide)⟩
theorem GenF.ptO {ts : List Tm} (h : GenF ts) : PtO ts := ⟨h.colF, Nat.le_trans h.nod (by decide)⟩
theorem GenF.shw {ts : List Tm} (h : GenF ts) : Shw (tsD ts) := by
  have ho : Tm.oks (fun i => 0 ≤ i ∧ i.natAbs < 10 ^ 40) ts := Tm.oks_iff.mpr fun t ht => (h.colF t ht).1
  have h1 := csts_nod ts
  have h2 := lvs_nod ts
  have h3 := h.nod
  have h4 := h.dep
  refine ⟨fine_ds (fun _ h => h.2) ts ho, ?_, ?_⟩
  · simp only [tsD, PyData.depth, depth_ds]
    omega
  · have := wl_ds ts ho
    simp only [tsD, Fm.wl]
    omega
theorem RowsF.labels {wd : Nat} {first : List Tm} {rest : List (List Tm)} (h : RowsF wd first rest) : (ordg (Gt.labs (skL first 0 (rest.map (Tm.op ""))))).length ≤ 39 := by
  have hl := (h.row first List.mem_cons_self).len
  obtain ⟨F, hF⟩ : ∃ F : List Tm → Int → Tm, ∀ r ∈ rest, ∀ (k : Nat) (t u : Tm), first[k]? = some t → r[k]? = some u → u = t.put (F r) ∨ u.dep ≤ 2 := by
    classical
    refine ⟨fun r => if hr : r ∈ rest then Classical.choose (h.nigh r hr) else fun i => .var i, fun r hr => ?_⟩
    simp only [dif_pos hr]
    exact Classical.choose_spec (h.nigh r hr)
  rw [skL_cols]
  let cols3 : List (List Tm) := ([0, 1, 2] : List Int).map fun i => Tm.var i :: rest.map fun r => F r i
  let short : Nat → List (List Tm) := fun k => if (skC (colAt (first :: rest) k)).lab.length ≤ 9 then (skC (colAt (first :: rest) k)).lab else []
  have hfw : ∀ l ∈ Gt.labs ((List.range first.length).map fun k => skC (colAt (first :: rest) k)), l ∈ cols3 ++ ((List.range first.length).map short).flatten := fun l hlm => by
    obtain ⟨g, hg, hlm⟩ := labs_mem.mp hlm
    obtain ⟨k, hk, rfl⟩ := List.mem_map.mp hg
    have hk' := List.mem_range.mp hk
    by_cases hs : (skC (colAt (first :: rest) k)).lab.length ≤ 9
    · refine List.mem_append.mpr (.inr (List.mem_flatten.mpr ⟨short k, List.mem_map.mpr ⟨k, hk, rfl⟩, ?_⟩))
      show l ∈ (if _ then _ else _)
      rw [if_pos hs]
      exact hlm
    · refine List.mem_append.mpr (.inl ?_)
      obtain ⟨t, ht⟩ : ∃ t, first[k]? = some t := ⟨_, List.getElem?_eq_getElem hk'⟩
      have hcol : colAt (first :: rest) k = t :: (rest.map F).map fun f => t.put f := by
        unfold colAt
        rw [List.map_cons, List.map_map, List.getD_eq_getElem?_getD, ht]
        congr 1
        refine List.map_congr_left fun r hr => ?_
        have hrl := (h.row r (List.mem_cons_of_mem _ hr)).len
        have hkr : k < r.length := by omega
        rw [List.getD_eq_getElem?_getD, List.getElem?_eq_getElem hkr]
        rcases hF r hr k t _ ht (List.getElem?_eq_getElem hkr) with e | e
        · exact e
        · refine absurd ?_ hs
          refine skC_few (R := fun i => 0 ≤ i ∧ i < 3) 2 _ r[k] ?_ (Tm.oks_iff.mp (h.row r (List.mem_cons_of_mem _ hr)).ok _ (List.getElem_mem hkr)) e
          unfold colAt
          refine List.mem_map.mpr ⟨r, List.mem_cons_of_mem _ hr, ?_⟩
          rw [List.getD_eq_getElem?_getD, List.getElem?_eq_getElem hkr]
          rfl
      rw [hcol, skC, skT_put, Gt.lab_map, Tm.lab_gt] at hlm
      obtain ⟨i, hi, rfl⟩ := List.mem_map.mp hlm
      have := Tm.ok_leaves t (Tm.oks_iff.mp (h.row first List.mem_cons_self).ok t (List.mem_of_getElem? ht)) i hi
      refine List.mem_map.mpr ⟨i, ?_, by rw [List.map_map]; rfl⟩
      have h3 : i = 0 ∨ i = 1 ∨ i = 2 := by omega
      simpa using h3
  refine Nat.le_trans (nd_fewC (ordg_nd _) fun l hl => hfw l (ordg_mem.mp hl)) ?_
  have hsh : ∀ ks : List Nat, ((ks.map short).flatten).length ≤ ks.length * 9 := fun ks => by
    induction ks with
    | nil => simp
    | cons k ks ih =>
      have : (short k).length ≤ 9 := by
        show (if _ then _ else _ : List (List Tm)).length ≤ 9
        split
        · assumption
        · simp
      simp only [List.map_cons, List.flatten_cons, List.length_append, List.length_cons, Nat.add_mul]
      omega
  have h1 := hsh (List.range first.length)
  rw [List.length_range, hl] at h1
  have h2 := h.wide
  rw [List.length_append, hl]
  have h3 : cols3.length = 3 := rfl
  omega
theorem RowsF.gen {wd : Nat} {first : List Tm} {rest : List (List Tm)} (h : RowsF wd first rest) : GenF (genR wd (first :: rest)) := by
  have hr := h.row first List.mem_cons_self
  have e := genL_R first rest
  rw [hr.len] at e
  rw [← e]
  obtain ⟨h1, h2, h3⟩ := genL_num (rest := rest) hr.ok
  have h4 := h.labels
  have h5 := hr.dep
  have h6 := hr.nod (Nat.le_trans h.wide (by decide))
  refine ⟨Tm.oks_iff.mpr fun t ht => Tm.ok_on t (Tm.oks_iff.mp h1 t ht) fun i hi => ?_, by omega, by omega⟩
  have := Tm.ok_leaves t (Tm.oks_iff.mp h1 t ht) i hi
  omega
theorem RowsF.part {wd : Nat} {first : List Tm} {rest rest' : List (List Tm)} (h : RowsF wd first rest) (hs : ∀ r ∈ rest', r ∈ rest) (hl : rest'.length ≤ 3) : RowsF wd first rest' :=
  ⟨h.wide, fun r hr => h.row r (by
    rcases List.mem_cons.mp hr with rfl | hr
    · exact List.mem_cons_self
    · exact List.mem_cons_of_mem _ (hs r hr)), fun r hr => h.nigh r (hs r hr), hl⟩
theorem RowsF.own {wd : Nat} {first : List Tm} {rest : List (List Tm)} (h : RowsF wd first rest) {r : List Tm} (hr : r ∈ first :: rest) : GenF (canon (Tm.gts r)) := by
  have h1 : RowsF wd r [] := ⟨h.wide, fun s hs => by rw [List.mem_singleton.mp hs]; exact h.row r hr, fun s hs => (by cases hs), by simp⟩
  have := h1.gen
  rw [← (h.row r hr).len, genR_one] at this
  exact this
end Fm
namespace Fm
open PySem PySem.Spec PyProof.Rows L2 SlX
local macro_rules | `(tactic| walk_at "nn") => `(tactic| dsimp only [tC, tNil, tCons, tCB, tCall, gName, tSeq, tAsg, tPar, tDrop, tRet])
local macro_rules | `(tactic| walk_at "nc") => `(tactic| dsimp only [tC, tNil, tCons, tCB, tCall])
theorem ColsAt.dr {K : PySem.W.Frag} {S : List Addr} {b : Addr} {H H' : Hp} (hb : b ∈ S) (d : Dr b H H') {ks : List V} {cs : List (List Tm)} (h : ColsAt K S H ks cs) : ColsAt K S H' ks cs :=
  paired_imp (fun v c ⟨a, xs, h1, h2, h3, h4⟩ => ⟨a, xs, h1, h2, d.get (fun z => h2 (z ▸ hb)) h3, h4.mv d.mv⟩) h
theorem Ims.setP {K : PySem.W.Frag} {H : Hp} : ∀ {ds : List PyData} {vs : List V} {v : V} {d : PyData} (i : Nat), Ims K H vs ds → Im K H v d → Ims K H (vs.set i v) (ds.set i d)
  | [], _, _, _, _, h, _ => by rw [h.nilD]; exact .nil
  | d :: ds, _, _, _, 0, h, hv => by
    obtain ⟨v, vs', rfl, h1, h2⟩ := h.invD
    exact .cons hv h2
  | d :: ds, _, _, _, i + 1, h, hv => by
    obtain ⟨v, vs', rfl, h1, h2⟩ := h.invD
    exact .cons h1 (Ims.setP i h2 hv)
theorem row_put {wd : Nat} {first us : List Tm} (h : RowF wd first) (hd : Tm.deps first ≤ 3) (hu : Tm.oks (fun i => 0 ≤ i ∧ i < 3) us) (hud : Tm.deps us ≤ 1) (hl : us.length = 3) : RowF wd (first.map (Tm.put (vat us))) ∧ Nigh first (first.map (Tm.put (vat us))) := by
  have hv : ∀ i, 0 ≤ i ∧ i < 3 → vat us i ∈ us := fun i hi => vat_mem hi.1 (by omega)
  refine ⟨⟨?_, ?_, by rw [List.length_map, h.len]⟩, vat us, fun k t u ht hu => .inl ?_⟩
  · rw [← Tm.puts_map]
    exact Tm.oks_puts (fun i hi => Tm.oks_iff.mp hu _ (hv i hi)) first h.ok
  · rw [← Tm.puts_map]
    have := Tm.deps_puts (n := 1) (fun i hi => Tm.deps_le.mp hud _ (hv i hi)) first h.ok
    omega
  · rw [List.getElem?_map, ht] at hu
    cases hu
    rfl
theorem row_set {wd : Nat} {first r : List Tm} {t : Tm} (h : RowF wd r) (hn : Nigh first r) (ht : t.ok (fun i => 0 ≤ i ∧ i < 3)) (hd : t.dep ≤ 2) (j : Nat) : RowF wd (r.set j t) ∧ Nigh first (r.set j t) := by
  obtain ⟨f, hf⟩ := hn
  refine ⟨⟨Tm.oks_iff.mpr fun u hu => ?_, Tm.deps_le.mpr fun u hu => ?_, by rw [List.length_set, h.len]⟩, f, fun k a u ha hu => ?_⟩
  · rcases List.mem_or_eq_of_mem_set hu with hu | rfl
    · exact Tm.oks_iff.mp h.ok u hu
    · exact ht
  · rcases List.mem_or_eq_of_mem_set hu with hu | rfl
    · exact Tm.deps_le.mp h.dep u hu
    · omega
  · rw [List.getElem?_set] at hu
    split at hu
    · split at hu
      · cases hu
        exact .inr hd
      · cases hu
    · exact hf k a u ha hu
def sp_prows (K : PySem.W.Frag) : Sp := fun vs H Q _ => ∃ (b nm : Addr) (ns : List Str), vs = [.ref b, .ref nm] ∧ Bag H b ∧ NmsP H b nm ns ∧
  ∀ p (zs : List V) (wd : Nat) (first : List Tm) (rest : List (List Tm)) H', H p = none → H' p = some (.lst zs) → ColsAt K [b, p] H' zs (first :: rest) → RowsF wd first rest → 1 ≤ rest.length → Dr b H H' → Q (.ref p) H'
def sp_punlike (K : PySem.W.Frag) (C : Addr) : Sp := fun vs H Q _ => ∃ (x y : Addr) (ts us : List Tm), vs = [.ref x, .ref y] ∧ PatAt K H C x ts ∧ PatAt K H C y us ∧ PtO ts ∧ PtO us ∧ ts.length ≠ us.length ∧ ∀ H', Mv [] H H' → Q (.bl true) H'
def sp_alikeP (K : PySem.W.Frag) (C : Addr) : Sp := fun vs H Q _ => ∃ (x y : Addr) (ts : List Tm), vs = [.ref x, .ref y] ∧ PatAt K H C x ts ∧ PatAt K H C y ts ∧ GenF ts ∧ Q (.bl true) H
section
variable {P : Program} {w : World} {K : PySem.W.Frag} {mg : Str → Option Value} {base : Heap}
theorem ok__law_unlike (T : TX K mg) (Y : TY P K mg) {k : Nat} : FnOkG P w K mg base CX0 (k + 62) T.d__law_unlike.f T.d__law_unlike.fd P__law_unlike (sp_punlike K T.C_Pattern) := by
  have G_Pattern___or__ : FnOk P w K mg base (CX P w) 60 T.d_Pattern___or__.f T.d_Pattern___or__.fd P_Pattern___or__ (sp_PatOr K T.C_Pattern Y.C_Unlike) := ok_Pattern___or__ T Y (k := 0)
  refine okG T.d__law_unlike.F sc__law_unlike (fun vs H Q E h => ?_) (fun cdv A outer s H vs Q E hgd hr h => ?_)
  · obtain ⟨_, _, _, _, rfl, _⟩ := h
    rfl
  · obtain ⟨x, y, ts, us, rfl, hR, hR2, hO, hO2, hne, q⟩ := h
    obtain ⟨dx, p, xs, hs, hp, hx⟩ := id hR
    obtain ⟨dx2, p2, xs2, hs2, hp2, hx2⟩ := id hR2
    have hu64 := hr.units
    refine ⟨_, (pss_cons (ps_try_as (i := 3) rfl rfl sc__law_unlike.nd rfl rfl ⟨rfl, by decide, Or.inl Y.x_MoveError.gC⟩ takes0 (fun W pn xe tk po => (pss_one (ps_set (i := 2) sc__law_unlike.nd rfl (Or.inl rfl) (pe_binS (k := 60) rfl dunder_or ⟨T.mul_Pattern, T.d_Pattern___or__.M.at_, T.d_Pattern___or__.M.fn⟩ G_Pattern___or__ (hr.mono (by omega)) T.d_Pattern___or__.b (fun σ => passAt tk σ) (pv 0) (pv 1))))) (fun a oe cls d pn hz hf => (pss_one (ps_ret (pe_and (pe_callB (call_isX hz hf) (by rfl) T.b_isinstance bt_isinstance (pa_cons (pv 3) (pa_cons (pe_glob rfl Y.x_Unlike.gC (show L2.RelV (.ref Y.C_Unlike) _ from rfl)) pa_nil))) (pe_one (pe_not (pe_callB (call_isX hz hf) (by rfl) T.b_isinstance bt_isinstance (pa_cons (pv 3) (pa_cons (pe_glob rfl Y.x_Wrong.gC (show L2.RelV (.ref Y.C_Wrong) _ from rfl)) pa_nil)))))))))) (pss_one (ps_ret (pe_cmpR (r := rEqG K) (op_eqG hu64) (pe_callB (r := rReprG K) (call_reprG hgd hu64) (by rfl) T.b_repr bt_repr (pa_cons (pv 2) pa_nil)) pe_str (nomark _))))), ?_⟩
    refine ⟨.ref x, rfl, .ref y, rfl, x, y, dx, dx2, _, _, rfl, rfl, hs, hs2, x, y, ts, us, rfl, hR, hR2, hO, hO2, fun hw => ?_, fun hw => absurd hw hne⟩
    refine ⟨true, Y.em_Unlike_MoveError, fun _ a na => ?_, fun z => by cases z⟩
    refine ⟨.ref a, rfl, ?_⟩
    walk_at "nc"
    refine ⟨Y.C_Unlike, .ref Y.C_Unlike, .ref Y.C_Unlike, true, rfl, Y.xc_Unlike, .inl rfl, rfl, fun _ h => h, kitOne_self _, ?_⟩
    refine ⟨_, rfl, .ref a, rfl, Y.C_Unlike, .ref Y.C_Wrong, .ref Y.C_Wrong, false, rfl, Y.xc_Unlike, .inl rfl, rfl, fun _ h => h, Y.ed_Unlike_Wrong, ?_⟩
    exact ⟨false, rfl, q _ .refl⟩
theorem ok__law_alikeP (T : TX K mg) {k : Nat} : FnOkG P w K mg base CX0 (k + 4) T.d__law_alike.f T.d__law_alike.fd P__law_alike (sp_alikeP K T.C_Pattern) := by
  have G_Pattern___eq__ : FnOk P w K mg base CX0 1 T.d_Pattern___eq__.f T.d_Pattern___eq__.fd P_Pattern___eq__ (sp_PatternEq K T.C_Pattern) := ok_Pattern___eq__ T (k := 0)
  have G_Pattern___repr__ : FnOkG P w K mg base CX0 1 T.d_Pattern___repr__.f T.d_Pattern___repr__.fd P_Pattern___repr__ (sp_Patrepr K T.C_Pattern) := ok_Pattern___repr__ T (k := 0)
  refine okG T.d__law_alike.F sc__law_alike (fun vs H Q E h => ?_) (fun cdv A outer s H vs Q E hgd hr h => ?_)
  · obtain ⟨_, _, _, rfl, _⟩ := h
    rfl
  · obtain ⟨x, y, ts, rfl, hR, hR2, hG, q⟩ := h
    obtain ⟨dx, p, xs, hs, hp, hx⟩ := id hR
    obtain ⟨dx2, p2, xs2, hs2, hp2, hx2⟩ := id hR2
    have hu64 := hr.units
    refine ⟨_, (pss_one (ps_ret (pe_and (pe_cmpR (r := rOwnG K T.C_Pattern (sp_PatternEq K T.C_Pattern) _) (op_ownG T.d_Pattern___eq__.M.at_ T.d_Pattern___eq__.M.fn (fnR_of G_Pattern___eq__ T.d_Pattern___eq__.b) (hr.mono (by omega)) pass0) (pv 0) (pv 1) (nomark _)) (pe_one (pe_cmpR (r := rEqG K) (op_eqG hu64) (pe_callB (call_reprOwn T.d_Pattern___repr__.M.at_ T.d_Pattern___repr__.M.fn G_Pattern___repr__ T.d_Pattern___repr__.b hgd (hr.mono (by omega)) pass0) (by rfl) T.b_repr bt_repr (pa_cons (pv 0) pa_nil)) (pe_callB (call_reprOwn T.d_Pattern___repr__.M.at_ T.d_Pattern___repr__.M.fn G_Pattern___repr__ T.d_Pattern___repr__.b hgd (hr.mono (by omega)) pass0) (by rfl) T.b_repr bt_repr (pa_cons (pv 1) pa_nil)) (nomark _)))))), ?_⟩
    refine ⟨.ref x, rfl, .ref y, rfl, ?_⟩
    refine ⟨x, dx, _, rfl, hs, .inl ⟨y, T.C_Pattern, dx2, _, rfl, hs2, by simp [PySem.W.notFirst]⟩, x, ts, .ref y, rfl, hR, hG.ptC, .inl ⟨y, ts, rfl, hR2, hG.ptC, ?_⟩⟩
    refine ⟨_, rfl, ?_⟩
    rw [decide_eq_true rfl]
    refine ⟨.ref x, rfl, x, dx, _, rfl, hs, x, ts, rfl, hR, hG.shw, ⟨_, rfl⟩, ?_⟩
    refine ⟨.ref y, rfl, y, dx2, _, rfl, hs2, y, ts, rfl, hR2, hG.shw, ⟨_, rfl⟩, ?_⟩
    refine Or.inl ⟨rfl, ?_⟩
    rw [decide_eq_true rfl]
    exact q
theorem ok__law_rows (T : TX K mg) {k : Nat} : FnOk P w K mg base CX0 (k + 7) T.d__law_rows.f T.d__law_rows.fd P__law_rows (sp_prows K) := by
  have G__law_take : FnOk P w K mg base CX0 1 T.d__law_take.f T.d__law_take.fd P__law_take sp_take := ok__law_take T
  have G__law_term : FnOk P w K mg base CX0 6 T.d__law_term.f T.d__law_term.fd P__law_term (sp_term K 4) := ok__law_term T 4
  have G__law_put : FnOk P w K mg base CX0 5 T.d__law_put.f T.d__law_put.fd P__law_put (sp_put K 4) := ok__law_put T 4
  refine T.d__law_rows.F.ok sc__law_rows (fun vs H Q E h => ?_) (fun cdv A outer s H vs Q E hr h => ?_)
  · obtain ⟨_, _, _, rfl, _⟩ := h
    rfl
  · obtain ⟨b, nm, ns, rfl, hB, hN, q⟩ := h
    have hu64 := hr.units
    have hn0 : ns ≠ [] := fun z => by have := hN.len; rw [z] at this; cases this
    have hn1 : ns.length ≤ 1000 := by rw [hN.len]; omega
    refine ⟨_, (pss_cons (ps_set (i := 2) sc__law_rows.nd rfl (Or.inl rfl) (pe_call G__law_take (hr.mono (by omega)) rfl T.d__law_take.g T.d__law_take.F.kp T.d__law_take.b .nil pass0 (pa_cons (pv 0) (pa_cons pe_int pa_nil)))) (pss_cons (ps_setLc (i := 3) (own := [("_law_k", 5)]) (g := gName 5) (by rfl) sc__law_rows.nd rfl rfl (sw_true rfl rfl rfl (by decide +kernel)) (pi_range1 (by rfl) T.b_range (pa_cons (pv 2) pa_nil)) (blkOk_by (own := [("_law_k", 5)]) (N := N__law_rows) (sc := defScope s__law_rows) (by decide +kernel)) (fun _ _ _ _ _ => pg_name (i := 5) sc__law_rows.nd rfl (Or.inl rfl)) (fun _ _ _ _ _ => pts_nil) (fun _ _ _ _ _ => (pe_call G__law_term (hr.mono (by omega)) rfl T.d__law_term.g T.d__law_term.F.kp T.d__law_term.b .nil pass0 (pa_cons (pv 0) (pa_cons (pv 1) (pa_cons pe_int (pa_cons (pe_op (r := rAddG K) op_addG pe_int (pe_call G__law_take (hr.mono (by omega)) rfl T.d__law_take.g T.d__law_take.F.kp T.d__law_take.b .nil pass0 (pa_cons (pv 0) (pa_cons pe_int pa_nil)))) pa_nil))))))) (pss_cons (ps_set (i := 4) sc__law_rows.nd rfl (Or.inl rfl) (pe_lst (pa_cons (pv 3) pa_nil))) (pss_cons (ps_for PassesOwn.never rfl (pi_range1 (by rfl) T.b_range (pa_cons (pe_op (r := rAddG K) op_addG pe_int (pe_call G__law_take (hr.mono (by omega)) rfl T.d__law_take.g T.d__law_take.F.kp T.d__law_take.b .nil pass0 (pa_cons (pv 0) (pa_cons pe_int pa_nil)))) pa_nil)) (pg_name (i := 5) sc__law_rows.nd rfl (Or.inl rfl)) (pss_cons (ps_set (i := 6) sc__law_rows.nd rfl (Or.inr rfl) (pe_lc (own := [("_law_j", 8)]) (g := gName 8) (by rfl) sc__law_rows.nd (pi_range1 (by rfl) T.b_range (pa_cons pe_int pa_nil)) (blkOk_by (own := [("_law_j", 8)]) (N := N__law_rows) (sc := defScope s__law_rows) (by decide +kernel)) (fun _ _ _ _ _ => pg_name (i := 8) sc__law_rows.nd rfl (Or.inl rfl)) (fun _ _ _ _ _ => pts_nil) (fun _ _ _ _ _ => (pe_call G__law_term (hr.mono (by omega)) rfl T.d__law_term.g T.d__law_term.F.kp T.d__law_term.b .nil pass0 (pa_cons (pv 0) (pa_cons (pv 1) (pa_cons pe_int (pa_cons pe_int pa_nil)))))))) (pss_cons (ps_setLc (i := 7) (own := [("_law_term_here", 9)]) (g := gName 9) (by rfl) sc__law_rows.nd rfl rfl (sw_true rfl rfl rfl (by decide +kernel)) (pi_seq (pv 3)) (blkOk_by (own := [("_law_term_here", 9)]) (N := N__law_rows) (sc := defScope s__law_rows) (by decide +kernel)) (fun _ _ _ _ _ => pg_name (i := 9) sc__law_rows.nd rfl (Or.inl rfl)) (fun _ _ _ _ _ => pts_nil) (fun _ _ _ _ _ => (pe_call G__law_put (hr.mono (by omega)) rfl T.d__law_put.g T.d__law_put.F.kp T.d__law_put.b .nil pass0 (pa_cons (pv 9) (pa_cons (pv 6) pa_nil))))) (Evl.pss_cut (ps_if (PW.pt (pw_and (pt_cmpR op_gt (pv 2) pe_int (nomark _)) (pw_and1 (pt_cmpR (r := rEqG K) (op_eqG hu64) (pe_call G__law_take (hr.mono (by omega)) rfl T.d__law_take.g T.d__law_take.F.kp T.d__law_take.b .nil pass0 (pa_cons (pv 0) (pa_cons pe_int pa_nil))) pe_int (nomark _))))) (pss_one (ps_asg (pe_call G__law_term (hr.mono (by omega)) rfl T.d__law_term.g T.d__law_term.F.kp T.d__law_term.b .nil pass0 (pa_cons (pv 0) (pa_cons (pv 1) (pa_cons pe_int (pa_cons pe_int pa_nil))))) (pg_sub (pv 7) (pe_call G__law_take (hr.mono (by omega)) rfl T.d__law_take.g T.d__law_take.F.kp T.d__law_take.b .nil pass0 (pa_cons (pv 0) (pa_cons (pv 2) pa_nil))) set_list))) pss_nil) (pss_one (ps_expr (pe_bm PySem.F.plainAttrs_list PySem.F.slot_list_append PySem.F.type_list_append mt_append (pv 4) (pa_cons (pv 7) pa_nil)))))))) (pss_one (ps_ret (pv 4))))))), ?_⟩
    refine ⟨.ref b, rfl, b, 5, rfl, hB, by decide, by decide, fun wd H1 w0 w1 d1 => ?_⟩
    have hB1 := d1.bag hB
    have hN1 := hN.dr d1
    refine ⟨.int wd, rfl, wd, rfl, by omega, by omega, fun tl ntl => ?_⟩
    have htb : tl ≠ b := hB1.fneq ntl
    refine lc_range (lo := 0) (n := wd.toNat) (fun i H7 => ∃ (vs : List V) (us : List Tm), H7 tl = some (.lst vs) ∧ Ims K H7 vs (Tm.ds us) ∧ us.length = i ∧ Tm.oks (fun i => 0 ≤ i ∧ i < 3) us ∧ Tm.deps us ≤ 3 ∧ Dr b H1 H7)
      ⟨[], [], upd_same, Ims.nil, rfl, trivial, Nat.zero_le _, Dr.new ntl⟩ (fun i7 H7 hi7 h7 => ?_) (fun H7 h7 => ?_)
    · obtain ⟨vs, us, e5, i5, l5, g5, p5, d5⟩ := h7
      have hB5 := d5.bag hB1
      have hN5 := hN1.dr d5
      refine ⟨rfl, .ref b, rfl, .ref nm, rfl, .ref b, rfl, b, 3, rfl, hB5, by decide, by decide, fun dp H8 dp0 dp1 d8 => Or.inl ⟨1, dp, rfl, rfl, ?_⟩⟩
      have hN8 := hN5.dr d8
      refine ⟨b, nm, ns, 3, 1 + dp, rfl, d8.bag hB5, hN8.at_, hN8.ne, hn0, hn1, hN8.ok, by decide, by decide, by omega, fun v t H9 ho hx1 hx2 him d9 => ?_⟩
      have hx3 : t.dep ≤ 3 := by have := hx2 (by decide); omega
      have d89 := d8.trans d9
      have e7 := d89.get htb e5
      refine ⟨_, e7, ?_, vs ++ [v], us ++ [t], upd_same, ?_, by simp [l5], oks_snoc g5 ho, deps_snoc p5 hx3, (d5.trans d89).wr ntl⟩
      · rw [i5.length, Tm.ds_map, List.length_map, l5]
        exact line5lt (by omega)
      · rw [Tm.ds_append]
        exact ((i5.mv d89.mv).append (Ims.cons him Ims.nil)).mv (Mv.set (S := [tl]) e7 (by simp))
    obtain ⟨fv, first, e7, i7, l7, g7, p7, d17⟩ := h7
    have hB7 := d17.bag hB1
    have hN7 := hN1.dr d17
    have hfvl : fv.length = first.length := by rw [i7.length, Tm.ds_map, List.length_map]
    have hfirst : RowF wd.toNat first := ⟨g7, Nat.le_trans p7 (by decide), l7⟩
    refine ⟨.ref tl, rfl, (by decide : 1 ≤ sizeLine), fun rl nrl => ?_⟩
    have hrb : rl ≠ b := hB7.fneq nrl
    have nr0 : H rl = none := (d1.trans d17).free hB nrl
    have hrt : rl ≠ tl := (ne_of_none e7 nrl).symm
    have m8 : Mv [] H7 (upd H7 rl (.lst [.ref tl])) := .new nrl
    have e8 : upd H7 rl (.lst [.ref tl]) rl = some (.lst [.ref tl]) := upd_same
    generalize upd H7 rl (.lst [.ref tl]) = H8 at m8 e8 ⊢
    have hB8 := hB7.mv m8
    have hN8 := hN7.dr (.of m8)
    have f8 := m8.same _ _ e7
    have i8 := i7.mv m8
    have d18 : Dr b H H8 := (d1.trans d17).trans (.of m8)
    refine ⟨.ref b, rfl, b, 3, rfl, hB8, by decide, by decide, fun cn H9 c0 c1 d9 => Or.inl ⟨1, cn, rfl, rfl, 1 + cn, rfl, by omega, by omega, ?_⟩⟩
    refine for_range (lo := 0) (n := (1 + cn).toNat) (fun i σ H3 => ∃ (y5 y6 y7 : Option V) (vs : List V) (rest : List (List Tm)), σ = [some (.ref b), some (.ref nm), some (.int wd), some (.ref tl), some (.ref rl), y5, y6, y7, none, none] ∧ H3 rl = some (.lst vs) ∧ ColsAt K [b, rl] H3 vs (first :: rest) ∧ H3 tl = some (.lst fv) ∧ rest.length = i ∧
      (∀ r ∈ rest, RowF wd.toNat r ∧ Nigh first r) ∧ Dr b H H3 ∧ Mv [b, rl] H8 H3)
      ⟨none, none, none, [.ref tl], [], rfl, d9.get hrb e8, .cons ⟨tl, fv, rfl, by simp [htb, hrt.symm], d9.get htb f8, i8.mv d9.mv⟩ .nil, d9.get htb f8, rfl, fun r hr => (by cases hr), d18.trans d9, d9.mv.mono (by simp)⟩ (fun i σ H3 hi h3 => ?_) (fun σ H3 h3 => ?_)
    · obtain ⟨y5, y6, y7, vs, rest, rfl, e3, c3, f3, l3, r3, d3, w3⟩ := h3
      have hB3 := d3.bag hB
      have hN3 := hN.dr d3
      refine ⟨3, rfl, by decide, by decide, fun ol nol => ?_⟩
      have hob : ol ≠ b := hB3.fneq nol
      have hor : ol ≠ rl := (ne_of_none e3 nol).symm
      refine lc_range (lo := 0) (n := (3 : Int).toNat) (fun j H4 => ∃ (ov : List V) (us : List Tm), H4 ol = some (.lst ov) ∧ Ims K H4 ov (Tm.ds us) ∧ us.length = j ∧ Tm.oks (fun i => 0 ≤ i ∧ i < 3) us ∧ Tm.deps us ≤ 1 ∧ Dr b H3 H4)
        ⟨[], [], upd_same, Ims.nil, rfl, trivial, Nat.zero_le _, Dr.new nol⟩ (fun j H4 hj h4 => ?_) (fun H4 h4 => ?_)
      · obtain ⟨ov, us, e5, i5, l5, g5, p5, d5⟩ := h4
        have hB5 := d5.bag hB3
        have hN5 := hN3.dr d5
        refine ⟨rfl, .ref b, rfl, .ref nm, rfl, b, nm, ns, 3, 1, rfl, hB5, hN5.at_, hN5.ne, hn0, hn1, hN5.ok, by decide, by decide, by decide, fun v t H6 ho hx1 hx2 him d6 => ?_⟩
        have hx3 : t.dep ≤ 1 := by have := hx2 (by decide); omega
        have e6 := d6.get hob e5
        refine ⟨_, e6, ?_, ov ++ [v], us ++ [t], upd_same, ?_, by simp [l5], oks_snoc g5 ho, deps_snoc p5 hx3, (d5.trans d6).wr nol⟩
        · rw [i5.length, Tm.ds_map, List.length_map, l5]
          exact line5lt (by have : (3 : Int).toNat = 3 := rfl; omega)
        · rw [Tm.ds_append]
          exact ((i5.mv d6.mv).append (Ims.cons him Ims.nil)).mv (Mv.set (S := [ol]) e6 (by simp))
      obtain ⟨ov, us, e4, i4, l4, g4, p4, d34⟩ := h4
      have l4' : us.length = 3 := l4
      have hovl : ov.length = 3 := by rw [i4.length, Tm.ds_map, List.length_map, l4']
      have hB4 := d34.bag hB3
      have hN4 := hN3.dr d34
      have f4 := d34.get htb f3
      have hfirst4 : Ims K H4 fv (Tm.ds first) := ((i8.mv w3).mv d34.mv)
      refine ⟨.ref tl, rfl, tl, rfl, ?_⟩
      refine lc_seq (xs := fv) (.inl (.inl (.inl f4))) (fun j D H5 => ∃ ys, H5 D = some (.lst ys) ∧ Ims K H5 ys (Tm.ds ((first.take j).map (Tm.put (vat us)))) ∧ Mv [] H4 H5)
        (fun D nD => ⟨[], upd_same, Ims.nil, .new nD⟩) (fun j D H5 nD h5 => h5.elim fun _ h => h.2.2) (fun D nD j y H5 hy h5 => ?_) (fun D H5 nD h5 => ?_)
      · obtain ⟨ys, e5, i5, m5⟩ := h5
        obtain ⟨xd, hxd, him⟩ := hfirst4.get hy
        rw [Tm.ds_map, List.getElem?_map] at hxd
        obtain ⟨u, hu, rfl⟩ := Option.map_eq_some_iff.mp hxd
        have hmem := List.mem_of_getElem? hu
        have hj := (List.getElem?_eq_some_iff.mp hu).1
        have hyl : ys.length = j := by rw [i5.length, Tm.ds_map, List.length_map, List.length_map, List.length_take]; omega
        have hud := Tm.deps_le.mp p7 u hmem
        refine ⟨rfl, y, rfl, .ref ol, rfl, y, .ref ol, u, _, vat us, rfl, him.mv m5, Tm.oks_iff.mp g7 u hmem, by omega, ⟨ol, rfl, .inl ⟨ov, .inl (.inl (m5.same _ _ e4)), fun i hi => ⟨hi.1, ?_⟩⟩⟩, fun v' H6 m6 im6 => ?_⟩
        · have hlt : i.toNat < us.length := by omega
          obtain ⟨v, hv, hvm⟩ := (i4.mv m5).getD (d := us[i.toNat].d) (i := i.toNat) (by rw [Tm.ds_map, List.getElem?_map, List.getElem?_eq_getElem hlt]; rfl)
          refine ⟨v, hv, ?_⟩
          rw [show vat us i = us[i.toNat] by simp [vat, List.getD_eq_getElem?_getD, hlt]]
          exact hvm
        · have e6 := m6.same _ _ e5
          refine ⟨ys, e6, by rw [hyl]; exact line5lt (by omega), ys ++ [v'], upd_same, ?_, (m5.trans m6).wr nD⟩
          rw [List.take_add_one, hu]
          rw [show Tm.ds (List.map (Tm.put (vat us)) (List.take j first ++ (some u).toList)) = Tm.ds (List.map (Tm.put (vat us)) (List.take j first)) ++ [(u.put (vat us)).d] by simp [Tm.ds_map]]
          exact ((i5.mv m6).append (Ims.cons im6 Ims.nil)).mv (Mv.set (S := [D]) e6 (by simp))
      obtain ⟨ys, e5, i5, m5⟩ := h5
      rw [hfvl, List.take_of_length_le (Nat.le_refl _)] at i5
      have nD4 : H3 D = none := d34.free hB3 nD
      have hDb : D ≠ b := hB4.fneq nD
      have hDr : D ≠ rl := (ne_of_none (d34.get hrb e3) nD).symm
      have d35 := d34.trans (.of m5)
      have hB5 := hB4.mv m5
      have hN5 := hN4.dr (.of m5)
      have hR0 := row_put hfirst p7 g4 p4 l4'
      have hyl : ys.length = wd.toNat := by rw [i5.length, Tm.ds_map, List.length_map, hR0.1.len]
      refine ⟨fun σ' H' => σ' = [some (.ref b), some (.ref nm), some (.int wd), some (.ref tl), some (.ref rl), some (.int (0 + (i : Int))), some (.ref ol), some (.ref D), none, none] ∧ ∃ zs r, H' D = some (.lst zs) ∧ Ims K H' zs (Tm.ds r) ∧ RowF wd.toNat r ∧ Nigh first r ∧ Dr b H3 H', ?_, ?_⟩
      · refine ⟨.int wd, rfl, wd, 0, rfl, rfl, _, rfl, ite2 (fun e => ?_) (fun e => ?_)⟩
        · have hw0 : 0 < wd := of_decide_eq_true e
          refine ⟨.ref b, rfl, b, 2, rfl, hB5, by decide, by decide, fun z H6 z0 z1 d6 => Or.inl ⟨rfl, _, rfl, ite2 (fun _ => ?_) (fun _ => ?_)⟩⟩
          · have hN6 := hN5.dr d6
            refine ⟨.ref b, rfl, .ref nm, rfl, b, nm, ns, 3, 2, rfl, d6.bag hB5, hN6.at_, hN6.ne, hn0, hn1, hN6.ok, by decide, by decide, by decide, fun v t H7 ho hx1 hx2 him d7 => ?_⟩
            have hx3 : t.dep ≤ 2 := by have := hx2 (by decide); omega
            have d67 := d6.trans d7
            refine ⟨.ref D, rfl, .ref b, rfl, .int wd, rfl, b, wd, rfl, d67.bag hB5, hw0, by omega, fun at_ H8 a0 a1 d8 => ?_⟩
            have d58 := d67.trans d8
            have e8 := d58.get hDb e5
            obtain ⟨j, rfl⟩ : ∃ j : Nat, at_ = j := ⟨at_.toNat, by omega⟩
            refine ⟨D, ys, (j : Int), j, rfl, rfl, e8, Evl.ixN_nat (by omega), ?_⟩
            have m9 : Mv [D] H8 (upd H8 D (.lst (ys.set j v))) := .set e8 (by simp)
            refine ⟨rfl, _, (first.map (Tm.put (vat us))).set j t, upd_same, ?_, (row_set hR0.1 hR0.2 ho hx3 j).1, (row_set hR0.1 hR0.2 ho hx3 j).2, ?_⟩
            · rw [Tm.ds_map, List.map_set, ← Tm.ds_map]
              exact (Ims.setP j ((i5.mv d58.mv)) (him.mv d8.mv)).mv m9
            · exact (d35.trans d58).wr nD4
          · exact ⟨rfl, ys, _, d6.get hDb e5, i5.mv d6.mv, hR0.1, hR0.2, d35.trans d6⟩
        · exact ⟨rfl, ys, _, e5, i5, hR0.1, hR0.2, d35⟩
      · rintro σ' H6 ⟨rfl, zs, r, e6, i6, hr1, hr2, d36⟩
        have e6l := d36.get hrb e3
        have hvl : vs.length = i + 1 := by rw [paired_len c3, List.length_cons, l3]
        refine ⟨.ref rl, rfl, .inl ⟨rfl, _, .inl (.inl e6l)⟩, .ref D, rfl, rl, vs, .ref D, rfl, rfl, e6l, line5lt (by omega), ?_⟩
        have m7 : Mv [rl] H6 (upd H6 rl (.lst (vs ++ [.ref D]))) := .set e6l (by simp)
        refine ⟨_, _, _, vs ++ [.ref D], rest ++ [r], rfl, upd_same, ?_, ?_, by simp [l3], fun s hs => ?_, (d3.trans d36).wr nr0, (w3.trans (d36.mv.mono (by simp))).trans (m7.mono (by simp))⟩
        · rw [← List.cons_append]
          refine paired_snocN (ColsAt.mv (m7.mono (by simp)) (c3.dr (by simp) d36)) ⟨D, zs, rfl, by simp [hDb, hDr], ?_, i6.mv m7⟩
          rw [upd_ne hDr]
          exact e6
        · rw [upd_ne hrt.symm]
          exact d36.get htb f3
        · rcases List.mem_append.mp hs with hs | hs
          · exact r3 s hs
          · rw [List.mem_singleton.mp hs]
            exact ⟨hr1, hr2⟩
    · obtain ⟨y5, y6, y7, vs, rest, rfl, e3, c3, f3, l3, r3, d3, w3⟩ := h3
      refine ⟨.ref rl, rfl, q rl vs wd.toNat first rest H3 ?_ e3 c3 ⟨by omega, fun r hr => ?_, fun r hr => (r3 r hr).2, by omega⟩ (by omega) d3⟩
      · exact nr0
      · rcases List.mem_cons.mp hr with rfl | hr
        · exact hfirst
        · exact (r3 r hr).1
end
end Fm
namespace Fm
open PySem PySem.Spec PyProof.Rows L2
local macro_rules | `(tactic| walk_at "nn") => `(tactic| dsimp only [tC, tNil, tCons, tCB, tCall, gName, tSeq, tAsg, tPar, tDrop, tRet])
def sp_mixG (K : PySem.W.Frag) : Sp := fun vs H Q _ => ∃ (b l : Addr) (xs : List V), vs = [.ref b, .ref l] ∧ Bag H b ∧ ((H l = some (.lst xs) ∧ l ≠ b) ∨ SqT K H l xs) ∧ xs.length ≤ 1000 ∧
  ∀ (p : Addr) (ys : List V) H', ys.Perm xs → H p = none → H' p = some (.lst ys) → Dr b H H' → Q (.ref p) H'
theorem perm_ins {α : Type} (ms : List α) (j : Nat) (u : α) : (ms.take j ++ [u] ++ ms.drop j).Perm (ms ++ [u]) := by
  have h1 : (ms.take j ++ [u] ++ ms.drop j).Perm (ms.take j ++ (ms.drop j ++ [u])) := by
    rw [List.append_assoc]
    exact List.Perm.append_left _ List.perm_append_comm
  rw [← List.append_assoc, List.take_append_drop] at h1
  exact h1
section
variable {P : Program} {w : World} {K : PySem.W.Frag} {mg : Str → Option Value} {base : Heap}
theorem ok__law_mixed (T : TX K mg) {k : Nat} : FnOk P w K mg base CX0 (k + 2) T.d__law_mixed.f T.d__law_mixed.fd P__law_mixed (sp_mixG K) := by
  have G__law_take : FnOk P w K mg base CX0 1 T.d__law_take.f T.d__law_take.fd P__law_take sp_take := ok__law_take T
  refine T.d__law_mixed.F.ok sc__law_mixed (fun vs H Q E h => ?_) (fun cdv A outer s H vs Q E hr h => ?_)
  · obtain ⟨_, _, _, rfl, _⟩ := h
    rfl
  · obtain ⟨b, l, xs, rfl, hB, hl, hln, q⟩ := h
    refine ⟨_, (pss_cons (ps_set (i := 2) sc__law_mixed.nd rfl (Or.inl rfl) (pe_lst pa_nil)) (pss_cons (ps_for PassesOwn.never rfl (pi_seq (pv 1)) (pg_name (i := 3) sc__law_mixed.nd rfl (Or.inl rfl)) (pss_one (ps_expr (pe_bm PySem.F.plainAttrs_list PySem.F.slot_list_insert PySem.F.type_list_insert mt_insert (pv 2) (pa_cons (pe_call G__law_take (hr.mono (by omega)) rfl T.d__law_take.g T.d__law_take.F.kp T.d__law_take.b .nil pass0 (pa_cons (pv 0) (pa_cons (pe_op (r := rAddG K) op_addG (pe_callB (r := rLenG K) call_lenG (by rfl) T.b_len bt_len (pa_cons (pv 2) pa_nil)) pe_int) pa_nil))) (pa_cons (pv 3) pa_nil)))))) (pss_one (ps_ret (pv 2))))), ?_⟩
    refine ⟨Nat.zero_le _, fun p np => ⟨.ref l, rfl, l, rfl, ?_⟩⟩
    have hpb : p ≠ b := hB.fneq np
    rcases hl with ⟨hl, hlb⟩ | hl
    · refine Or.inl ⟨⟨_, .inl (.inl (same_new np _ _ hl))⟩, ?_⟩
      refine for_list (K := K) (a := l) (xs := xs) (fun i σ H2 => ∃ (ms : List V) (y : Option V), σ = [some (.ref b), some (.ref l), some (.ref p), y] ∧ H2 p = some (.lst ms) ∧ ms.Perm (xs.take i) ∧ Dr b H H2)
        ⟨[], none, rfl, upd_same, by simp, Dr.new np⟩ (fun i σ H2 _ h2 => ?_) (fun i x σ H2 hx h2 => ?_) (fun σ H2 h2 => ?_)
      · obtain ⟨_, _, _, _, _, d⟩ := h2
        exact .inl (.inl (d.get hlb hl))
      · obtain ⟨ms, y, rfl, e2, s2, d2⟩ := h2
        have hi := (List.getElem?_eq_some_iff.mp hx).1
        have l2 : ms.length = i := by rw [s2.length_eq, List.length_take]; omega
        refine ⟨.ref p, rfl, .inl ⟨rfl, _, .inl (.inl e2)⟩, .ref b, rfl, .ref p, rfl, ?_⟩
        walk_at "nn"
        refine rd_len (.inl (.inl (.inl e2))) ?_
        refine Or.inl ⟨_, 1, rfl, rfl, b, _, rfl, d2.bag hB, by omega, by omega, fun j H3 hj0 hj1 d3 => ?_⟩
        have e3 := d3.get hpb e2
        refine ⟨x, rfl, p, _, j, x, rfl, rfl, e3, small1000 (by omega), hj0, by omega, ?_⟩
        refine ⟨ms.take j.toNat ++ [x] ++ ms.drop j.toNat, _, rfl, ?_, ?_, (d2.trans d3).wr np⟩
        · rw [upd_same]
          first | done | simp
        · rw [List.take_add_one, hx]
          exact (perm_ins ms j.toNat x).trans (s2.append_right _)
      · obtain ⟨ms, y, rfl, e2, s2, d2⟩ := h2
        rw [List.take_length] at s2
        exact ⟨.ref p, rfl, q p ms H2 s2 np e2 d2⟩
    · refine Or.inr ⟨⟨_, (Mv.new (S := []) np).sqT hl⟩, ?_⟩
      refine for_tup (K := K) (a := l) (xs := xs) (fun i σ H2 => ∃ (ms : List V) (y : Option V), σ = [some (.ref b), some (.ref l), some (.ref p), y] ∧ H2 p = some (.lst ms) ∧ ms.Perm (xs.take i) ∧ Dr b H H2)
        ⟨[], none, rfl, upd_same, by simp, Dr.new np⟩ (fun i σ H2 _ h2 => ?_) (fun i x σ H2 hx h2 => ?_) (fun σ H2 h2 => ?_)
      · obtain ⟨_, _, _, _, _, d⟩ := h2
        exact d.mv.sqT hl
      · obtain ⟨ms, y, rfl, e2, s2, d2⟩ := h2
        have hi := (List.getElem?_eq_some_iff.mp hx).1
        have l2 : ms.length = i := by rw [s2.length_eq, List.length_take]; omega
        refine ⟨.ref p, rfl, .inl ⟨rfl, _, .inl (.inl e2)⟩, .ref b, rfl, .ref p, rfl, ?_⟩
        walk_at "nn"
        refine rd_len (.inl (.inl (.inl e2))) ?_
        refine Or.inl ⟨_, 1, rfl, rfl, b, _, rfl, d2.bag hB, by omega, by omega, fun j H3 hj0 hj1 d3 => ?_⟩
        have e3 := d3.get hpb e2
        refine ⟨x, rfl, p, _, j, x, rfl, rfl, e3, small1000 (by omega), hj0, by omega, ?_⟩
        refine ⟨ms.take j.toNat ++ [x] ++ ms.drop j.toNat, _, rfl, ?_, ?_, (d2.trans d3).wr np⟩
        · rw [upd_same]
          first | done | simp
        · rw [List.take_add_one, hx]
          exact (perm_ins ms j.toNat x).trans (s2.append_right _)
      · obtain ⟨ms, y, rfl, e2, s2, d2⟩ := h2
        rw [List.take_length] at s2
        exact ⟨.ref p, rfl, q p ms H2 s2 np e2 d2⟩
end
end Fm
namespace Fm
open PySem PySem.Spec PyProof.Rows L2
theorem no0 {X : Cx} : ∀ (H : Hp) (s : Shared) (e : Value) (s' : Shared), CX0 X.stack H s E0 e s' → False := fun _ _ _ _ h => h
end Fm
namespace Fm
open PySem PySem.Spec PyProof.Rows L2 SlX
local macro_rules | `(tactic| walk_at "nn") => `(tactic| dsimp only [tC, tNil, tCons, tCB, tCall, gName, tSeq, tAsg, tPar, tDrop, tRet])
local macro_rules | `(tactic| walk_at "nc") => `(tactic| dsimp only [tC, tNil, tCons, tCB, tCall])
def sp_law (K : PySem.W.Frag) : Sp := fun vs H Q _ => ∃ (a : Addr) (ns : List Int), vs = [.ref a] ∧ SqL K H a (ns.map V.int) ∧ ns.length ≤ 63 ∧ ∀ H', Q (.bl true) H'
theorem FnOkG.or {P : Program} {w : World} {K : PySem.W.Frag} {mg : Str → Option Value} {base : Heap} {CX : CXT} {k : Nat} {f : Addr} {fd : FuncData} {ps : List Str} {sp sq : Sp} (F : FnOkG P w K mg base CX k f fd ps sp) (G : FnOkG P w K mg base CX k f fd ps sq) :
    FnOkG P w K mg base CX k f fd ps (fun vs H Q E => sp vs H Q E ∨ sq vs H Q E) :=
  ⟨fun vs H Q E h => h.elim (F.len vs H Q E) (G.len vs H Q E), fun A outer s H args us vs Q E hg hr he hb hv h => h.elim (F.run A outer s H args us vs Q E hg hr he hb hv) (G.run A outer s H args us vs Q E hg hr he hb hv)⟩
theorem rd_slL15 {K : PySem.W.Frag} {H : Hp} {Q : VK} {a : Addr} {xs : List V} {k : Int} (ha : H a = some (.lst xs)) (h0 : 0 ≤ k) (h : ∀ p, H p = none → Q (.ref p) (upd H p (.lst (xs.take k.toNat)))) : rSlG K (.ref a) none (some k) H Q := by
  refine Or.inl ⟨a, xs, rfl, .inl (.inl ha), fun p np => ?_⟩
  rw [cutV_to h0]
  exact h p np
theorem PatAt.putL {K : PySem.W.Frag} {H : Hp} {C x p : Addr} {ts : List Tm} {zs ys : List V} (h : PatAt K H C x ts) (hp : H p = some (.lst zs)) : PatAt K (upd H p (.lst ys)) C x ts := by
  obtain ⟨dx, q, xs, h1, h2, h3⟩ := h
  have m : Mv [p] H (upd H p (.lst ys)) := .set hp (by simp)
  refine ⟨dx, q, xs, ?_, m.sqT h2, h3.mv m⟩
  have hne : ∀ a o, H a = some o → (∀ zs, o ≠ .lst zs) → upd H p (.lst ys) a = some o := fun a o ha ho => by
    rw [upd_ne (fun z => by rw [z, hp] at ha; exact ho _ (Option.some.inj ha).symm)]
    exact ha
  exact h1.imp (fun h => ⟨hne _ _ h.1 (fun _ z => by cases z), h.2⟩) fun h => ⟨hne _ _ h.1 slO_nolst, hne _ _ h.2 (fun _ z => by cases z)⟩
theorem canon_len (r : List Tm) : (canon (Tm.gts r)).length = r.length := by rw [canon_gts, List.length_map]
theorem RowsF.due {wd : Nat} {first : List Tm} {rest : List (List Tm)} (h : RowsF wd first rest) : genL (canon (Tm.gts first)) (rest.map fun r => canon (Tm.gts r)) = genR wd (first :: rest) := by
  have hl := (h.row first List.mem_cons_self).len
  rw [genL_R, canon_len, hl]
  exact genR_canons (R := first :: rest) (by simp) fun r hr => (h.row r hr).len
theorem RowsF.fold {wd : Nat} {first : List Tm} {rest L : List (List Tm)} (h : RowsF wd first rest) (hL : ∀ r, r ∈ L ↔ r ∈ (first :: rest).map fun r => canon (Tm.gts r)) : genR wd (canon (Tm.gts first) :: L) = genR wd (first :: rest) := by
  rw [← genR_canons (R := first :: rest) (by simp) fun r hr => (h.row r hr).len]
  refine genR_set (fun r => ?_) (by simp)
  rw [List.mem_cons, hL]
  constructor
  · rintro (rfl | h)
    · exact List.mem_map.mpr ⟨first, List.mem_cons_self, rfl⟩
    · exact h
  · exact .inr
theorem RowsF.two {wd : Nat} {first r : List Tm} {rest : List (List Tm)} (h : RowsF wd first rest) (hr : r ∈ rest) : genL (canon (Tm.gts first)) [canon (Tm.gts r)] = genL first [r] ∧ genL (canon (Tm.gts r)) [canon (Tm.gts first)] = genL first [r] ∧ GenF (genL first [r]) := by
  have h2 : RowsF wd first [r] := h.part (fun s hs => by rw [List.mem_singleton.mp hs]; exact hr) (by simp)
  have hl := (h2.row first (by simp)).len
  have hlr := (h2.row r (by simp)).len
  have e0 : genL first [r] = genR wd [first, r] := by rw [genL_R, hl]
  refine ⟨h2.due.trans e0.symm, ?_, by rw [e0]; exact h2.gen⟩
  rw [genL_R, canon_len, hlr, e0, ← h2.due, genL_R, canon_len, hl]
  exact genR_set (fun s => by simp [or_comm]) (by simp)
theorem perm_map15 {α β : Type} {f : α → β} : ∀ {xs : List α} {ys : List β}, ys.Perm (xs.map f) → ∃ L : List α, ys = L.map f ∧ L.Perm xs
  | [], ys, p => ⟨[], by simpa using p.eq_nil, .nil⟩
  | x :: xs, ys, p => by
    have hm : f x ∈ ys := p.mem_iff.mpr (by simp)
    obtain ⟨s, t, rfl⟩ := List.append_of_mem hm
    have p1 : (s ++ t).Perm (xs.map f) := (List.perm_middle.symm.trans p).cons_inv
    obtain ⟨L, e, hL⟩ := perm_map15 p1
    obtain ⟨L1, L2, rfl, rfl, rfl⟩ := List.append_eq_map_iff.mp e
    exact ⟨L1 ++ x :: L2, by simp, List.perm_middle.trans (hL.cons x)⟩
theorem paired_take15 {α β : Type} {F : α → β → Prop} : ∀ {l : List α} {m : List β} (n : Nat), Paired F l m → Paired F (l.take n) (m.take n)
  | [], _, n, h => by
    cases h
    rw [List.take_nil, List.take_nil]
    exact .nil
  | _ :: _, _, 0, h => by rw [List.take_zero, List.take_zero]; exact .nil
  | _ :: _, _, n + 1, h => by
    cases h with
    | cons h1 h2 => exact .cons h1 (paired_take15 n h2)
theorem row_zero {wd : Nat} {r : List Tm} (h : RowF wd r) : RowF (wd + 1) (r ++ [.var 0]) := by
  refine ⟨oks_snoc h.ok ⟨by decide, by decide⟩, deps_snoc h.dep (by simp [Tm.dep]), by rw [List.length_append, h.len]; rfl⟩
abbrev patV (e : Addr × List Tm) : V := .ref e.1
structure I15 (K : PySem.W.Frag) (C b nm rl pl dp : Addr) (ns : List Str) (zs dxs : List V) (R : List (List Tm)) (pa : List (Addr × List Tm)) (due : List Tm) (H : Hp) : Prop where
  bag : Bag H b
  nms : NmsP H b nm ns
  rl : H rl = some (.lst zs)
  cols : ColsAt K [b] H zs R
  pl : H pl = some (.lst (pa.map patV))
  pats : ∀ e ∈ pa, PatAt K H C e.1 e.2
  dp : SqT K H dp dxs
  dx : Ims K H dxs (Tm.ds due)
theorem I15.dr {K : PySem.W.Frag} {C b nm rl pl dp : Addr} {ns : List Str} {zs dxs : List V} {R : List (List Tm)} {pa : List (Addr × List Tm)} {due : List Tm} {H H' : Hp} (h : I15 K C b nm rl pl dp ns zs dxs R pa due H) (d : Dr b H H') (h1 : rl ≠ b) (h2 : pl ≠ b) : I15 K C b nm rl pl dp ns zs dxs R pa due H' :=
  ⟨d.bag h.bag, h.nms.dr d, d.get h1 h.rl, h.cols.dr (by simp) d, d.get h2 h.pl, fun e he => (h.pats e he).dr d h.bag, d.mv.sqT h.dp, h.dx.mv d.mv⟩
theorem I15.mv {K : PySem.W.Frag} {C b nm rl pl dp : Addr} {ns : List Str} {zs dxs : List V} {R : List (List Tm)} {pa : List (Addr × List Tm)} {due : List Tm} {H H' : Hp} (h : I15 K C b nm rl pl dp ns zs dxs R pa due H) (m : Mv [] H H') : I15 K C b nm rl pl dp ns zs dxs R pa due H' :=
  ⟨h.bag.mv m, h.nms.dr (.of m), m.same _ _ h.rl, h.cols.mv (m.mono (by simp)), m.same _ _ h.pl, fun e he => (h.pats e he).mv m, m.sqT h.dp, h.dx.mv m⟩
section
variable {P : Program} {w : World} {K : PySem.W.Frag} {mg : Str → Option Value} {base : Heap}
theorem ok_law (T : TX K mg) (Y : TY P K mg) : FnOkG P w K mg base CX0 70 T.d_law.f T.d_law.fd P_law (sp_law K) := by
  have G__law_bag : FnOk P w K mg base CX0 1 T.d__law_bag.f T.d__law_bag.fd P__law_bag (sp_bag K) := ok__law_bag T
  have G__law_names : FnOk P w K mg base CX0 2 T.d__law_names.f T.d__law_names.fd P__law_names sp_names := ok__law_names T
  have G__law_rows : FnOk P w K mg base CX0 7 T.d__law_rows.f T.d__law_rows.fd P__law_rows (sp_prows K) := ok__law_rows (k := 0) T
  have G__law_mixed : FnOk P w K mg base CX0 2 T.d__law_mixed.f T.d__law_mixed.fd P__law_mixed (sp_mixG K) := ok__law_mixed (k := 0) T
  have G__law_general : FnOk P w K mg base CX0 53 T.d__law_general.f T.d__law_general.fd P__law_general (sp_gen K) := ok__law_general (k := 0) T
  have G__law_alike : FnOkG P w K mg base CX0 4 T.d__law_alike.f T.d__law_alike.fd P__law_alike (fun vs H Q E => sp_alike K vs H Q E ∨ sp_alikeP K T.C_Pattern vs H Q E) := FnOkG.or (ok__law_alike (k := 3) T) (ok__law_alikeP (k := 0) T)
  have G__law_unlike : FnOkG P w K mg base CX0 62 T.d__law_unlike.f T.d__law_unlike.fd P__law_unlike (sp_punlike K T.C_Pattern) := ok__law_unlike (k := 0) T Y
  have G_Pattern___init__ : FnOk P w K mg base (CX P w) 55 T.d_Pattern___init__.f T.d_Pattern___init__.fd P_Pattern___init__ (sp_Pat K T.C_Pattern Y.C_Wrong) := ok_Pattern___init__ T Y (k := 0)
  have G_Pattern___or__ : FnOk P w K mg base (CX P w) 60 T.d_Pattern___or__.f T.d_Pattern___or__.fd P_Pattern___or__ (sp_PatOr K T.C_Pattern Y.C_Unlike) := ok_Pattern___or__ T Y (k := 0)
  have G_Pattern_terms : FnOk P w K mg base CX0 1 T.d_Pattern_terms.f T.d_Pattern_terms.fd P_Pattern_terms (sp_PatTerms K T.C_Pattern) := ok_Pattern_terms T
  have G_Pattern___eq__ : FnOk P w K mg base CX0 1 T.d_Pattern___eq__.f T.d_Pattern___eq__.fd P_Pattern___eq__ (sp_PatternEq K T.C_Pattern) := ok_Pattern___eq__ T (k := 0)
  have G_Pattern___contains__ : FnOk P w K mg base CX0 5 T.d_Pattern___contains__.f T.d_Pattern___contains__.fd P_Pattern___contains__ (sp_PatternIn K T.C_Pattern) := ok_Pattern___contains__ T (k := 0)
  refine okG T.d_law.F sc_law (fun vs H Q E h => ?_) (fun cdv A outer s H vs Q E hgd hr h => ?_)
  · obtain ⟨_, _, rfl, _⟩ := h
    rfl
  · obtain ⟨a, sns, rfl, hS, hl63, q⟩ := h
    have hu64 := hr.units
    have hu65 := hu65_of hr
    refine ⟨_, (pss_cons (ps_set (i := 1) sc_law.nd rfl (Or.inl rfl) (pe_call G__law_bag (hr.mono (by omega)) rfl T.d__law_bag.g T.d__law_bag.F.kp T.d__law_bag.b .nil pass0 (pa_cons (pv 0) pa_nil))) (pss_cons (ps_set (i := 2) sc_law.nd rfl (Or.inl rfl) (pe_call G__law_names (hr.mono (by omega)) rfl T.d__law_names.g T.d__law_names.F.kp T.d__law_names.b .nil pass0 (pa_cons (pv 1) (pa_cons pe_int pa_nil)))) (pss_cons (ps_for PassesOwn.never rfl (pi_range1 (by rfl) T.b_range (pa_cons pe_int pa_nil)) (pg_name (i := 3) sc_law.nd rfl (Or.inl rfl)) (pss_cons (ps_set (i := 4) sc_law.nd rfl (Or.inl rfl) (pe_call G__law_rows (hr.mono (by omega)) rfl T.d__law_rows.g T.d__law_rows.F.kp T.d__law_rows.b .nil pass0 (pa_cons (pv 1) (pa_cons (pv 2) pa_nil)))) (pss_cons (ps_setLc (i := 5) (own := [("_law_row", 12)]) (g := gName 12) (by rfl) sc_law.nd rfl rfl (sw_true rfl rfl rfl (by decide +kernel)) (pi_seq (pv 4)) (blkOk_by (own := [("_law_row", 12)]) (N := N_law) (sc := defScope s_law) (by decide +kernel)) (fun _ _ _ _ _ => pg_name (i := 12) sc_law.nd rfl (Or.inl rfl)) (fun _ _ _ _ _ => pts_nil) (fun _ _ _ _ _ => (pe_makeS ⟨T.mk_Pattern, T.d_Pattern___init__.M.at_, T.d_Pattern___init__.M.fn, T.k_Pattern⟩ G_Pattern___init__ (hr.mono (by omega)) rfl T.g_Pattern T.d_Pattern___init__.b (fun σ => passAt takes0 σ) (pa_cons (pv 12) pa_nil)))) (pss_cons (ps_set (i := 6) sc_law.nd rfl (Or.inl rfl) (pe_call G__law_general (hr.mono (by omega)) rfl T.d__law_general.g T.d__law_general.F.kp T.d__law_general.b .nil pass0 (pa_cons (pe_lc (own := [("_law_pattern", 9)]) (g := gName 9) (by rfl) sc_law.nd (pi_seq (pv 5)) (blkOk_by (own := [("_law_pattern", 9)]) (N := N_law) (sc := defScope s_law) (by decide +kernel)) (fun _ _ _ _ _ => pg_name (i := 9) sc_law.nd rfl (Or.inl rfl)) (fun _ _ _ _ _ => pts_nil) (fun _ _ _ _ _ => (pe_callTy (r := rListG K) (call_listA rfl) (by rfl) T.b_list bt_list (pa_cons (pe_propSl (pv 9) T.c_Pattern T.d_Pattern_terms.at_ T.d_Pattern_terms.get T.d_Pattern_terms.tk T.d_Pattern_terms.rc (fnR_of G_Pattern_terms T.d_Pattern_terms.b) (hr.mono (by omega)) no0) pa_nil)))) pa_nil))) (pss_cons (ps_for PassesOwn.never rfl (pi_range1 (by rfl) T.b_range (pa_cons pe_int pa_nil)) (pg_name (i := 7) sc_law.nd rfl (Or.inl rfl)) (pss_cons (ps_set (i := 8) sc_law.nd rfl (Or.inr rfl) (pe_ix (r := rIx K) ix_seq (pv 5) pe_int (fun _ _ => rfl))) (pss_cons (ps_for PassesOwn.never rfl (pi_seq (pe_call G__law_mixed (hr.mono (by omega)) rfl T.d__law_mixed.g T.d__law_mixed.F.kp T.d__law_mixed.b .nil pass0 (pa_cons (pv 1) (pa_cons (pv 5) pa_nil)))) (pg_name (i := 9) sc_law.nd rfl (Or.inl rfl)) (pss_one (ps_set (i := 8) sc_law.nd rfl (Or.inr rfl) (pe_binS (k := 60) rfl dunder_or ⟨T.mul_Pattern, T.d_Pattern___or__.M.at_, T.d_Pattern___or__.M.fn⟩ G_Pattern___or__ (hr.mono (by omega)) T.d_Pattern___or__.b (fun σ => passAt takes0 σ) (pv 8) (pv 9))))) (pss_cons (ps_if (PW.pt (pw_or (pt_not (pt_val (pe_callG G__law_alike hgd (hr.mono (by omega)) rfl T.d__law_alike.g T.d__law_alike.F.kp T.d__law_alike.b .nil pass0 (pa_cons (pv 8) (pa_cons (pe_makeS ⟨T.mk_Pattern, T.d_Pattern___init__.M.at_, T.d_Pattern___init__.M.fn, T.k_Pattern⟩ G_Pattern___init__ (hr.mono (by omega)) rfl T.g_Pattern T.d_Pattern___init__.b (fun σ => passAt takes0 σ) (pa_cons (pv 6) pa_nil)) pa_nil))))) (pw_or1 (pt_not (pt_val (pe_callG G__law_alike hgd (hr.mono (by omega)) rfl T.d__law_alike.g T.d__law_alike.F.kp T.d__law_alike.b .nil pass0 (pa_cons (pe_propSl (pv 8) T.c_Pattern T.d_Pattern_terms.at_ T.d_Pattern_terms.get T.d_Pattern_terms.tk T.d_Pattern_terms.rc (fnR_of G_Pattern_terms T.d_Pattern_terms.b) (hr.mono (by omega)) no0) (pa_cons (pv 6) pa_nil)))))))) (pss_one (ps_ret pe_bl)) pss_nil) (pss_cons (ps_set (i := 10) sc_law.nd rfl (Or.inl rfl) (pe_binS (k := 60) rfl dunder_or ⟨T.mul_Pattern, T.d_Pattern___or__.M.at_, T.d_Pattern___or__.M.fn⟩ G_Pattern___or__ (hr.mono (by omega)) T.d_Pattern___or__.b (fun σ => passAt takes0 σ) (pe_ix (r := rIx K) ix_seq (pv 5) pe_int (fun _ _ => rfl)) (pe_ix (r := rIx K) ix_seq (pv 5) pe_int (fun _ _ => rfl)))) (pss_one (ps_if (PW.pt (pw_or (pt_not (pt_val (pe_callG G__law_alike hgd (hr.mono (by omega)) rfl T.d__law_alike.g T.d__law_alike.F.kp T.d__law_alike.b .nil pass0 (pa_cons (pe_propSl (pv 10) T.c_Pattern T.d_Pattern_terms.at_ T.d_Pattern_terms.get T.d_Pattern_terms.tk T.d_Pattern_terms.rc (fnR_of G_Pattern_terms T.d_Pattern_terms.b) (hr.mono (by omega)) no0) (pa_cons (pe_call G__law_general (hr.mono (by omega)) rfl T.d__law_general.g T.d__law_general.F.kp T.d__law_general.b .nil pass0 (pa_cons (pe_slice (r := rSlG K) sl_G (pv 4) po_none (po_some pe_int)) pa_nil)) pa_nil))))) (pw_or1 (pt_cmpR (r := rNeOwn K T.C_Pattern (sp_PatternEq K T.C_Pattern) _) (op_neOwn T.ne_Pattern T.is_Pattern.cm T.d_Pattern___eq__.M.at_ T.d_Pattern___eq__.M.fn (fnR_of G_Pattern___eq__ T.d_Pattern___eq__.b) (hr.mono (by omega)) pass0) (pv 10) (pe_binS (k := 60) rfl dunder_or ⟨T.mul_Pattern, T.d_Pattern___or__.M.at_, T.d_Pattern___or__.M.fn⟩ G_Pattern___or__ (hr.mono (by omega)) T.d_Pattern___or__.b (fun σ => passAt takes0 σ) (pe_ix (r := rIx K) ix_seq (pv 5) pe_int (fun _ _ => rfl)) (pe_ix (r := rIx K) ix_seq (pv 5) pe_int (fun _ _ => rfl))) (nomark _))))) (pss_one (ps_ret pe_bl)) pss_nil))))))) (pss_cons (ps_if (PW.pt (pw_or (pt_cmpR (r := rNeNil K) (op_neNil (Nat.lt_of_le_of_lt (Nat.le_add_right _ 65) hu65)) (pe_lc (own := [("_law_row", 12)]) (g := gName 12) (by rfl) sc_law.nd (pi_seq (pv 4)) (blkOk_by (own := [("_law_row", 12)]) (N := N_law) (sc := defScope s_law) (by decide +kernel)) (fun _ _ _ _ _ => pg_name (i := 12) sc_law.nd rfl (Or.inl rfl)) (fun _ _ _ _ _ => (pts_one (pt_cmpR (r := rInOwn K T.C_Pattern (sp_PatternIn K T.C_Pattern) _ true) (op_notInOwn T.d_Pattern___contains__.M.at_ T.d_Pattern___contains__.M.fn (fnR_of G_Pattern___contains__ T.d_Pattern___contains__.b) (hr.mono (by omega)) pass0) (pe_callTy (r := rTupOf K) call_tupG (by rfl) T.b_tuple bt_tuple (pa_cons (pv 12) pa_nil)) (pv 8) rfl))) (fun _ _ _ _ _ => (pv 12))) (pe_lst pa_nil) (nomark _)) (pw_or1 (pt_cmpR (r := rNeOwn K T.C_Pattern (sp_PatternEq K T.C_Pattern) _) (op_neOwn T.ne_Pattern T.is_Pattern.cm T.d_Pattern___eq__.M.at_ T.d_Pattern___eq__.M.fn (fnR_of G_Pattern___eq__ T.d_Pattern___eq__.b) (hr.mono (by omega)) pass0) (pe_binS (k := 60) rfl dunder_or ⟨T.mul_Pattern, T.d_Pattern___or__.M.at_, T.d_Pattern___or__.M.fn⟩ G_Pattern___or__ (hr.mono (by omega)) T.d_Pattern___or__.b (fun σ => passAt takes0 σ) (pv 8) (pv 8)) (pv 8) (nomark _))))) (pss_one (ps_ret pe_bl)) pss_nil) (pss_cons (ps_setLc (i := 11) (own := [("_law_row", 12)]) (g := gName 12) (by rfl) sc_law.nd rfl rfl (sw_true rfl rfl rfl (by decide +kernel)) (pi_seq (pv 4)) (blkOk_by (own := [("_law_row", 12)]) (N := N_law) (sc := defScope s_law) (by decide +kernel)) (fun _ _ _ _ _ => pg_name (i := 12) sc_law.nd rfl (Or.inl rfl)) (fun _ _ _ _ _ => pts_nil) (fun _ _ _ _ _ => (pe_makeS ⟨T.mk_Pattern, T.d_Pattern___init__.M.at_, T.d_Pattern___init__.M.fn, T.k_Pattern⟩ G_Pattern___init__ (hr.mono (by omega)) rfl T.g_Pattern T.d_Pattern___init__.b (fun σ => passAt takes0 σ) (pa_cons (pe_op (r := rAddG K) op_addG (pv 12) (pe_lst (pa_cons pe_int pa_nil))) pa_nil)))) (pss_cons (ps_if (PW.pt (pw_or (pt_not (pt_val (pe_callG G__law_unlike hgd (hr.mono (by omega)) rfl T.d__law_unlike.g T.d__law_unlike.F.kp T.d__law_unlike.b .nil pass0 (pa_cons (pe_ix (r := rIx K) ix_seq (pv 5) pe_int (fun _ _ => rfl)) (pa_cons (pe_ix (r := rIx K) ix_seq (pv 11) pe_int (fun _ _ => rfl)) pa_nil))))) (pw_or1 (pt_not (pt_val (pe_callG G__law_unlike hgd (hr.mono (by omega)) rfl T.d__law_unlike.g T.d__law_unlike.F.kp T.d__law_unlike.b .nil pass0 (pa_cons (pe_ix (r := rIx K) ix_seq (pv 11) (pe_un un_neg pe_int) (fun _ _ => rfl)) (pa_cons (pe_ix (r := rIx K) ix_seq (pv 5) (pe_un un_neg pe_int) (fun _ _ => rfl)) pa_nil)))))))) (pss_one (ps_ret pe_bl)) pss_nil) (pss_one (ps_if (pt_cmpR (r := rNeG K) (op_neG hu64) (pe_lc (own := [("_law_pattern", 9)]) (g := gName 9) (by rfl) sc_law.nd (pi_seq (pv 5)) (blkOk_by (own := [("_law_pattern", 9)]) (N := N_law) (sc := defScope s_law) (by decide +kernel)) (fun _ _ _ _ _ => pg_name (i := 9) sc_law.nd rfl (Or.inl rfl)) (fun _ _ _ _ _ => pts_nil) (fun _ _ _ _ _ => (pe_propSl (pv 9) T.c_Pattern T.d_Pattern_terms.at_ T.d_Pattern_terms.get T.d_Pattern_terms.tk T.d_Pattern_terms.rc (fnR_of G_Pattern_terms T.d_Pattern_terms.b) (hr.mono (by omega)) no0))) (pe_lc (own := [("_law_row", 12)]) (g := gName 12) (by rfl) sc_law.nd (pi_seq (pv 4)) (blkOk_by (own := [("_law_row", 12)]) (N := N_law) (sc := defScope s_law) (by decide +kernel)) (fun _ _ _ _ _ => pg_name (i := 12) sc_law.nd rfl (Or.inl rfl)) (fun _ _ _ _ _ => pts_nil) (fun _ _ _ _ _ => (pe_call G__law_general (hr.mono (by omega)) rfl T.d__law_general.g T.d__law_general.F.kp T.d__law_general.b .nil pass0 (pa_cons (pe_lst (pa_cons (pv 12) pa_nil)) pa_nil)))) (nomark _)) (pss_one (ps_ret pe_bl)) pss_nil)))))))))) (pss_one (ps_ret pe_bl))))), ?_⟩
    refine ⟨.ref a, rfl, a, sns, rfl, hS, hl63, fun H1 b m1 nb hB1 => ?_⟩
    refine ⟨.ref b, rfl, b, 3, rfl, hB1, by decide, by decide, fun nm ns H2 hxl hxN nn en d2 => ?_⟩
    have hnb : nm ≠ b := hB1.fneq nn
    have hB2 := d2.bag hB1
    have hN2 : NmsP H2 b nm ns := ⟨en, hnb, by simpa using hxl, hxN⟩
    refine ⟨6, rfl, by decide, by decide, ?_⟩
    refine for_range (lo := 0) (n := (6 : Int).toNat) (fun i σ H3 => ∃ (y3 y4 y5 y6 y7 y8 y9 y10 y11 : Option V), σ = [some (.ref a), some (.ref b), some (.ref nm), y3, y4, y5, y6, y7, y8, y9, y10, y11, none] ∧ Bag H3 b ∧ NmsP H3 b nm ns)
      ⟨_, _, _, _, _, _, _, _, _, rfl, hB2, hN2⟩ (fun i σ H3 hi h3 => ?_) (fun σ H3 h3 => ?_)
    · obtain ⟨y3, y4, y5, y6, y7, y8, y9, y10, y11, rfl, hB3, hN3⟩ := h3
      refine ⟨.ref b, rfl, .ref nm, rfl, b, nm, ns, rfl, hB3, hN3, fun rl zs wd first rest H4 nrl e4 c4 hRF hr1 d4 => ?_⟩
      have hB4 := d4.bag hB3
      have hN4 := hN3.dr d4
      have hrb : rl ≠ b := hB3.fneq nrl
      have hzl : zs.length = rest.length + 1 := paired_len c4
      have hfew := hRF.few
      have hwide := hRF.wide
      refine ⟨.ref rl, rfl, rl, rfl, ?_⟩
      refine lc_seq (xs := zs) (.inl (.inl (.inl e4))) (fun i D H5 => ∃ pa : List (Addr × List Tm), H5 D = some (.lst (pa.map patV)) ∧ pa.map (·.2) = ((first :: rest).take i).map (fun r => canon (Tm.gts r)) ∧ (∀ e ∈ pa, PatAt K H5 T.C_Pattern e.1 e.2) ∧ Mv [] H4 H5)
        (fun D nD => ⟨[], upd_same, rfl, fun e he => (by cases he), .new nD⟩) (fun j D H5 nD h5 => h5.elim fun _ h => h.2.2.2) (fun D nD j y H5 hy h5 => ?_) (fun pl H5 npl h5 => ?_)
      · obtain ⟨pa, e5, t5, p5, m5⟩ := h5
        obtain ⟨r, ra, rxs, hr', rfl, hrS, hra, hrx⟩ := (c4.mv (m5.mono (by simp))).get hy
        have hmem := List.mem_of_getElem? hr'
        have hj := (List.getElem?_eq_some_iff.mp hr').1
        have hpl : pa.length = j := by
          have := congrArg List.length t5
          rw [List.length_map, List.length_map, List.length_take] at this
          omega
        have hrow := hRF.row r hmem
        refine ⟨rfl, .ref ra, rfl, ?_⟩
        intro z dz nz ndz hne
        refine ⟨z, dz, .ref ra, H5, rfl, rfl, nz, ndz, hne, .inl ⟨ra, rxs, r, rfl, .inl hra, hrx, (hrow.ptO (by omega)).ptf, fun H6 m6 hP => ⟨rfl, ?_⟩⟩⟩
        have e6 := m6.same _ _ e5
        rw [List.length_cons] at hj
        refine ⟨_, e6, by rw [List.length_map, hpl]; exact line5lt (by omega), pa ++ [(z, canon (Tm.gts r))], by rw [upd_same, List.map_append]; rfl, ?_, fun e he => ?_, (m5.trans m6).wr nD⟩
        · rw [List.map_append, t5, List.take_add_one, hr', List.map_append]
          rfl
        · rcases List.mem_append.mp he with he | he
          · exact ((p5 e he).mv m6).putL e6
          · rw [List.mem_singleton.mp he]
            exact hP.putL e6
      obtain ⟨pa, e5, t5, p5, m5⟩ := h5
      rw [hzl, List.take_of_length_le (by simp)] at t5
      have hB5 := hB4.mv m5
      have hplb : pl ≠ b := hB4.fneq npl
      have hpal : pa.length = rest.length + 1 := by
        have := congrArg List.length t5
        rw [List.length_map, List.length_map] at this
        exact this
      refine ⟨.ref pl, rfl, pl, rfl, ?_⟩
      refine lc_seq (xs := pa.map patV) (.inl (.inl (.inl e5))) (fun i D H6 => ∃ ls, H6 D = some (.lst ls) ∧ ColsAt K [D] H6 ls ((pa.map (·.2)).take i) ∧ Mv [] H5 H6)
        (fun D nD => ⟨[], upd_same, .nil, .new nD⟩) (fun j D H6 nD h6 => h6.elim fun _ h => h.2.2) (fun D nD j y H6 hy h6 => ?_) (fun D H6 nD h6 => ?_)
      · obtain ⟨ls, e6, c6, m6⟩ := h6
        rw [List.getElem?_map] at hy
        obtain ⟨e, he, rfl⟩ := Option.map_eq_some_iff.mp hy
        have hj := (List.getElem?_eq_some_iff.mp he).1
        have hP := (p5 e (List.mem_of_getElem? he)).mv m6
        obtain ⟨dx, pp, px, hs, _, _⟩ := id hP
        have hll : ls.length = j := by rw [paired_len c6, List.length_take, List.length_map]; omega
        refine ⟨rfl, .ref e.1, rfl, e.1, dx, _, rfl, hs, e.1, e.2, rfl, hP, fun v im => ?_⟩
        obtain ⟨g, gs, rfl, hg, hgs⟩ := im.tupI
        refine Or.inl (rd_listOf (.inr hg) fun l2 H7 n7 m7 e7 => ?_)
        have e67 := m7.same _ _ e6
        have m8 : Mv [D] H7 (upd H7 D (.lst (ls ++ [.ref l2]))) := .set e67 (by simp)
        have hlD : l2 ≠ D := (ne_of_none e6 n7).symm
        refine ⟨ls, e67, by rw [hll]; exact line5lt (by omega), ls ++ [.ref l2], upd_same, ?_, (m6.trans m7).wr nD⟩
        rw [List.take_add_one, List.getElem?_map, he]
        refine paired_snocN ((c6.mv (m7.mono (by simp))).mv m8) ⟨l2, gs, rfl, by simpa using hlD, ?_, (hgs.mv m7).mv m8⟩
        rw [upd_ne hlD]
        exact e7
      obtain ⟨ls, e6, c6, m6⟩ := h6
      rw [List.length_map, ← List.length_map (f := fun e : Addr × List Tm => e.2), List.take_length, t5, List.map_cons] at c6
      have hfirst := hRF.row first List.mem_cons_self
      have hown : ∀ r ∈ first :: rest, GenF (canon (Tm.gts r)) := fun r hr => hRF.own hr
      refine ⟨D, ls, _, _, rfl, e6, c6.mono (by simp), fun c hc => ?_, by simpa using hfew, by have := (hown first List.mem_cons_self).nod; omega, fun dv H7 m7 im7 => ?_⟩
      · obtain ⟨r, hr, rfl⟩ := List.mem_map.mp (show c ∈ (first :: rest).map fun r => canon (Tm.gts r) from hc)
        refine ⟨(hown r hr).colF, ?_⟩
        rw [canon_len, canon_len, (hRF.row r hr).len, hfirst.len]
      rw [hRF.due] at im7
      obtain ⟨dp, dxs, rfl, hdp, hdx⟩ := im7.tupI
      have m47 := m5.trans (m6.trans m7)
      have hI7 : I15 K T.C_Pattern b nm rl pl dp ns zs dxs (first :: rest) pa (genR wd (first :: rest)) H7 :=
        ⟨hB4.mv m47, hN4.dr (.of m47), m47.same _ _ e4, (c4.mono (by simp)).mv (m47.mono (by simp)), (m6.trans m7).same _ _ e5, fun e he => (p5 e he).mv (m6.trans m7), hdp, hdx⟩
      have hgen := hRF.gen
      obtain ⟨x0, hx0⟩ : ∃ x0, pa[0]? = some (x0, canon (Tm.gts first)) := by
        have h0 := congrArg (fun l => l[0]?) t5
        simp only [List.getElem?_map, List.map_cons, List.getElem?_cons_zero] at h0
        obtain ⟨e, he, h0⟩ := Option.map_eq_some_iff.mp h0
        exact ⟨e.1, by rw [he, ← h0]⟩
      obtain ⟨r1, rest', hrest⟩ : ∃ r1 rest', rest = r1 :: rest' := by
        cases rest with
        | nil => simp at hr1
        | cons r1 rest' => exact ⟨r1, rest', rfl⟩
      obtain ⟨x1, hx1⟩ : ∃ x1, pa[1]? = some (x1, canon (Tm.gts r1)) := by
        have h0 := congrArg (fun l => l[1]?) t5
        rw [hrest] at h0
        simp only [List.getElem?_map, List.map_cons, List.getElem?_cons_succ, List.getElem?_cons_zero] at h0
        obtain ⟨e, he, h0⟩ := Option.map_eq_some_iff.mp h0
        exact ⟨e.1, by rw [he, ← h0]⟩
      have hr1m : r1 ∈ rest := by rw [hrest]; exact List.mem_cons_self
      refine ⟨2, rfl, by decide, by decide, ?_⟩
      refine for_range (lo := 0) (n := (2 : Int).toNat) (fun j σ H8 => ∃ (y7 y8 y9 y10 : Option V), σ = [some (.ref a), some (.ref b), some (.ref nm), some (.int (0 + (i : Int))), some (.ref rl), some (.ref pl), some (.ref dp), y7, y8, y9, y10, y11, none] ∧
        I15 K T.C_Pattern b nm rl pl dp ns zs dxs (first :: rest) pa (genR wd (first :: rest)) H8 ∧ (0 < j → ∃ fx, y8 = some (.ref fx) ∧ PatAt K H8 T.C_Pattern fx (genR wd (first :: rest))))
        ⟨y7, y8, y9, y10, rfl, hI7, fun z => absurd z (Nat.lt_irrefl 0)⟩ (fun j σ H8 hj h8 => ?_) (fun σ H8 h8 => ?_)
      · obtain ⟨y7, y8, y9, y10, rfl, hI8, _⟩ := h8
        refine ⟨.ref pl, rfl, rd_ixL (.inl (.inl hI8.pl)) (by decide) (v := .ref x0) (by rw [List.getElem?_map]; exact congrArg (Option.map patV) hx0) ?_⟩
        refine ⟨.ref b, rfl, .ref pl, rfl, b, pl, pa.map patV, rfl, hI8.bag, .inl ⟨hI8.pl, hplb⟩, by rw [List.length_map]; omega, fun ml ys H9 hperm nml eml d9 => ?_⟩
        obtain ⟨L, rfl, hL⟩ := perm_map15 hperm
        have hI9 := hI8.dr d9 hrb hplb
        have hmlb : ml ≠ b := hI8.bag.fneq nml
        have hP0 : PatAt K H9 T.C_Pattern x0 (canon (Tm.gts first)) := hI9.pats _ (List.mem_of_getElem? hx0)
        refine ⟨ml, rfl, Or.inl ⟨⟨_, .inl (.inl eml)⟩, ?_⟩⟩
        refine for_list (K := K) (a := ml) (xs := L.map patV) (fun k σ H10 => ∃ (fx : Addr) (y9 : Option V), σ = [some (.ref a), some (.ref b), some (.ref nm), some (.int (0 + (i : Int))), some (.ref rl), some (.ref pl), some (.ref dp), some (.int (0 + (j : Int))), some (.ref fx), y9, y10, y11, none] ∧
          PatAt K H10 T.C_Pattern fx (genR wd (canon (Tm.gts first) :: (L.map (·.2)).take k)) ∧ Mv [] H9 H10)
          ⟨x0, y9, rfl, ?_, .refl⟩ (fun k σ H10 _ h10 => ?_) (fun k v σ H10 hv h10 => ?_) (fun σ H10 h10 => ?_)
        · have e0 : genR wd [canon (Tm.gts first)] = canon (Tm.gts first) := by
            have := genR_one (canon (Tm.gts first))
            rw [canon_len, hfirst.len, canon_canon] at this
            exact this
          rw [List.take_zero, e0]
          exact hP0
        · obtain ⟨fx, y9, rfl, hfx, m10⟩ := h10
          exact .inl (.inl (m10.same _ _ eml))
        · obtain ⟨fx, y9, rfl, hfx, m10⟩ := h10
          rw [List.getElem?_map] at hv
          obtain ⟨e, he, rfl⟩ := Option.map_eq_some_iff.mp hv
          have hem : e ∈ pa := hL.mem_iff.mp (List.mem_of_getElem? he)
          have hPe := (hI9.pats e hem).mv m10
          obtain ⟨r, hr, hre⟩ : ∃ r ∈ first :: rest, canon (Tm.gts r) = e.2 := by
            have : e.2 ∈ (first :: rest).map fun r => canon (Tm.gts r) := by rw [← t5]; exact List.mem_map.mpr ⟨e, hem, rfl⟩
            obtain ⟨r, hr, h⟩ := List.mem_map.mp this
            exact ⟨r, hr, h⟩
          have hOf : PtO (genR wd (canon (Tm.gts first) :: (L.map (·.2)).take k)) := by
            have := (hown first List.mem_cons_self).ptO.gen (rest := (L.map (·.2)).take k)
            rw [genL_R, canon_len, hfirst.len] at this
            exact this
          have hOe : PtO e.2 := by rw [← hre]; exact (hown r hr).ptO
          have hle : e.2.length = wd := by rw [← hre, canon_len, (hRF.row r hr).len]
          obtain ⟨dx, pp, px, hs, _, _⟩ := id hfx
          obtain ⟨dx2, pp2, px2, hs2, _, _⟩ := id hPe
          refine ⟨.ref fx, rfl, .ref e.1, rfl, fx, e.1, dx, dx2, _, _, rfl, rfl, hs, hs2, fx, e.1, _, e.2, rfl, hfx, hPe, hOf, hOe, fun hw => absurd (by rw [genR_len, hle]) hw, fun _ z H11 m11 hz => ⟨⟨z, rfl⟩, z, _, rfl, ?_, m10.trans m11⟩⟩
          rw [genR_step (by simp)] at hz
          rw [List.take_add_one, List.getElem?_map, he]
          exact hz
        · obtain ⟨fx, y9, rfl, hfx, m10⟩ := h10
          rw [List.length_map, ← List.length_map (f := fun e : Addr × List Tm => e.2), List.take_length, hRF.fold fun r => by
            rw [← t5]
            exact (hL.map _).mem_iff] at hfx
          have hI10 := hI9.mv m10
          refine ⟨.ref fx, rfl, .ref dp, rfl, ?_⟩
          intro z dz nz ndz hne
          refine ⟨z, dz, .ref dp, H10, rfl, rfl, nz, ndz, hne, .inl ⟨dp, dxs, _, rfl, .inr hI10.dp, hI10.dx, hgen.ptO.ptf, fun H11 m11 hz => ⟨rfl, ?_⟩⟩⟩
          rw [genR_canon] at hz
          have hfx11 := hfx.mv m11
          have hI11 := hI10.mv m11
          refine Or.inr ⟨fx, z, _, rfl, hfx11, hz, hgen, ?_⟩
          refine ⟨_, rfl, ?_⟩
          obtain ⟨dx, pp, px, hs, _, _⟩ := id hfx11
          refine ⟨.ref fx, rfl, fx, dx, _, rfl, hs, fx, _, rfl, hfx11, fun v im => ⟨.ref dp, rfl, Or.inl ⟨v, .ref dp, _, rfl, im.dp, (Im.tup hI11.dp hI11.dx).dp, hgen.shw, ?_⟩⟩⟩
          refine ⟨_, rfl, ?_⟩
          obtain ⟨htw1, htw2, htwg⟩ := hRF.two hr1m
          have hO0 := (hown first List.mem_cons_self).ptO
          have hO1 := (hown r1 (List.mem_cons_of_mem _ hr1m)).ptO
          have hl1 := (hRF.row r1 (List.mem_cons_of_mem _ hr1m)).len
          have hpl0 : (pa.map patV)[(0 : Int).toNat]? = some (.ref x0) := by rw [List.getElem?_map]; exact congrArg (Option.map patV) hx0
          have hpl1 : (pa.map patV)[(1 : Int).toNat]? = some (.ref x1) := by rw [List.getElem?_map]; exact congrArg (Option.map patV) hx1
          have hP0' : PatAt K H11 T.C_Pattern x0 (canon (Tm.gts first)) := hI11.pats _ (List.mem_of_getElem? hx0)
          have hP1' : PatAt K H11 T.C_Pattern x1 (canon (Tm.gts r1)) := hI11.pats _ (List.mem_of_getElem? hx1)
          obtain ⟨dx0, pp0, px0, hs0, _, _⟩ := id hP0'
          obtain ⟨dx1, pp1, px1, hs1, _, _⟩ := id hP1'
          refine ⟨.ref pl, rfl, rd_ixL (.inl (.inl hI11.pl)) (by decide) hpl0 ⟨.ref pl, rfl, rd_ixL (.inl (.inl hI11.pl)) (by decide) hpl1 ?_⟩⟩
          refine ⟨x0, x1, dx0, dx1, _, _, rfl, rfl, hs0, hs1, x0, x1, _, _, rfl, hP0', hP1', hO0, hO1, fun hw => absurd (by rw [canon_len, canon_len, hfirst.len, hl1]) hw, fun _ tw H12 m12 htw => ⟨⟨tw, rfl⟩, ?_⟩⟩
          rw [htw1] at htw
          have hI12 := hI11.mv m12
          obtain ⟨dxt, ppt, pxt, hst, _, _⟩ := id htw
          refine ⟨.ref tw, rfl, tw, dxt, _, rfl, hst, tw, _, rfl, htw, fun v im => ?_⟩
          refine ⟨.ref rl, rfl, 2, rfl, rd_slL15 hI12.rl (by decide) fun sl nsl => ?_⟩
          have m13 : Mv [] H12 (upd H12 sl (.lst (zs.take (2 : Int).toNat))) := .new nsl
          have e13 : upd H12 sl (.lst (zs.take (2 : Int).toNat)) sl = some (.lst (zs.take (2 : Int).toNat)) := upd_same
          generalize upd H12 sl (.lst (zs.take (2 : Int).toNat)) = H13 at m13 e13 ⊢
          have hI13 := hI12.mv m13
          have c13 : ColsAt K [] H13 (zs.take 2) [first, r1] := by
            have := paired_take15 2 (hI13.cols.mono (S' := []) (by simp))
            rwa [hrest] at this
          refine ⟨sl, _, first, [r1], rfl, e13, c13, fun c hc => ?_, by simp, by have := hfirst.nod (by omega); omega, fun gv H14 m14 img => ?_⟩
          · rcases List.mem_cons.mp hc with rfl | hc
            · exact ⟨hfirst.colF, rfl⟩
            · rw [List.mem_singleton.mp hc]
              exact ⟨(hRF.row r1 (List.mem_cons_of_mem _ hr1m)).colF, by rw [hl1, hfirst.len]⟩
          have m1214 := m13.trans m14
          refine Or.inl ⟨v, gv, _, rfl, (im.mv m1214).dp, img.dp, htwg.shw, ?_⟩
          refine ⟨_, rfl, ?_⟩
          have hI14 := hI13.mv m14
          have m1114 := m12.trans m1214
          have hP0'' := hP0'.mv m1114
          have hP1'' := hP1'.mv m1114
          obtain ⟨ex0, pp0, px0, hs0, _, _⟩ := id hP0''
          obtain ⟨ex1, pp1, px1, hs1, _, _⟩ := id hP1''
          refine ⟨.ref tw, rfl, .ref pl, rfl, rd_ixL (.inl (.inl hI14.pl)) (by decide) hpl1 ⟨.ref pl, rfl, rd_ixL (.inl (.inl hI14.pl)) (by decide) hpl0 ?_⟩⟩
          refine ⟨x1, x0, ex1, ex0, _, _, rfl, rfl, hs1, hs0, x1, x0, _, _, rfl, hP1'', hP0'', hO1, hO0, fun hw => absurd (by rw [canon_len, canon_len, hfirst.len, hl1]) hw, fun _ t2 H15 m15 ht2 => ⟨⟨t2, rfl⟩, ?_⟩⟩
          rw [htw2] at ht2
          have htw15 := htw.mv (m1214.trans m15)
          obtain ⟨dxt, ppt, pxt, hst, _, _⟩ := id htw15
          obtain ⟨dxu, ppu, pxu, hsu, _, _⟩ := id ht2
          refine ⟨tw, dxt, _, rfl, hst, .inl ⟨t2, T.C_Pattern, dxu, _, rfl, hsu, by simp [PySem.W.notFirst]⟩, tw, _, .ref t2, rfl, htw15, htwg.ptC, .inl ⟨t2, _, rfl, ht2, htwg.ptC, ?_⟩⟩
          rw [decide_eq_true rfl]
          refine ⟨true, rfl, _, rfl, ?_⟩
          exact ⟨_, _, _, _, rfl, hI14.mv m15, fun _ => ⟨fx, rfl, hfx11.mv (m1114.trans m15)⟩⟩
      · obtain ⟨y7, y8, y9, y10, rfl, hI8, hf8⟩ := h8
        obtain ⟨fx, rfl, hfx⟩ := hf8 (by decide)
        refine ⟨.ref rl, rfl, rl, rfl, ?_⟩
        refine lc_seq (xs := zs) (.inl (.inl (.inl hI8.rl))) (fun j D H9 => H9 D = some (.lst []) ∧ Mv [] H8 H9)
          (fun D nD => ⟨upd_same, .new nD⟩) (fun j D H9 nD h9 => h9.2) (fun D nD j y H9 hy h9 => ?_) (fun D H9 nD h9 => ?_)
        · obtain ⟨e9, m9⟩ := h9
          obtain ⟨r, ra, rxs, hr', rfl, hrS, hra, hrx⟩ := (hI8.cols.mv (m9.mono (by simp))).get hy
          have hmem := List.mem_of_getElem? hr'
          have hrow := hRF.row r hmem
          refine ⟨rfl, .ref ra, rfl, ?_⟩
          walk_at "nc"
          refine rd_tupOf (.inl (.inl hra)) fun p10 H10 m10 e10 => ?_
          have hfx10 := hfx.mv (m9.trans m10)
          obtain ⟨dx, pp, px, hs, _, _⟩ := id hfx10
          have hok : Tm.oks (fun i => 0 ≤ i ∧ i.natAbs < 10 ^ 40) r := Tm.oks_iff.mpr fun t ht => (hrow.colF t ht).1
          refine ⟨.ref fx, rfl, fx, dx, _, rfl, hs, fx, b, _, .ref p10, some r, rfl, hfx10, hgen.ptC, .tms e10 (hrx.mv m10) hok (Nat.le_trans hrow.dep (by decide)) ?_, fun H11 m11 => ⟨_, rfl, ?_⟩⟩
          · have h1 := ths_nod r
            have h2 := hrow.nod (by omega)
            unfold Tm.nod at h2
            simp only [Th.cnt]
            omega
          · have hin : instB (genR wd (first :: rest)) (some r) = true := by
              have := genR_inst (wd := wd) (R := first :: rest) (fun s hs => (hRF.row s hs).len) hmem
              simp [instB, this, genR_len, hrow.len]
            rw [hin]
            exact ⟨false, rfl, (m10.trans m11).same _ _ e9, m9.trans (m10.trans m11)⟩
        obtain ⟨e9, m9⟩ := h9
        refine ⟨Nat.zero_le _, fun q1 nq1 => ?_⟩
        have m10 : Mv [] H9 (upd H9 q1 (.lst [])) := .new nq1
        have e10 : upd H9 q1 (.lst []) q1 = some (.lst []) := upd_same
        generalize upd H9 q1 (.lst []) = H10 at m10 e10 ⊢
        refine ⟨D, q1, [], rfl, rfl, .inl (.inl (m10.same _ _ e9)), .inl (.inl e10), ?_⟩
        refine ⟨_, rfl, ?_⟩
        have m810 := m9.trans m10
        have hfx10 := hfx.mv m810
        obtain ⟨dx, pp, px, hs, _, _⟩ := id hfx10
        refine ⟨.ref fx, rfl, .ref fx, rfl, fx, fx, dx, dx, _, _, rfl, rfl, hs, hs, fx, fx, _, _, rfl, hfx10, hfx10, hgen.ptO, hgen.ptO, fun hw => absurd rfl hw, fun _ z H11 m11 hz => ⟨⟨z, rfl⟩, ?_⟩⟩
        rw [genR_self] at hz
        have hfx11 := hfx10.mv m11
        obtain ⟨dx', pp', px', hs', _, _⟩ := id hfx11
        obtain ⟨dz, pz, pxz, hsz, _, _⟩ := id hz
        refine ⟨.ref fx, rfl, z, dz, _, rfl, hsz, .inl ⟨fx, T.C_Pattern, dx', _, rfl, hs', by simp [PySem.W.notFirst]⟩, z, _, .ref fx, rfl, hz, hgen.ptC, .inl ⟨fx, _, rfl, hfx11, hgen.ptC, ?_⟩⟩
        rw [decide_eq_true rfl]
        refine ⟨true, rfl, _, rfl, ?_⟩
        have hI11 := hI8.mv (m810.trans m11)
        refine ⟨.ref rl, rfl, rl, rfl, ?_⟩
        refine lc_seq (xs := zs) (.inl (.inl (.inl hI11.rl))) (fun i D H5 => ∃ po : List (Addr × List Tm), H5 D = some (.lst (po.map patV)) ∧ po.map (·.2) = ((first :: rest).take i).map (fun r => canon (Tm.gts (r ++ [.var 0]))) ∧ (∀ e ∈ po, PatAt K H5 T.C_Pattern e.1 e.2) ∧ Mv [] H11 H5)
          (fun D nD => ⟨[], upd_same, rfl, fun e he => (by cases he), .new nD⟩) (fun j D H5 nD h5 => h5.elim fun _ h => h.2.2.2) (fun D nD j y H5 hy h5 => ?_) (fun ol H12 nol h12 => ?_)
        · obtain ⟨po, e5, t5', p5', m5'⟩ := h5
          obtain ⟨r, ra, rxs, hr', rfl, hrS, hra, hrx⟩ := (hI11.cols.mv (m5'.mono (by simp))).get hy
          have hmem := List.mem_of_getElem? hr'
          have hj := (List.getElem?_eq_some_iff.mp hr').1
          have hpl : po.length = j := by
            have := congrArg List.length t5'
            rw [List.length_map, List.length_map, List.length_take] at this
            omega
          have hrow := hRF.row r hmem
          have hrxl : rxs.length = wd := by rw [hrx.length, Tm.ds_map, List.length_map, hrow.len]
          refine ⟨rfl, .ref ra, rfl, (by decide : 1 ≤ sizeLine), fun ql nql => ?_⟩
          have m6 : Mv [] H5 (upd H5 ql (.lst [.int 0])) := .new nql
          have e6 : upd H5 ql (.lst [.int 0]) ql = some (.lst [.int 0]) := upd_same
          generalize upd H5 ql (.lst [.int 0]) = H6 at m6 e6 ⊢
          refine rd_catL (m6.same _ _ hra) e6 (by rw [hrxl, List.length_singleton]; exact Nat.le_of_lt (line5lt (by omega))) fun p7 H7 n7 m7 e7 => ?_
          intro z dz nz ndz hne
          have hx7 : Ims K H7 (rxs ++ [.int 0]) (Tm.ds (r ++ [.var 0])) := by
            rw [Tm.ds_append]
            exact (hrx.mv (m6.trans m7)).append (Ims.cons (.int 0) Ims.nil)
          refine ⟨z, dz, .ref p7, H7, rfl, rfl, nz, ndz, hne, .inl ⟨p7, _, r ++ [.var 0], rfl, .inl e7, hx7, ((row_zero hrow).ptO (by omega)).ptf, fun H8 m8 hP => ⟨rfl, ?_⟩⟩⟩
          have e8 := (m6.trans (m7.trans m8)).same _ _ e5
          rw [List.length_cons] at hj
          refine ⟨_, e8, by rw [List.length_map, hpl]; exact line5lt (by omega), po ++ [(z, canon (Tm.gts (r ++ [.var 0])))], by rw [upd_same, List.map_append]; rfl, ?_, fun e he => ?_, (m5'.trans (m6.trans (m7.trans m8))).wr nD⟩
          · rw [List.map_append, t5', List.take_add_one, hr', List.map_append]
            rfl
          · rcases List.mem_append.mp he with he | he
            · exact ((p5' e he).mv (m6.trans (m7.trans m8))).putL e8
            · rw [List.mem_singleton.mp he]
              exact hP.putL e8
        obtain ⟨po, e12, t12, p12, m12⟩ := h12
        rw [hzl, List.take_of_length_le (by simp)] at t12
        have hI12 := hI11.mv m12
        have hpot : ∀ e ∈ po, PtO e.2 ∧ e.2.length = wd + 1 := fun e he => by
          have : e.2 ∈ (first :: rest).map fun r => canon (Tm.gts (r ++ [.var 0])) := by rw [← t12]; exact List.mem_map.mpr ⟨e, he, rfl⟩
          obtain ⟨r, hr, h⟩ := List.mem_map.mp this
          rw [← h, canon_len, List.length_append, (hRF.row r hr).len]
          refine ⟨?_, rfl⟩
          have := ((row_zero (hRF.row r hr)).ptO (by omega)).gen (rest := [])
          rwa [genL_nil] at this
        have hpat : ∀ e ∈ pa, PtO e.2 ∧ e.2.length = wd := fun e he => by
          have : e.2 ∈ (first :: rest).map fun r => canon (Tm.gts r) := by rw [← t5]; exact List.mem_map.mpr ⟨e, he, rfl⟩
          obtain ⟨r, hr, h⟩ := List.mem_map.mp this
          rw [← h, canon_len, (hRF.row r hr).len]
          exact ⟨(hown r hr).ptO, rfl⟩
        have hpol : po.length = rest.length + 1 := by
          have := congrArg List.length t12
          rw [List.length_map, List.length_map] at this
          exact this
        obtain ⟨o0, ho0⟩ : ∃ o0, po[0]? = some o0 := ⟨_, List.getElem?_eq_getElem (by omega)⟩
        have hpl0 : (pa.map patV)[(0 : Int).toNat]? = some (.ref x0) := by rw [List.getElem?_map]; exact congrArg (Option.map patV) hx0
        have hol0 : (po.map patV)[(0 : Int).toNat]? = some (patV o0) := by rw [List.getElem?_map]; exact congrArg (Option.map patV) ho0
        have hm0 := List.mem_of_getElem? hx0
        have hmo := List.mem_of_getElem? ho0
        refine ⟨.ref pl, rfl, rd_ixL (.inl (.inl hI12.pl)) (by decide) hpl0 ⟨.ref ol, rfl, rd_ixL (.inl (.inl e12)) (by decide) hol0 ?_⟩⟩
        refine ⟨x0, o0.1, _, _, rfl, hI12.pats _ hm0, p12 _ hmo, (hpat _ hm0).1, (hpot _ hmo).1, by rw [(hpat _ hm0).2, (hpot _ hmo).2]; omega, fun H13 m13 => ?_⟩
        refine ⟨_, rfl, ?_⟩
        have hI13 := hI12.mv m13
        have e13 := m13.same _ _ e12
        obtain ⟨po', oe, hpo⟩ : ∃ po' oe, po = po' ++ [oe] := by
          rcases List.eq_nil_or_concat po with h | ⟨po', oe, h⟩
          · rw [h] at hpol
            simp at hpol
          · exact ⟨po', oe, by rw [h, List.concat_eq_append]⟩
        obtain ⟨pa', pe, hpa⟩ : ∃ pa' pe, pa = pa' ++ [pe] := by
          rcases List.eq_nil_or_concat pa with h | ⟨pa', pe, h⟩
          · rw [h] at hpal
            simp at hpal
          · exact ⟨pa', pe, by rw [h, List.concat_eq_append]⟩
        have hmoe : oe ∈ po := by rw [hpo]; simp
        have hmpe : pe ∈ pa := by rw [hpa]; simp
        have e13' : H13 ol = some (.lst (po'.map patV ++ [patV oe])) := by rw [e13, hpo, List.map_append]; rfl
        have f13' : H13 pl = some (.lst (pa'.map patV ++ [patV pe])) := by rw [hI13.pl, hpa, List.map_append]; rfl
        refine ⟨.ref ol, rfl, 1, rfl, Or.inl ⟨ol, _, -1, patV oe, rfl, rfl, .inl (.inl e13'), atI_last _ _, .ref pl, rfl, 1, rfl, Or.inl ⟨pl, _, -1, patV pe, rfl, rfl, .inl (.inl f13'), atI_last _ _, ?_⟩⟩⟩
        refine ⟨oe.1, pe.1, _, _, rfl, (p12 _ hmoe).mv m13, hI13.pats _ hmpe, (hpot _ hmoe).1, (hpat _ hmpe).1, by rw [(hpat _ hmpe).2, (hpot _ hmoe).2]; omega, fun H14 m14 => ?_⟩
        refine ⟨_, rfl, ?_⟩
        have hI14 := hI13.mv m14
        refine ⟨.ref pl, rfl, pl, rfl, ?_⟩
        refine lc_seq (xs := pa.map patV) (.inl (.inl (.inl hI14.pl))) (fun i D H6 => ∃ vs, H6 D = some (.lst vs) ∧ Ims K H6 vs (((pa.map (·.2)).take i).map tsD) ∧ Mv [] H14 H6)
          (fun D nD => ⟨[], upd_same, Ims.nil, .new nD⟩) (fun j D H6 nD h6 => h6.elim fun _ h => h.2.2) (fun D nD j y H6 hy h6 => ?_) (fun D1 H15 nD1 h15 => ?_)
        · obtain ⟨vs, e6, i6, m6⟩ := h6
          rw [List.getElem?_map] at hy
          obtain ⟨e, he, rfl⟩ := Option.map_eq_some_iff.mp hy
          have hj := (List.getElem?_eq_some_iff.mp he).1
          have hP := (hI14.pats e (List.mem_of_getElem? he)).mv m6
          obtain ⟨dx, pp, px, hs, _, _⟩ := id hP
          have hvl : vs.length = j := by rw [i6.length, List.length_map, List.length_take, List.length_map]; omega
          refine ⟨rfl, .ref e.1, rfl, e.1, dx, _, rfl, hs, e.1, e.2, rfl, hP, fun v im => ?_⟩
          refine ⟨vs, e6, by rw [hvl]; exact line5lt (by omega), vs ++ [v], upd_same, ?_, m6.wr nD⟩
          rw [List.take_add_one, List.getElem?_map, he, List.map_append]
          exact (i6.append (Ims.cons im Ims.nil)).mv (Mv.set (S := [D]) e6 (by simp))
        obtain ⟨vs1, e15, i15, m15⟩ := h15
        rw [List.length_map, ← List.length_map (f := fun e : Addr × List Tm => e.2), List.take_length, t5] at i15
        have hI15 := hI14.mv m15
        refine ⟨.ref rl, rfl, rl, rfl, ?_⟩
        refine lc_seq (xs := zs) (.inl (.inl (.inl hI15.rl))) (fun i D H6 => ∃ vs, H6 D = some (.lst vs) ∧ Ims K H6 vs ((((first :: rest).map fun r => canon (Tm.gts r)).take i).map tsD) ∧ Mv [] H15 H6)
          (fun D nD => ⟨[], upd_same, Ims.nil, .new nD⟩) (fun j D H6 nD h6 => h6.elim fun _ h => h.2.2) (fun D nD j y H6 hy h6 => ?_) (fun D2 H16 nD2 h16 => ?_)
        · obtain ⟨vs, e6, i6, m6⟩ := h6
          obtain ⟨r, ra, rxs, hr', rfl, hrS, hra, hrx⟩ := (hI15.cols.mv (m6.mono (by simp))).get hy
          have hmem := List.mem_of_getElem? hr'
          have hj := (List.getElem?_eq_some_iff.mp hr').1
          rw [List.length_cons] at hj
          have hrow := hRF.row r hmem
          have hvl : vs.length = j := by rw [i6.length, List.length_map, List.length_take, List.length_map, List.length_cons]; omega
          refine ⟨rfl, .ref ra, rfl, (by decide : 1 ≤ sizeLine), fun l nl => ?_⟩
          have m7 : Mv [] H6 (upd H6 l (.lst [.ref ra])) := .new nl
          have e7 : upd H6 l (.lst [.ref ra]) l = some (.lst [.ref ra]) := upd_same
          generalize upd H6 l (.lst [.ref ra]) = H7 at m7 e7 ⊢
          refine ⟨l, _, r, [], rfl, e7, .cons ⟨ra, rxs, rfl, by simp, m7.same _ _ hra, hrx.mv m7⟩ .nil, fun c hc => by rw [List.mem_singleton.mp hc]; exact ⟨hrow.colF, rfl⟩, by simp, by have := hrow.nod (by omega); omega, fun gv H8 m8 im => ?_⟩
          rw [genL_nil] at im
          have e8 := (m7.trans m8).same _ _ e6
          refine ⟨vs, e8, by rw [hvl]; exact line5lt (by omega), vs ++ [gv], upd_same, ?_, (m6.trans (m7.trans m8)).wr nD⟩
          rw [List.take_add_one, List.getElem?_map, hr', List.map_append]
          exact ((i6.mv (m7.trans m8)).append (Ims.cons im Ims.nil)).mv (Mv.set (S := [D]) e8 (by simp))
        obtain ⟨vs2, e16, i16, m16⟩ := h16
        rw [hzl, List.take_of_length_le (by simp)] at i16
        have hcF : ∀ c ∈ (first :: rest).map fun r => canon (Tm.gts r), ColF c := fun c hc => by
          obtain ⟨r, hr, rfl⟩ := List.mem_map.mp hc
          exact (hown r hr).colF
        have hsh := pairs_shaped hcF
        refine Or.inr ⟨_, _, .lst (.inl (.inl (m16.same _ _ e15))) (i15.mv m16).dp, .lst (.inl (.inl e16)) i16.dp, hsh, hsh, ?_⟩
        rw [show PyData.eqv (.list (((first :: rest).map fun r => canon (Tm.gts r)).map tsD)) (.list (((first :: rest).map fun r => canon (Tm.gts r)).map tsD)) = true from SeqAt.eqv_refl _ (fine_lay (.list (((first :: rest).map fun r => canon (Tm.gts r)).map tsD)) (pairs_fine hcF).1).1]
        refine ⟨_, rfl, ?_⟩
        have hI16 := hI15.mv m16
        exact ⟨_, _, _, _, _, _, _, _, _, rfl, hI16.bag, hI16.nms⟩
    · obtain ⟨y3, y4, y5, y6, y7, y8, y9, y10, y11, rfl, hB3, hN3⟩ := h3
      exact q H3
end
end Fm
namespace Fm
open PySem PySem.Spec PyProof.Rows L2 SlX
section
variable {l : PySem.W.OpenLaw} {w : World} {K : PySem.W.Frag} {mg : Str → Option Value} {fa : Addr}
theorem all_mk {h : Heap} (X : K.In h) (G : h.Ns mainGlobals mg) (hfa : mg "law" = some (.ref fa))
    {f0 : Addr} {od0 an0 : Option Addr} {sl0 : Array (Option Value)} {oc0 kV0 dc0 pm0 cd0 ct0 : Value}
    (a0 : PySem.W.nsIn K mainGlobals "_wall" = some (some (.ref f0))) (l0 : K.lookup f0 = some ⟨oc0, od0, .func (PySem.W.fnOf "_wall" "_wall" (defArgs s__wall) (defBody s__wall) (defScope s__wall) .none kV0 dc0 pm0 an0 cd0 ct0), sl0⟩) (c0 : PySem.W.codeIn K cd0 "_wall" = true) (k0 : PySem.W.keepIn K (.ref f0) = true)
    {f1 : Addr} {od1 an1 : Option Addr} {sl1 : Array (Option Value)} {oc1 kV1 dc1 pm1 cd1 ct1 : Value}
    (a1 : PySem.W.nsIn K mainGlobals "is_integer" = some (some (.ref f1))) (l1 : K.lookup f1 = some ⟨oc1, od1, .func (PySem.W.fnOf "is_integer" "is_integer" (defArgs s_is_integer) (defBody s_is_integer) (defScope s_is_integer) .none kV1 dc1 pm1 an1 cd1 ct1), sl1⟩) (c1 : PySem.W.codeIn K cd1 "is_integer" = true) (k1 : PySem.W.keepIn K (.ref f1) = true)
    {f2 : Addr} {od2 an2 : Option Addr} {sl2 : Array (Option Value)} {oc2 kV2 dc2 pm2 cd2 ct2 : Value}
    (a2 : PySem.W.nsIn K mainGlobals "is_name" = some (some (.ref f2))) (l2 : K.lookup f2 = some ⟨oc2, od2, .func (PySem.W.fnOf "is_name" "is_name" (defArgs s_is_name) (defBody s_is_name) (defScope s_is_name) .none kV2 dc2 pm2 an2 cd2 ct2), sl2⟩) (c2 : PySem.W.codeIn K cd2 "is_name" = true) (k2 : PySem.W.keepIn K (.ref f2) = true)
    {f3 : Addr} {od3 an3 : Option Addr} {sl3 : Array (Option Value)} {oc3 kV3 dc3 pm3 cd3 ct3 : Value}
    (a3 : PySem.W.nsIn K mainGlobals "is_term" = some (some (.ref f3))) (l3 : K.lookup f3 = some ⟨oc3, od3, .func (PySem.W.fnOf "is_term" "is_term" (defArgs s_is_term) (defBody s_is_term) (defScope s_is_term) .none kV3 dc3 pm3 an3 cd3 ct3), sl3⟩) (c3 : PySem.W.codeIn K cd3 "is_term" = true) (k3 : PySem.W.keepIn K (.ref f3) = true)
    {f4 : Addr} {od4 an4 : Option Addr} {sl4 : Array (Option Value)} {oc4 kV4 dc4 pm4 cd4 ct4 : Value}
    (a4 : PySem.W.nsIn K mainGlobals "are_values" = some (some (.ref f4))) (l4 : K.lookup f4 = some ⟨oc4, od4, .func (PySem.W.fnOf "are_values" "are_values" (defArgs s_are_values) (defBody s_are_values) (defScope s_are_values) .none kV4 dc4 pm4 an4 cd4 ct4), sl4⟩) (c4 : PySem.W.codeIn K cd4 "are_values" = true) (k4 : PySem.W.keepIn K (.ref f4) = true)
    {f5 : Addr} {od5 an5 : Option Addr} {sl5 : Array (Option Value)} {oc5 kV5 dc5 pm5 cd5 ct5 : Value}
    (a5 : PySem.W.nsIn K mainGlobals "are_terms" = some (some (.ref f5))) (l5 : K.lookup f5 = some ⟨oc5, od5, .func (PySem.W.fnOf "are_terms" "are_terms" (defArgs s_are_terms) (defBody s_are_terms) (defScope s_are_terms) .none kV5 dc5 pm5 an5 cd5 ct5), sl5⟩) (c5 : PySem.W.codeIn K cd5 "are_terms" = true) (k5 : PySem.W.keepIn K (.ref f5) = true)
    {f6 : Addr} {od6 an6 : Option Addr} {sl6 : Array (Option Value)} {oc6 kV6 dc6 pm6 cd6 ct6 : Value}
    (a6 : PySem.W.nsIn K mainGlobals "put" = some (some (.ref f6))) (l6 : K.lookup f6 = some ⟨oc6, od6, .func (PySem.W.fnOf "put" "put" (defArgs s_put) (defBody s_put) (defScope s_put) .none kV6 dc6 pm6 an6 cd6 ct6), sl6⟩) (c6 : PySem.W.codeIn K cd6 "put" = true) (k6 : PySem.W.keepIn K (.ref f6) = true)
    {f7 : Addr} {od7 an7 : Option Addr} {sl7 : Array (Option Value)} {oc7 kV7 dc7 pm7 cd7 ct7 : Value}
    (a7 : PySem.W.nsIn K mainGlobals "leaves" = some (some (.ref f7))) (l7 : K.lookup f7 = some ⟨oc7, od7, .func (PySem.W.fnOf "leaves" "leaves" (defArgs s_leaves) (defBody s_leaves) (defScope s_leaves) .none kV7 dc7 pm7 an7 cd7 ct7), sl7⟩) (c7 : PySem.W.codeIn K cd7 "leaves" = true) (k7 : PySem.W.keepIn K (.ref f7) = true)
    {f8 : Addr} {od8 an8 : Option Addr} {sl8 : Array (Option Value)} {oc8 kV8 dc8 pm8 cd8 ct8 : Value}
    (a8 : PySem.W.nsIn K mainGlobals "numbered" = some (some (.ref f8))) (l8 : K.lookup f8 = some ⟨oc8, od8, .func (PySem.W.fnOf "numbered" "numbered" (defArgs s_numbered) (defBody s_numbered) (defScope s_numbered) .none kV8 dc8 pm8 an8 cd8 ct8), sl8⟩) (c8 : PySem.W.codeIn K cd8 "numbered" = true) (k8 : PySem.W.keepIn K (.ref f8) = true)
    {f9 : Addr} {od9 an9 : Option Addr} {sl9 : Array (Option Value)} {oc9 kV9 dc9 pm9 cd9 ct9 : Value}
    (a9 : PySem.W.nsIn K mainGlobals "stood_for" = some (some (.ref f9))) (l9 : K.lookup f9 = some ⟨oc9, od9, .func (PySem.W.fnOf "stood_for" "stood_for" (defArgs s_stood_for) (defBody s_stood_for) (defScope s_stood_for) .none kV9 dc9 pm9 an9 cd9 ct9), sl9⟩) (c9 : PySem.W.codeIn K cd9 "stood_for" = true) (k9 : PySem.W.keepIn K (.ref f9) = true)
    {f10 : Addr} {od10 an10 : Option Addr} {sl10 : Array (Option Value)} {oc10 kV10 dc10 pm10 cd10 ct10 : Value}
    (a10 : PySem.W.nsIn K mainGlobals "is_same_operation" = some (some (.ref f10))) (l10 : K.lookup f10 = some ⟨oc10, od10, .func (PySem.W.fnOf "is_same_operation" "is_same_operation" (defArgs s_is_same_operation) (defBody s_is_same_operation) (defScope s_is_same_operation) .none kV10 dc10 pm10 an10 cd10 ct10), sl10⟩) (c10 : PySem.W.codeIn K cd10 "is_same_operation" = true) (k10 : PySem.W.keepIn K (.ref f10) = true)
    {f11 : Addr} {od11 an11 : Option Addr} {sl11 : Array (Option Value)} {oc11 kV11 dc11 pm11 cd11 ct11 : Value}
    (a11 : PySem.W.nsIn K mainGlobals "joined" = some (some (.ref f11))) (l11 : K.lookup f11 = some ⟨oc11, od11, .func (PySem.W.fnOf "joined" "joined" (defArgs s_joined) (defBody s_joined) (defScope s_joined) .none kV11 dc11 pm11 an11 cd11 ct11), sl11⟩) (c11 : PySem.W.codeIn K cd11 "joined" = true) (k11 : PySem.W.keepIn K (.ref f11) = true)
    {f12 : Addr} {od12 an12 : Option Addr} {sl12 : Array (Option Value)} {oc12 kV12 dc12 pm12 cd12 ct12 : Value}
    (a12 : PySem.W.nsIn K mainGlobals "all_joined" = some (some (.ref f12))) (l12 : K.lookup f12 = some ⟨oc12, od12, .func (PySem.W.fnOf "all_joined" "all_joined" (defArgs s_all_joined) (defBody s_all_joined) (defScope s_all_joined) .none kV12 dc12 pm12 an12 cd12 ct12), sl12⟩) (c12 : PySem.W.codeIn K cd12 "all_joined" = true) (k12 : PySem.W.keepIn K (.ref f12) = true)
    {f13 : Addr} {od13 an13 : Option Addr} {sl13 : Array (Option Value)} {oc13 kV13 dc13 pm13 cd13 ct13 : Value}
    (a13 : PySem.W.nsIn K mainGlobals "_law_bag" = some (some (.ref f13))) (l13 : K.lookup f13 = some ⟨oc13, od13, .func (PySem.W.fnOf "_law_bag" "_law_bag" (defArgs s__law_bag) (defBody s__law_bag) (defScope s__law_bag) .none kV13 dc13 pm13 an13 cd13 ct13), sl13⟩) (c13 : PySem.W.codeIn K cd13 "_law_bag" = true) (k13 : PySem.W.keepIn K (.ref f13) = true)
    {f14 : Addr} {od14 an14 : Option Addr} {sl14 : Array (Option Value)} {oc14 kV14 dc14 pm14 cd14 ct14 : Value}
    (a14 : PySem.W.nsIn K mainGlobals "_law_take" = some (some (.ref f14))) (l14 : K.lookup f14 = some ⟨oc14, od14, .func (PySem.W.fnOf "_law_take" "_law_take" (defArgs s__law_take) (defBody s__law_take) (defScope s__law_take) .none kV14 dc14 pm14 an14 cd14 ct14), sl14⟩) (c14 : PySem.W.codeIn K cd14 "_law_take" = true) (k14 : PySem.W.keepIn K (.ref f14) = true)
    {f15 : Addr} {od15 an15 : Option Addr} {sl15 : Array (Option Value)} {oc15 kV15 dc15 pm15 cd15 ct15 : Value}
    (a15 : PySem.W.nsIn K mainGlobals "_law_alike" = some (some (.ref f15))) (l15 : K.lookup f15 = some ⟨oc15, od15, .func (PySem.W.fnOf "_law_alike" "_law_alike" (defArgs s__law_alike) (defBody s__law_alike) (defScope s__law_alike) .none kV15 dc15 pm15 an15 cd15 ct15), sl15⟩) (c15 : PySem.W.codeIn K cd15 "_law_alike" = true) (k15 : PySem.W.keepIn K (.ref f15) = true)
    {f16 : Addr} {od16 an16 : Option Addr} {sl16 : Array (Option Value)} {oc16 kV16 dc16 pm16 cd16 ct16 : Value}
    (a16 : PySem.W.nsIn K mainGlobals "_law_mixed" = some (some (.ref f16))) (l16 : K.lookup f16 = some ⟨oc16, od16, .func (PySem.W.fnOf "_law_mixed" "_law_mixed" (defArgs s__law_mixed) (defBody s__law_mixed) (defScope s__law_mixed) .none kV16 dc16 pm16 an16 cd16 ct16), sl16⟩) (c16 : PySem.W.codeIn K cd16 "_law_mixed" = true) (k16 : PySem.W.keepIn K (.ref f16) = true)
    {f17 : Addr} {od17 an17 : Option Addr} {sl17 : Array (Option Value)} {oc17 kV17 dc17 pm17 cd17 ct17 : Value}
    (a17 : PySem.W.nsIn K mainGlobals "_law_names" = some (some (.ref f17))) (l17 : K.lookup f17 = some ⟨oc17, od17, .func (PySem.W.fnOf "_law_names" "_law_names" (defArgs s__law_names) (defBody s__law_names) (defScope s__law_names) .none kV17 dc17 pm17 an17 cd17 ct17), sl17⟩) (c17 : PySem.W.codeIn K cd17 "_law_names" = true) (k17 : PySem.W.keepIn K (.ref f17) = true)
    {f18 : Addr} {od18 an18 : Option Addr} {sl18 : Array (Option Value)} {oc18 kV18 dc18 pm18 cd18 ct18 : Value}
    (a18 : PySem.W.nsIn K mainGlobals "_law_term" = some (some (.ref f18))) (l18 : K.lookup f18 = some ⟨oc18, od18, .func (PySem.W.fnOf "_law_term" "_law_term" (defArgs s__law_term) (defBody s__law_term) (defScope s__law_term) .none kV18 dc18 pm18 an18 cd18 ct18), sl18⟩) (c18 : PySem.W.codeIn K cd18 "_law_term" = true) (k18 : PySem.W.keepIn K (.ref f18) = true)
    {f19 : Addr} {od19 an19 : Option Addr} {sl19 : Array (Option Value)} {oc19 kV19 dc19 pm19 cd19 ct19 : Value}
    (a19 : PySem.W.nsIn K mainGlobals "_law_put" = some (some (.ref f19))) (l19 : K.lookup f19 = some ⟨oc19, od19, .func (PySem.W.fnOf "_law_put" "_law_put" (defArgs s__law_put) (defBody s__law_put) (defScope s__law_put) .none kV19 dc19 pm19 an19 cd19 ct19), sl19⟩) (c19 : PySem.W.codeIn K cd19 "_law_put" = true) (k19 : PySem.W.keepIn K (.ref f19) = true)
    {f20 : Addr} {od20 an20 : Option Addr} {sl20 : Array (Option Value)} {oc20 kV20 dc20 pm20 cd20 ct20 : Value}
    (a20 : PySem.W.nsIn K mainGlobals "_law_column" = some (some (.ref f20))) (l20 : K.lookup f20 = some ⟨oc20, od20, .func (PySem.W.fnOf "_law_column" "_law_column" (defArgs s__law_column) (defBody s__law_column) (defScope s__law_column) .none kV20 dc20 pm20 an20 cd20 ct20), sl20⟩) (c20 : PySem.W.codeIn K cd20 "_law_column" = true) (k20 : PySem.W.keepIn K (.ref f20) = true)
    {f21 : Addr} {od21 an21 : Option Addr} {sl21 : Array (Option Value)} {oc21 kV21 dc21 pm21 cd21 ct21 : Value}
    (a21 : PySem.W.nsIn K mainGlobals "_law_general" = some (some (.ref f21))) (l21 : K.lookup f21 = some ⟨oc21, od21, .func (PySem.W.fnOf "_law_general" "_law_general" (defArgs s__law_general) (defBody s__law_general) (defScope s__law_general) .none kV21 dc21 pm21 an21 cd21 ct21), sl21⟩) (c21 : PySem.W.codeIn K cd21 "_law_general" = true) (k21 : PySem.W.keepIn K (.ref f21) = true)
    {f22 : Addr} {od22 an22 : Option Addr} {sl22 : Array (Option Value)} {oc22 kV22 dc22 pm22 cd22 ct22 : Value}
    (a22 : PySem.W.nsIn K mainGlobals "_law_rows" = some (some (.ref f22))) (l22 : K.lookup f22 = some ⟨oc22, od22, .func (PySem.W.fnOf "_law_rows" "_law_rows" (defArgs s__law_rows) (defBody s__law_rows) (defScope s__law_rows) .none kV22 dc22 pm22 an22 cd22 ct22), sl22⟩) (c22 : PySem.W.codeIn K cd22 "_law_rows" = true) (k22 : PySem.W.keepIn K (.ref f22) = true)
    {f23 : Addr} {od23 an23 : Option Addr} {sl23 : Array (Option Value)} {oc23 kV23 dc23 pm23 cd23 ct23 : Value}
    (a23 : PySem.W.nsIn K mainGlobals "_law_unlike" = some (some (.ref f23))) (l23 : K.lookup f23 = some ⟨oc23, od23, .func (PySem.W.fnOf "_law_unlike" "_law_unlike" (defArgs s__law_unlike) (defBody s__law_unlike) (defScope s__law_unlike) .none kV23 dc23 pm23 an23 cd23 ct23), sl23⟩) (c23 : PySem.W.codeIn K cd23 "_law_unlike" = true) (k23 : PySem.W.keepIn K (.ref f23) = true)
    {f24 : Addr} {od24 an24 : Option Addr} {sl24 : Array (Option Value)} {oc24 kV24 dc24 pm24 cd24 ct24 : Value}
    (a24 : PySem.W.nsIn K mainGlobals "law" = some (some (.ref f24))) (l24 : K.lookup f24 = some ⟨oc24, od24, .func (PySem.W.fnOf "law" "law" (defArgs s_law) (defBody s_law) (defScope s_law) .none kV24 dc24 pm24 an24 cd24 ct24), sl24⟩) (c24 : PySem.W.codeIn K cd24 "law" = true) (k24 : PySem.W.keepIn K (.ref f24) = true)
    {C_Pattern : Addr}
    (g_Pattern : PySem.W.nsIn K mainGlobals "Pattern" = some (some (.ref C_Pattern)))
    (k_Pattern : PySem.W.keepIn K (.ref C_Pattern) = true)
    (pg_Pattern : PySem.W.plainGet K C_Pattern Str.empty = true)
    (ic_Pattern : PySem.W.isClsIn K C_Pattern = true)
    (po_Pattern : PySem.W.plainOver K C_Pattern = true)
    (sa_Pattern : PySem.W.findIn K (.ref C_Pattern) "__setattr__" = some (some (.builtin "object.__setattr__")))
    (mk_Pattern : PySem.W.makesIn K C_Pattern = true)
    (ca_Pattern : PySem.W.findIn K (.ref C_Pattern) "__class__" = some (some (.builtin "object.__class__")))
    (cn_Pattern : PySem.W.specialIn K (.builtin "object.__class__") "__get__" = some (some (.builtin "getset_descriptor.__get__")))
    (ct_Pattern : PySem.W.takesIn K (.builtin "object.__class__") = some true)
    (cm_Pattern : PySem.W.mroIn K C_Pattern (.type "object") = some true)
    (ne_Pattern : PySem.W.findIn K (.ref C_Pattern) "__ne__" = some (some (.builtin "object.__ne__")))
    (tyc_Pattern : PySem.W.typeIn K (.ref C_Pattern) = some (.type "type"))
    (mul_Pattern : PySem.W.selfFirst K C_Pattern = true)
    (nl_Pattern : PySem.W.subIn K (.ref C_Pattern) (.type "list") = some false)
    (nt_Pattern : PySem.W.subIn K (.ref C_Pattern) (.type "tuple") = some false)
    {p_Pattern_its_terms : Addr}
    (at_Pattern_its_terms : PySem.W.findIn K (.ref C_Pattern) "its_terms" = some (some (.ref p_Pattern_its_terms)))
    (get_Pattern_its_terms : PySem.W.specialIn K (.ref p_Pattern_its_terms) "__get__" = some (some (.builtin "member_descriptor.__get__")))
    (tk_Pattern_its_terms : PySem.W.takesIn K (.ref p_Pattern_its_terms) = some true)
    (ty_Pattern_its_terms : PySem.W.typeIn K (.ref p_Pattern_its_terms) = some (.type "member_descriptor"))
    (ix_Pattern_its_terms : PySem.W.slotIn K p_Pattern_its_terms C_Pattern = some 0)
    {f_Pattern___init__ : Addr} {od_Pattern___init__ an_Pattern___init__ : Option Addr} {sl_Pattern___init__ : Array (Option Value)} {oc_Pattern___init__ kV_Pattern___init__ dc_Pattern___init__ pm_Pattern___init__ cd_Pattern___init__ cc_Pattern___init__ : Value}
    (am_Pattern___init__ : PySem.W.findIn K (.ref C_Pattern) "__init__" = some (some (.ref f_Pattern___init__)))
    (im_Pattern___init__ : PySem.W.isFn K (.ref f_Pattern___init__) = true)
    (lm_Pattern___init__ : K.lookup f_Pattern___init__ = some ⟨oc_Pattern___init__, od_Pattern___init__, .func (PySem.W.fnOf "__init__" "Pattern.__init__" (defArgs s_Pattern___init__) (defBody s_Pattern___init__) (defScope s_Pattern___init__) .none kV_Pattern___init__ dc_Pattern___init__ pm_Pattern___init__ an_Pattern___init__ cd_Pattern___init__ cc_Pattern___init__), sl_Pattern___init__⟩)
    (co_Pattern___init__ : PySem.W.codeIn K cd_Pattern___init__ "Pattern.__init__" = true)
    (km_Pattern___init__ : PySem.W.keepIn K (.ref f_Pattern___init__) = true)
    {f_Pattern_terms : Addr} {od_Pattern_terms an_Pattern_terms : Option Addr} {sl_Pattern_terms : Array (Option Value)} {oc_Pattern_terms kV_Pattern_terms dc_Pattern_terms pm_Pattern_terms cd_Pattern_terms cc_Pattern_terms : Value}
    {p_Pattern_terms : Addr} {rs_Pattern_terms : List Value}
    (pa_Pattern_terms : PySem.W.findIn K (.ref C_Pattern) "terms" = some (some (.ref p_Pattern_terms)))
    (pg_Pattern_terms : PySem.W.specialIn K (.ref p_Pattern_terms) "__get__" = some (some (.builtin "property.__get__")))
    (pt_Pattern_terms : PySem.W.takesIn K (.ref p_Pattern_terms) = some true)
    (pr_Pattern_terms : PySem.W.recIn K p_Pattern_terms "property" = some (.ref f_Pattern_terms :: rs_Pattern_terms))
    (lm_Pattern_terms : K.lookup f_Pattern_terms = some ⟨oc_Pattern_terms, od_Pattern_terms, .func (PySem.W.fnOf "terms" "Pattern.terms" (defArgs s_Pattern_terms) (defBody s_Pattern_terms) (defScope s_Pattern_terms) .none kV_Pattern_terms dc_Pattern_terms pm_Pattern_terms an_Pattern_terms cd_Pattern_terms cc_Pattern_terms), sl_Pattern_terms⟩)
    (co_Pattern_terms : PySem.W.codeIn K cd_Pattern_terms "Pattern.terms" = true)
    (km_Pattern_terms : PySem.W.keepIn K (.ref f_Pattern_terms) = true)
    {f_Pattern___eq__ : Addr} {od_Pattern___eq__ an_Pattern___eq__ : Option Addr} {sl_Pattern___eq__ : Array (Option Value)} {oc_Pattern___eq__ kV_Pattern___eq__ dc_Pattern___eq__ pm_Pattern___eq__ cd_Pattern___eq__ cc_Pattern___eq__ : Value}
    (am_Pattern___eq__ : PySem.W.findIn K (.ref C_Pattern) "__eq__" = some (some (.ref f_Pattern___eq__)))
    (im_Pattern___eq__ : PySem.W.isFn K (.ref f_Pattern___eq__) = true)
    (lm_Pattern___eq__ : K.lookup f_Pattern___eq__ = some ⟨oc_Pattern___eq__, od_Pattern___eq__, .func (PySem.W.fnOf "__eq__" "Pattern.__eq__" (defArgs s_Pattern___eq__) (defBody s_Pattern___eq__) (defScope s_Pattern___eq__) .none kV_Pattern___eq__ dc_Pattern___eq__ pm_Pattern___eq__ an_Pattern___eq__ cd_Pattern___eq__ cc_Pattern___eq__), sl_Pattern___eq__⟩)
    (co_Pattern___eq__ : PySem.W.codeIn K cd_Pattern___eq__ "Pattern.__eq__" = true)
    (km_Pattern___eq__ : PySem.W.keepIn K (.ref f_Pattern___eq__) = true)
    {f_Pattern___len__ : Addr} {od_Pattern___len__ an_Pattern___len__ : Option Addr} {sl_Pattern___len__ : Array (Option Value)} {oc_Pattern___len__ kV_Pattern___len__ dc_Pattern___len__ pm_Pattern___len__ cd_Pattern___len__ cc_Pattern___len__ : Value}
    (am_Pattern___len__ : PySem.W.findIn K (.ref C_Pattern) "__len__" = some (some (.ref f_Pattern___len__)))
    (im_Pattern___len__ : PySem.W.isFn K (.ref f_Pattern___len__) = true)
    (lm_Pattern___len__ : K.lookup f_Pattern___len__ = some ⟨oc_Pattern___len__, od_Pattern___len__, .func (PySem.W.fnOf "__len__" "Pattern.__len__" (defArgs s_Pattern___len__) (defBody s_Pattern___len__) (defScope s_Pattern___len__) .none kV_Pattern___len__ dc_Pattern___len__ pm_Pattern___len__ an_Pattern___len__ cd_Pattern___len__ cc_Pattern___len__), sl_Pattern___len__⟩)
    (co_Pattern___len__ : PySem.W.codeIn K cd_Pattern___len__ "Pattern.__len__" = true)
    (km_Pattern___len__ : PySem.W.keepIn K (.ref f_Pattern___len__) = true)
    {f_Pattern___repr__ : Addr} {od_Pattern___repr__ an_Pattern___repr__ : Option Addr} {sl_Pattern___repr__ : Array (Option Value)} {oc_Pattern___repr__ kV_Pattern___repr__ dc_Pattern___repr__ pm_Pattern___repr__ cd_Pattern___repr__ cc_Pattern___repr__ : Value}
    (am_Pattern___repr__ : PySem.W.findIn K (.ref C_Pattern) "__repr__" = some (some (.ref f_Pattern___repr__)))
    (im_Pattern___repr__ : PySem.W.isFn K (.ref f_Pattern___repr__) = true)
    (lm_Pattern___repr__ : K.lookup f_Pattern___repr__ = some ⟨oc_Pattern___repr__, od_Pattern___repr__, .func (PySem.W.fnOf "__repr__" "Pattern.__repr__" (defArgs s_Pattern___repr__) (defBody s_Pattern___repr__) (defScope s_Pattern___repr__) .none kV_Pattern___repr__ dc_Pattern___repr__ pm_Pattern___repr__ an_Pattern___repr__ cd_Pattern___repr__ cc_Pattern___repr__), sl_Pattern___repr__⟩)
    (co_Pattern___repr__ : PySem.W.codeIn K cd_Pattern___repr__ "Pattern.__repr__" = true)
    (km_Pattern___repr__ : PySem.W.keepIn K (.ref f_Pattern___repr__) = true)
    {f_Pattern_instance : Addr} {od_Pattern_instance an_Pattern_instance : Option Addr} {sl_Pattern_instance : Array (Option Value)} {oc_Pattern_instance kV_Pattern_instance dc_Pattern_instance pm_Pattern_instance cd_Pattern_instance cc_Pattern_instance : Value}
    (am_Pattern_instance : PySem.W.findIn K (.ref C_Pattern) "instance" = some (some (.ref f_Pattern_instance)))
    (im_Pattern_instance : PySem.W.isFn K (.ref f_Pattern_instance) = true)
    (lm_Pattern_instance : K.lookup f_Pattern_instance = some ⟨oc_Pattern_instance, od_Pattern_instance, .func (PySem.W.fnOf "instance" "Pattern.instance" (defArgs s_Pattern_instance) (defBody s_Pattern_instance) (defScope s_Pattern_instance) .none kV_Pattern_instance dc_Pattern_instance pm_Pattern_instance an_Pattern_instance cd_Pattern_instance cc_Pattern_instance), sl_Pattern_instance⟩)
    (co_Pattern_instance : PySem.W.codeIn K cd_Pattern_instance "Pattern.instance" = true)
    (km_Pattern_instance : PySem.W.keepIn K (.ref f_Pattern_instance) = true)
    {f_Pattern___contains__ : Addr} {od_Pattern___contains__ an_Pattern___contains__ : Option Addr} {sl_Pattern___contains__ : Array (Option Value)} {oc_Pattern___contains__ kV_Pattern___contains__ dc_Pattern___contains__ pm_Pattern___contains__ cd_Pattern___contains__ cc_Pattern___contains__ : Value}
    (am_Pattern___contains__ : PySem.W.findIn K (.ref C_Pattern) "__contains__" = some (some (.ref f_Pattern___contains__)))
    (im_Pattern___contains__ : PySem.W.isFn K (.ref f_Pattern___contains__) = true)
    (lm_Pattern___contains__ : K.lookup f_Pattern___contains__ = some ⟨oc_Pattern___contains__, od_Pattern___contains__, .func (PySem.W.fnOf "__contains__" "Pattern.__contains__" (defArgs s_Pattern___contains__) (defBody s_Pattern___contains__) (defScope s_Pattern___contains__) .none kV_Pattern___contains__ dc_Pattern___contains__ pm_Pattern___contains__ an_Pattern___contains__ cd_Pattern___contains__ cc_Pattern___contains__), sl_Pattern___contains__⟩)
    (co_Pattern___contains__ : PySem.W.codeIn K cd_Pattern___contains__ "Pattern.__contains__" = true)
    (km_Pattern___contains__ : PySem.W.keepIn K (.ref f_Pattern___contains__) = true)
    {f_Pattern___or__ : Addr} {od_Pattern___or__ an_Pattern___or__ : Option Addr} {sl_Pattern___or__ : Array (Option Value)} {oc_Pattern___or__ kV_Pattern___or__ dc_Pattern___or__ pm_Pattern___or__ cd_Pattern___or__ cc_Pattern___or__ : Value}
    (am_Pattern___or__ : PySem.W.findIn K (.ref C_Pattern) "__or__" = some (some (.ref f_Pattern___or__)))
    (im_Pattern___or__ : PySem.W.isFn K (.ref f_Pattern___or__) = true)
    (lm_Pattern___or__ : K.lookup f_Pattern___or__ = some ⟨oc_Pattern___or__, od_Pattern___or__, .func (PySem.W.fnOf "__or__" "Pattern.__or__" (defArgs s_Pattern___or__) (defBody s_Pattern___or__) (defScope s_Pattern___or__) .none kV_Pattern___or__ dc_Pattern___or__ pm_Pattern___or__ an_Pattern___or__ cd_Pattern___or__ cc_Pattern___or__), sl_Pattern___or__⟩)
    (co_Pattern___or__ : PySem.W.codeIn K cd_Pattern___or__ "Pattern.__or__" = true)
    (km_Pattern___or__ : PySem.W.keepIn K (.ref f_Pattern___or__) = true)
    (topS_ : (l.prog.main.scope.names.lookup ("super" : Str)).isSome = false)
    (sup_ : PySem.W.nsIn K mainGlobals "super" = some none)
    (opq_ : PySem.W.nsIn K PySem.cStatics "thirdparty.any" = some none)
    {C_MoveError : Addr}
    (g_MoveError : PySem.W.nsIn K mainGlobals "MoveError" = some (some (.ref C_MoveError)))
    (ex_MoveError : PySem.W.subIn K (.ref C_MoveError) (.type "BaseException") = some true)
    (hd_MoveError : PySem.W.hasDictIn K C_MoveError = true)
    (ty_MoveError : PySem.W.typeIn K (.ref C_MoveError) = some (.type "type"))
    {C_Wrong : Addr}
    (g_Wrong : PySem.W.nsIn K mainGlobals "Wrong" = some (some (.ref C_Wrong)))
    (ex_Wrong : PySem.W.subIn K (.ref C_Wrong) (.type "BaseException") = some true)
    (hd_Wrong : PySem.W.hasDictIn K C_Wrong = true)
    (ty_Wrong : PySem.W.typeIn K (.ref C_Wrong) = some (.type "type"))
    {nm_Wrong q_Wrong : Str} {N_Wrong : Addr} {bs_Wrong bm_Wrong sub_Wrong : List Value} {sn_Wrong : List Str} {ab_Wrong : Bool} {col_Wrong : Option Bool} {dd_Wrong : Option Addr} {k0_Wrong k1_Wrong k2_Wrong k3_Wrong k5_Wrong : Option Value}
    (cls_Wrong : K.lookup C_Wrong = some (excClassObj nm_Wrong q_Wrong C_Wrong N_Wrong bs_Wrong bm_Wrong true sn_Wrong sub_Wrong ab_Wrong col_Wrong dd_Wrong k0_Wrong k1_Wrong k2_Wrong k3_Wrong k5_Wrong "ValueError.__new__"))
    (ve_Wrong : PySem.HandSPX.refsVE bm_Wrong = true)
    (sa_Wrong : PySem.W.findIn K (.ref C_Wrong) "__setattr__" = some (some (.builtin "object.__setattr__")))
    (no_Wrong : PySem.W.findIn K (.ref C_Wrong) "place" = some none)
    (k_Wrong : PySem.W.keepIn K (.ref C_Wrong) = true)
    (vs_Wrong : PySem.W.subIn K (.ref C_Wrong) (.type "ValueError") = some true)
    (up_Wrong : PySem.W.ks_superIn K C_Wrong C_Wrong "__init__" = some (some (.builtin "ValueError.__init__")))
    (self_Wrong : PySem.W.mroIn K C_Wrong (.ref C_Wrong) = some true)
    {fI_Wrong cda_Wrong cc_Wrong : Addr} {oc_Wrong kV_Wrong doc_Wrong pm_Wrong ct_Wrong cl_Wrong ccl_Wrong : Value} {od_Wrong an_Wrong cld_Wrong cdd_Wrong : Option Addr} {osl_Wrong csl_Wrong ccs_Wrong : Array (Option Value)} {ql_Wrong file_Wrong : Str} {vv_Wrong : Array Value} {tf_Wrong : Tok} {p1_Wrong p2_Wrong q1_Wrong q2_Wrong q3_Wrong q4_Wrong q5_Wrong q6_Wrong q7_Wrong q8_Wrong q9_Wrong q10_Wrong : Pos}
    (fi_Wrong : PySem.W.findIn K (.ref C_Wrong) "__init__" = some (some (.ref fI_Wrong)))
    (tI_Wrong : PySem.W.typeIn K (.ref fI_Wrong) = some (.type "function"))
    (lI_Wrong : K.lookup fI_Wrong = some ⟨oc_Wrong, od_Wrong, .func (PySem.W.ksFn "__init__" ql_Wrong (xA "place" p1_Wrong p2_Wrong) (xB "place" q1_Wrong q2_Wrong q3_Wrong q4_Wrong q5_Wrong q6_Wrong q7_Wrong q8_Wrong q9_Wrong q10_Wrong) (xS "place") .none kV_Wrong doc_Wrong pm_Wrong an_Wrong (.ref cda_Wrong) ct_Wrong cc_Wrong), osl_Wrong⟩)
    (cd_Wrong : PySem.W.codeIn K (.ref cda_Wrong) ql_Wrong = true)
    (ce_Wrong : K.lookup cc_Wrong = some ⟨cl_Wrong, cld_Wrong, .cell (some (.ref C_Wrong)), csl_Wrong⟩)
    (co_Wrong : K.lookup cda_Wrong = some ⟨ccl_Wrong, cdd_Wrong, .fields vv_Wrong, ccs_Wrong⟩)
    (cv_Wrong : vv_Wrong[2]? = some (.str file_Wrong tf_Wrong))
    (cf_Wrong : ((l.prog.main.file : Str) == file_Wrong) = true)
    (bi_Wrong : ∀ e v, bindArgs (PySem.W.ksFn "__init__" ql_Wrong (xA "place" p1_Wrong p2_Wrong) (xB "place" q1_Wrong q2_Wrong q3_Wrong q4_Wrong q5_Wrong q6_Wrong q7_Wrong q8_Wrong q9_Wrong q10_Wrong) (xS "place") .none kV_Wrong doc_Wrong pm_Wrong an_Wrong (.ref cda_Wrong) ct_Wrong cc_Wrong) ⟨[.ref e, v], []⟩ = pure [((PySem.Str.ofString "self" : Str), .ref e), ("place", v)])
    (ev_Wrong : ∀ L : Addr, ∃ pl, eval (xCall "place" q1_Wrong q2_Wrong q3_Wrong q4_Wrong q5_Wrong) (PySem.W.ksEnv ql_Wrong (xS "place") L fI_Wrong (.ref cda_Wrong) cc_Wrong) = (do
      let ov ← attributeBase (.Call (.Name "super" q1_Wrong) [] [] q2_Wrong) "__init__" (PySem.W.ksEnv ql_Wrong (xS "place") L fI_Wrong (.ref cda_Wrong) cc_Wrong) (eval (.Call (.Name "super" q1_Wrong) [] [] q2_Wrong) (PySem.W.ksEnv ql_Wrong (xS "place") L fI_Wrong (.ref cda_Wrong) cc_Wrong))
      standAt q3_Wrong.atName
      let (g, first) ← holding [ov] (getMethod ov "__init__" pl)
      callWith q5_Wrong g first (backTo q5_Wrong (starEach [.Name "place" q4_Wrong] (PySem.W.ksEnv ql_Wrong (xS "place") L fI_Wrong (.ref cda_Wrong) cc_Wrong))) []))
    {C_Unlike : Addr}
    (g_Unlike : PySem.W.nsIn K mainGlobals "Unlike" = some (some (.ref C_Unlike)))
    (ex_Unlike : PySem.W.subIn K (.ref C_Unlike) (.type "BaseException") = some true)
    (hd_Unlike : PySem.W.hasDictIn K C_Unlike = true)
    (ty_Unlike : PySem.W.typeIn K (.ref C_Unlike) = some (.type "type"))
    (k_Unlike : PySem.W.keepIn K (.ref C_Unlike) = true)
    (ei_Unlike : PySem.W.excIn K C_Unlike [.type "ValueError", .type "Exception", .type "BaseException", .type "object"] "ValueError.__new__" = true)
    (z0 : PySem.W.nsIn K mainGlobals "ValueError" = some none)
    (z1 : PySem.W.nsIn K mainGlobals "abs" = some none)
    (z2 : PySem.W.nsIn K mainGlobals "all" = some none)
    (z3 : PySem.W.nsIn K mainGlobals "bool" = some none)
    (z4 : PySem.W.nsIn K mainGlobals "int" = some none)
    (z5 : PySem.W.nsIn K mainGlobals "isinstance" = some none)
    (z6 : PySem.W.nsIn K mainGlobals "len" = some none)
    (z7 : PySem.W.nsIn K mainGlobals "list" = some none)
    (z8 : PySem.W.nsIn K mainGlobals "range" = some none)
    (z9 : PySem.W.nsIn K mainGlobals "repr" = some none)
    (z10 : PySem.W.nsIn K mainGlobals "sorted" = some none)
    (z11 : PySem.W.nsIn K mainGlobals "str" = some none)
    (z12 : PySem.W.nsIn K mainGlobals "tuple" = some none)
    (z13 : PySem.W.nsIn K mainGlobals "zip" = some none)
    {tk0 : Tok}
    (y0 : PySem.W.nsIn K mainGlobals "LETTERS" = some (some (.str "abcdefghijklmnopqrstuvwxyz" tk0)))
    {tk1 : Tok}
    (y1 : PySem.W.nsIn K mainGlobals "MOST_LETTERS" = some (some (.int 8 tk1)))
    {tk2 : Tok}
    (y2 : PySem.W.nsIn K mainGlobals "MOST_PARTS" = some (some (.int 3 tk2)))
    (xa_Wrong : PySem.W.findIn K (.ref C_Wrong) "__getattribute__" = some (some (.builtin "BaseException.__getattribute__")))
    (xg_Wrong : PySem.W.findIn K (.ref C_Wrong) "__getattr__" = some none)
    (xl_Wrong : PySem.W.findIn K (.ref C_Wrong) "__class__" = some (some (.builtin "object.__class__")))
    (xn_Wrong : PySem.W.specialIn K (.builtin "object.__class__") "__get__" = some (some (.builtin "getset_descriptor.__get__")))
    (xt_Wrong : PySem.W.takesIn K (.builtin "object.__class__") = some true)
    (xm_Wrong : PySem.W.mroIn K C_Wrong (.type "object") = some true)
    (xa_Unlike : PySem.W.findIn K (.ref C_Unlike) "__getattribute__" = some (some (.builtin "BaseException.__getattribute__")))
    (xg_Unlike : PySem.W.findIn K (.ref C_Unlike) "__getattr__" = some none)
    (xl_Unlike : PySem.W.findIn K (.ref C_Unlike) "__class__" = some (some (.builtin "object.__class__")))
    (xn_Unlike : PySem.W.specialIn K (.builtin "object.__class__") "__get__" = some (some (.builtin "getset_descriptor.__get__")))
    (xt_Unlike : PySem.W.takesIn K (.builtin "object.__class__") = some true)
    (xm_Unlike : PySem.W.mroIn K C_Unlike (.type "object") = some true)
    (ds_Unlike_Wrong : PySem.W.subIn K (.ref C_Unlike) (.ref C_Wrong) = some false)
    (dn_Unlike_Wrong : C_Unlike ≠ C_Wrong)
    (sb_Wrong_MoveError : PySem.W.subIn K (.ref C_Wrong) (.ref C_MoveError) = some true)
    (sb_Unlike_MoveError : PySem.W.subIn K (.ref C_Unlike) (.ref C_MoveError) = some true)
    : ∃ fd : FuncData, (∀ (t : Shared) (u : Value), BindsTo t fd ⟨[u], []⟩ [("_law_script", u)]) ∧ ∀ base : Heap, K.In base → base.Ns mainGlobals mg → FnOkG l.prog w K mg base CX0 70 fa fd P_law (sp_law K) := by
  have e := hfa.symm.trans (PySem.W.mg_of X G a24)
  cases e
  exact ⟨_, fun s v => .of_eq rfl, fun base _ _ => ok_law (T := {
    d__wall := ⟨_, _, fun_mk l0 c0 k0, PySem.W.mg_of X G a0, (fun_mk l0 c0 k0).binds fun _ _ _ _ _ _ us hl => match us, hl with | [_], _ => rfl⟩
    d_is_integer := ⟨_, _, fun_mk l1 c1 k1, PySem.W.mg_of X G a1, (fun_mk l1 c1 k1).binds fun _ _ _ _ _ _ us hl => match us, hl with | [_], _ => rfl⟩
    d_is_name := ⟨_, _, fun_mk l2 c2 k2, PySem.W.mg_of X G a2, (fun_mk l2 c2 k2).binds fun _ _ _ _ _ _ us hl => match us, hl with | [_], _ => rfl⟩
    d_is_term := ⟨_, _, fun_mk l3 c3 k3, PySem.W.mg_of X G a3, (fun_mk l3 c3 k3).binds fun _ _ _ _ _ _ us hl => match us, hl with | [_], _ => rfl⟩
    d_are_values := ⟨_, _, fun_mk l4 c4 k4, PySem.W.mg_of X G a4, (fun_mk l4 c4 k4).binds fun _ _ _ _ _ _ us hl => match us, hl with | [_, _], _ => rfl⟩
    d_are_terms := ⟨_, _, fun_mk l5 c5 k5, PySem.W.mg_of X G a5, (fun_mk l5 c5 k5).binds fun _ _ _ _ _ _ us hl => match us, hl with | [_], _ => rfl⟩
    d_put := ⟨_, _, fun_mk l6 c6 k6, PySem.W.mg_of X G a6, (fun_mk l6 c6 k6).binds fun _ _ _ _ _ _ us hl => match us, hl with | [_, _], _ => rfl⟩
    d_leaves := ⟨_, _, fun_mk l7 c7 k7, PySem.W.mg_of X G a7, (fun_mk l7 c7 k7).binds fun _ _ _ _ _ _ us hl => match us, hl with | [_], _ => rfl⟩
    d_numbered := ⟨_, _, fun_mk l8 c8 k8, PySem.W.mg_of X G a8, (fun_mk l8 c8 k8).binds fun _ _ _ _ _ _ us hl => match us, hl with | [_], _ => rfl⟩
    d_stood_for := ⟨_, _, fun_mk l9 c9 k9, PySem.W.mg_of X G a9, (fun_mk l9 c9 k9).binds fun _ _ _ _ _ _ us hl => match us, hl with | [_, _], _ => rfl⟩
    d_is_same_operation := ⟨_, _, fun_mk l10 c10 k10, PySem.W.mg_of X G a10, (fun_mk l10 c10 k10).binds fun _ _ _ _ _ _ us hl => match us, hl with | [_, _], _ => rfl⟩
    d_joined := ⟨_, _, fun_mk l11 c11 k11, PySem.W.mg_of X G a11, (fun_mk l11 c11 k11).binds fun _ _ _ _ _ _ us hl => match us, hl with | [_, _, _], _ => rfl⟩
    d_all_joined := ⟨_, _, fun_mk l12 c12 k12, PySem.W.mg_of X G a12, (fun_mk l12 c12 k12).binds fun _ _ _ _ _ _ us hl => match us, hl with | [_, _], _ => rfl⟩
    d__law_bag := ⟨_, _, fun_mk l13 c13 k13, PySem.W.mg_of X G a13, (fun_mk l13 c13 k13).binds fun _ _ _ _ _ _ us hl => match us, hl with | [_], _ => rfl⟩
    d__law_take := ⟨_, _, fun_mk l14 c14 k14, PySem.W.mg_of X G a14, (fun_mk l14 c14 k14).binds fun _ _ _ _ _ _ us hl => match us, hl with | [_, _], _ => rfl⟩
    d__law_alike := ⟨_, _, fun_mk l15 c15 k15, PySem.W.mg_of X G a15, (fun_mk l15 c15 k15).binds fun _ _ _ _ _ _ us hl => match us, hl with | [_, _], _ => rfl⟩
    d__law_mixed := ⟨_, _, fun_mk l16 c16 k16, PySem.W.mg_of X G a16, (fun_mk l16 c16 k16).binds fun _ _ _ _ _ _ us hl => match us, hl with | [_, _], _ => rfl⟩
    d__law_names := ⟨_, _, fun_mk l17 c17 k17, PySem.W.mg_of X G a17, (fun_mk l17 c17 k17).binds fun _ _ _ _ _ _ us hl => match us, hl with | [_, _], _ => rfl⟩
    d__law_term := ⟨_, _, fun_mk l18 c18 k18, PySem.W.mg_of X G a18, (fun_mk l18 c18 k18).binds fun _ _ _ _ _ _ us hl => match us, hl with | [_, _, _, _], _ => rfl⟩
    d__law_put := ⟨_, _, fun_mk l19 c19 k19, PySem.W.mg_of X G a19, (fun_mk l19 c19 k19).binds fun _ _ _ _ _ _ us hl => match us, hl with | [_, _], _ => rfl⟩
    d__law_column := ⟨_, _, fun_mk l20 c20 k20, PySem.W.mg_of X G a20, (fun_mk l20 c20 k20).binds fun _ _ _ _ _ _ us hl => match us, hl with | [_, _], _ => rfl⟩
    d__law_general := ⟨_, _, fun_mk l21 c21 k21, PySem.W.mg_of X G a21, (fun_mk l21 c21 k21).binds fun _ _ _ _ _ _ us hl => match us, hl with | [_], _ => rfl⟩
    d__law_rows := ⟨_, _, fun_mk l22 c22 k22, PySem.W.mg_of X G a22, (fun_mk l22 c22 k22).binds fun _ _ _ _ _ _ us hl => match us, hl with | [_, _], _ => rfl⟩
    d__law_unlike := ⟨_, _, fun_mk l23 c23 k23, PySem.W.mg_of X G a23, (fun_mk l23 c23 k23).binds fun _ _ _ _ _ _ us hl => match us, hl with | [_, _], _ => rfl⟩
    d_law := ⟨_, _, fun_mk l24 c24 k24, PySem.W.mg_of X G a24, (fun_mk l24 c24 k24).binds fun _ _ _ _ _ _ us hl => match us, hl with | [_], _ => rfl⟩
    C_Pattern := C_Pattern
    g_Pattern := PySem.W.mg_of X G g_Pattern
    k_Pattern := k_Pattern
    c_Pattern := ⟨pg_Pattern, ic_Pattern, po_Pattern, sa_Pattern⟩
    mk_Pattern := mk_Pattern
    is_Pattern := ⟨ca_Pattern, cn_Pattern, ct_Pattern, cm_Pattern⟩
    ne_Pattern := ne_Pattern
    ty_Pattern := tyc_Pattern
    mul_Pattern := mul_Pattern
    nl_Pattern := nl_Pattern
    nt_Pattern := nt_Pattern
    p_Pattern_its_terms := p_Pattern_its_terms
    sl_Pattern_its_terms := ⟨at_Pattern_its_terms, get_Pattern_its_terms, tk_Pattern_its_terms, ty_Pattern_its_terms, ix_Pattern_its_terms, by decide⟩
    d_Pattern___init__ := ⟨_, _, fun_mk lm_Pattern___init__ co_Pattern___init__ km_Pattern___init__, ⟨am_Pattern___init__, im_Pattern___init__, km_Pattern___init__⟩, (fun_mk lm_Pattern___init__ co_Pattern___init__ km_Pattern___init__).binds fun _ _ _ _ _ _ us hl => match us, hl with | [_, _], _ => rfl⟩
    d_Pattern_terms := ⟨_, _, fun_mk lm_Pattern_terms co_Pattern_terms km_Pattern_terms, _, pa_Pattern_terms, pg_Pattern_terms, pt_Pattern_terms, ⟨_, pr_Pattern_terms⟩, (fun_mk lm_Pattern_terms co_Pattern_terms km_Pattern_terms).binds fun _ _ _ _ _ _ us hl => match us, hl with | [_], _ => rfl⟩
    d_Pattern___eq__ := ⟨_, _, fun_mk lm_Pattern___eq__ co_Pattern___eq__ km_Pattern___eq__, ⟨am_Pattern___eq__, im_Pattern___eq__, km_Pattern___eq__⟩, (fun_mk lm_Pattern___eq__ co_Pattern___eq__ km_Pattern___eq__).binds fun _ _ _ _ _ _ us hl => match us, hl with | [_, _], _ => rfl⟩
    d_Pattern___len__ := ⟨_, _, fun_mk lm_Pattern___len__ co_Pattern___len__ km_Pattern___len__, ⟨am_Pattern___len__, im_Pattern___len__, km_Pattern___len__⟩, (fun_mk lm_Pattern___len__ co_Pattern___len__ km_Pattern___len__).binds fun _ _ _ _ _ _ us hl => match us, hl with | [_], _ => rfl⟩
    d_Pattern___repr__ := ⟨_, _, fun_mk lm_Pattern___repr__ co_Pattern___repr__ km_Pattern___repr__, ⟨am_Pattern___repr__, im_Pattern___repr__, km_Pattern___repr__⟩, (fun_mk lm_Pattern___repr__ co_Pattern___repr__ km_Pattern___repr__).binds fun _ _ _ _ _ _ us hl => match us, hl with | [_], _ => rfl⟩
    d_Pattern_instance := ⟨_, _, fun_mk lm_Pattern_instance co_Pattern_instance km_Pattern_instance, ⟨am_Pattern_instance, im_Pattern_instance, km_Pattern_instance⟩, (fun_mk lm_Pattern_instance co_Pattern_instance km_Pattern_instance).binds fun _ _ _ _ _ _ us hl => match us, hl with | [_, _], _ => rfl⟩
    d_Pattern___contains__ := ⟨_, _, fun_mk lm_Pattern___contains__ co_Pattern___contains__ km_Pattern___contains__, ⟨am_Pattern___contains__, im_Pattern___contains__, km_Pattern___contains__⟩, (fun_mk lm_Pattern___contains__ co_Pattern___contains__ km_Pattern___contains__).binds fun _ _ _ _ _ _ us hl => match us, hl with | [_, _], _ => rfl⟩
    d_Pattern___or__ := ⟨_, _, fun_mk lm_Pattern___or__ co_Pattern___or__ km_Pattern___or__, ⟨am_Pattern___or__, im_Pattern___or__, km_Pattern___or__⟩, (fun_mk lm_Pattern___or__ co_Pattern___or__ km_Pattern___or__).binds fun _ _ _ _ _ _ us hl => match us, hl with | [_, _], _ => rfl⟩
    b_ValueError := PySem.W.mg_none_of X G z0
    b_abs := PySem.W.mg_none_of X G z1
    b_all := PySem.W.mg_none_of X G z2
    b_bool := PySem.W.mg_none_of X G z3
    b_int := PySem.W.mg_none_of X G z4
    b_isinstance := PySem.W.mg_none_of X G z5
    b_len := PySem.W.mg_none_of X G z6
    b_list := PySem.W.mg_none_of X G z7
    b_range := PySem.W.mg_none_of X G z8
    b_repr := PySem.W.mg_none_of X G z9
    b_sorted := PySem.W.mg_none_of X G z10
    b_str := PySem.W.mg_none_of X G z11
    b_tuple := PySem.W.mg_none_of X G z12
    b_zip := PySem.W.mg_none_of X G z13
    v_LETTERS := _
    c_LETTERS := PySem.W.mg_of X G y0
    r_LETTERS := ⟨_, rfl⟩
    v_MOST_LETTERS := _
    c_MOST_LETTERS := PySem.W.mg_of X G y1
    r_MOST_LETTERS := ⟨_, rfl⟩
    v_MOST_PARTS := _
    c_MOST_PARTS := PySem.W.mg_of X G y2
    r_MOST_PARTS := ⟨_, rfl⟩
  }) (Y := {
    C_MoveError := C_MoveError
    x_MoveError := ⟨PySem.W.mg_of X G g_MoveError, ex_MoveError, hd_MoveError, ty_MoveError⟩
    C_Wrong := C_Wrong
    x_Wrong := ⟨PySem.W.mg_of X G g_Wrong, ⟨_, _, _, _, _, _, _, _, _, _, _, _, _, _, _, cls_Wrong, ve_Wrong⟩, sa_Wrong, no_Wrong, k_Wrong, ex_Wrong, vs_Wrong, ty_Wrong, hd_Wrong, up_Wrong, opq_, self_Wrong, ⟨_, _, _, _, _, _, _, _, _, _, _, _, _, _, _, _, _, _, _, _, _, _, _, _, fi_Wrong, tI_Wrong, lI_Wrong, cd_Wrong, ⟨_, _, _, ce_Wrong⟩, _, _, _, _, _, _, co_Wrong, cv_Wrong, cf_Wrong, bi_Wrong, ev_Wrong⟩, topS_, PySem.W.mg_none_of X G sup_, by decide +kernel, by decide +kernel, by decide +kernel, by decide +kernel, by decide +kernel⟩
    C_Unlike := C_Unlike
    x_Unlike := ⟨PySem.W.mg_of X G g_Unlike, ex_Unlike, hd_Unlike, ty_Unlike, k_Unlike, ei_Unlike⟩
    xc_Wrong := ⟨xa_Wrong, xg_Wrong, ex_Wrong, hd_Wrong, xl_Wrong, xn_Wrong, xt_Wrong, xm_Wrong⟩
    xc_Unlike := ⟨xa_Unlike, xg_Unlike, ex_Unlike, hd_Unlike, xl_Unlike, xn_Unlike, xt_Unlike, xm_Unlike⟩
    ed_Unlike_Wrong := kitOne_exd ds_Unlike_Wrong dn_Unlike_Wrong hd_Wrong ty_Wrong
    ev_Wrong := kitOne_ve vs_Wrong
    em_Wrong_MoveError := PySem.W.exm_ref ex_MoveError hd_MoveError ty_MoveError sb_Wrong_MoveError
    em_Unlike_MoveError := PySem.W.exm_ref ex_MoveError hd_MoveError ty_MoveError sb_Unlike_MoveError
  })⟩
end
end Fm
open PySem PySem.W PyProof.Rows
set_option maxHeartbeats 0 in
theorem PySem.Challenge.cw_framemoves_k15_whole_least_patterns_holds : PySem.Challenge.rw_framemoves_k15_whole_least_patterns.Holds := by
  w_on; o_law; k_head; (case hw => w_witness2)
  k_fill
  refine Fm.walk_G (l := PySem.Challenge.rw_framemoves_k15_whole_least_patterns) (n := 63) (k := 70) (x := "_law_script") (sp := Fm.sp_law) rfl (by decide) rfl ⟨rfl, by decide, by decide⟩ (fun w h Y => PySem.W.kIn_of Y) ?F (fun K H a ns hl hS => ⟨a, ns, rfl, hS, hl, fun _ => rfl⟩)
  case F =>
    intro w mg fa h KX G hmg
    refine' Fm.all_mk KX G hmg ?a0 ?l0 ?c0 ?k0 ?a1 ?l1 ?c1 ?k1 ?a2 ?l2 ?c2 ?k2 ?a3 ?l3 ?c3 ?k3 ?a4 ?l4 ?c4 ?k4 ?a5 ?l5 ?c5 ?k5 ?a6 ?l6 ?c6 ?k6 ?a7 ?l7 ?c7 ?k7 ?a8 ?l8 ?c8 ?k8 ?a9 ?l9 ?c9 ?k9 ?a10 ?l10 ?c10 ?k10 ?a11 ?l11 ?c11 ?k11 ?a12 ?l12 ?c12 ?k12 ?a13 ?l13 ?c13 ?k13 ?a14 ?l14 ?c14 ?k14 ?a15 ?l15 ?c15 ?k15 ?a16 ?l16 ?c16 ?k16 ?a17 ?l17 ?c17 ?k17 ?a18 ?l18 ?c18 ?k18 ?a19 ?l19 ?c19 ?k19 ?a20 ?l20 ?c20 ?k20 ?a21 ?l21 ?c21 ?k21 ?a22 ?l22 ?c22 ?k22 ?a23 ?l23 ?c23 ?k23 ?a24 ?l24 ?c24 ?k24 ?g_Pattern ?k_Pattern ?pg_Pattern ?ic_Pattern ?po_Pattern ?sa_Pattern ?mk_Pattern ?ca_Pattern ?cn_Pattern ?ct_Pattern ?cm_Pattern ?ne_Pattern ?tyc_Pattern ?mul_Pattern ?nl_Pattern ?nt_Pattern ?at_Pattern_its_terms ?get_Pattern_its_terms ?tk_Pattern_its_terms ?ty_Pattern_its_terms ?ix_Pattern_its_terms ?am_Pattern___init__ ?im_Pattern___init__ ?lm_Pattern___init__ ?co_Pattern___init__ ?km_Pattern___init__ ?pa_Pattern_terms ?pg_Pattern_terms ?pt_Pattern_terms ?pr_Pattern_terms ?lm_Pattern_terms ?co_Pattern_terms ?km_Pattern_terms ?am_Pattern___eq__ ?im_Pattern___eq__ ?lm_Pattern___eq__ ?co_Pattern___eq__ ?km_Pattern___eq__ ?am_Pattern___len__ ?im_Pattern___len__ ?lm_Pattern___len__ ?co_Pattern___len__ ?km_Pattern___len__ ?am_Pattern___repr__ ?im_Pattern___repr__ ?lm_Pattern___repr__ ?co_Pattern___repr__ ?km_Pattern___repr__ ?am_Pattern_instance ?im_Pattern_instance ?lm_Pattern_instance ?co_Pattern_instance ?km_Pattern_instance ?am_Pattern___contains__ ?im_Pattern___contains__ ?lm_Pattern___contains__ ?co_Pattern___contains__ ?km_Pattern___contains__ ?am_Pattern___or__ ?im_Pattern___or__ ?lm_Pattern___or__ ?co_Pattern___or__ ?km_Pattern___or__ ?topS_ ?sup_ ?opq_ ?g_MoveError ?ex_MoveError ?hd_MoveError ?ty_MoveError ?g_Wrong ?ex_Wrong ?hd_Wrong ?ty_Wrong ?cls_Wrong ?ve_Wrong ?sa_Wrong ?no_Wrong ?k_Wrong ?vs_Wrong ?up_Wrong ?self_Wrong ?fi_Wrong ?tI_Wrong ?lI_Wrong ?cd_Wrong ?ce_Wrong ?co_Wrong ?cv_Wrong ?cf_Wrong ?bi_Wrong ?ev_Wrong ?g_Unlike ?ex_Unlike ?hd_Unlike ?ty_Unlike ?k_Unlike ?ei_Unlike ?z0 ?z1 ?z2 ?z3 ?z4 ?z5 ?z6 ?z7 ?z8 ?z9 ?z10 ?z11 ?z12 ?z13 ?y0 ?y1 ?y2 ?xa_Wrong ?xg_Wrong ?xl_Wrong ?xn_Wrong ?xt_Wrong ?xm_Wrong ?xa_Unlike ?xg_Unlike ?xl_Unlike ?xn_Unlike ?xt_Unlike ?xm_Unlike ?ds_Unlike_Wrong ?dn_Unlike_Wrong ?sb_Wrong_MoveError ?sb_Unlike_MoveError
    (case a0 => k_is); (case l0 => k_is); (case c0 => k_is); (case k0 => k_is); (case a1 => k_is); (case l1 => k_is); (case c1 => k_is); (case k1 => k_is); (case a2 => k_is); (case l2 => k_is); (case c2 => k_is); (case k2 => k_is); (case a3 => k_is); (case l3 => k_is); (case c3 => k_is); (case k3 => k_is); (case a4 => k_is); (case l4 => k_is); (case c4 => k_is); (case k4 => k_is); (case a5 => k_is); (case l5 => k_is); (case c5 => k_is); (case k5 => k_is); (case a6 => k_is); (case l6 => k_is); (case c6 => k_is); (case k6 => k_is); (case a7 => k_is); (case l7 => k_is); (case c7 => k_is); (case k7 => k_is); (case a8 => k_is); (case l8 => k_is); (case c8 => k_is); (case k8 => k_is); (case a9 => k_is); (case l9 => k_is); (case c9 => k_is); (case k9 => k_is); (case a10 => k_is); (case l10 => k_is); (case c10 => k_is); (case k10 => k_is); (case a11 => k_is); (case l11 => k_is); (case c11 => k_is); (case k11 => k_is); (case a12 => k_is); (case l12 => k_is); (case c12 => k_is); (case k12 => k_is); (case a13 => k_is); (case l13 => k_is); (case c13 => k_is); (case k13 => k_is); (case a14 => k_is); (case l14 => k_is); (case c14 => k_is); (case k14 => k_is); (case a15 => k_is); (case l15 => k_is); (case c15 => k_is); (case k15 => k_is); (case a16 => k_is); (case l16 => k_is); (case c16 => k_is); (case k16 => k_is); (case a17 => k_is); (case l17 => k_is); (case c17 => k_is); (case k17 => k_is); (case a18 => k_is); (case l18 => k_is); (case c18 => k_is); (case k18 => k_is); (case a19 => k_is); (case l19 => k_is); (case c19 => k_is); (case k19 => k_is); (case a20 => k_is); (case l20 => k_is); (case c20 => k_is); (case k20 => k_is); (case a21 => k_is); (case l21 => k_is); (case c21 => k_is); (case k21 => k_is); (case a22 => k_is); (case l22 => k_is); (case c22 => k_is); (case k22 => k_is); (case a23 => k_is); (case l23 => k_is); (case c23 => k_is); (case k23 => k_is); (case a24 => k_is); (case l24 => k_is); (case c24 => k_is); (case k24 => k_is); (case g_Pattern => k_is); (case k_Pattern => k_is); (case pg_Pattern => k_is); (case ic_Pattern => k_is); (case po_Pattern => k_is); (case sa_Pattern => k_is); (case mk_Pattern => k_is); (case ca_Pattern => k_is); (case cn_Pattern => k_is); (case ct_Pattern => k_is); (case cm_Pattern => k_is); (case ne_Pattern => k_is); (case tyc_Pattern => k_is); (case mul_Pattern => k_is); (case nl_Pattern => k_is); (case nt_Pattern => k_is); (case at_Pattern_its_terms => k_is); (case get_Pattern_its_terms => k_is); (case tk_Pattern_its_terms => k_is); (case ty_Pattern_its_terms => k_is); (case ix_Pattern_its_terms => k_is); (case am_Pattern___init__ => k_is); (case im_Pattern___init__ => k_is); (case lm_Pattern___init__ => k_is); (case co_Pattern___init__ => k_is); (case km_Pattern___init__ => k_is); (case pa_Pattern_terms => k_is); (case pg_Pattern_terms => k_is); (case pt_Pattern_terms => k_is); (case pr_Pattern_terms => k_is); (case lm_Pattern_terms => k_is); (case co_Pattern_terms => k_is); (case km_Pattern_terms => k_is); (case am_Pattern___eq__ => k_is); (case im_Pattern___eq__ => k_is); (case lm_Pattern___eq__ => k_is); (case co_Pattern___eq__ => k_is); (case km_Pattern___eq__ => k_is); (case am_Pattern___len__ => k_is); (case im_Pattern___len__ => k_is); (case lm_Pattern___len__ => k_is); (case co_Pattern___len__ => k_is); (case km_Pattern___len__ => k_is); (case am_Pattern___repr__ => k_is); (case im_Pattern___repr__ => k_is); (case lm_Pattern___repr__ => k_is); (case co_Pattern___repr__ => k_is); (case km_Pattern___repr__ => k_is); (case am_Pattern_instance => k_is); (case im_Pattern_instance => k_is); (case lm_Pattern_instance => k_is); (case co_Pattern_instance => k_is); (case km_Pattern_instance => k_is); (case am_Pattern___contains__ => k_is); (case im_Pattern___contains__ => k_is); (case lm_Pattern___contains__ => k_is); (case co_Pattern___contains__ => k_is); (case km_Pattern___contains__ => k_is); (case am_Pattern___or__ => k_is); (case im_Pattern___or__ => k_is); (case lm_Pattern___or__ => k_is); (case co_Pattern___or__ => k_is); (case km_Pattern___or__ => k_is); (case topS_ => rfl); (case sup_ => k_is); (case opq_ => k_is); (case g_MoveError => k_is); (case ex_MoveError => k_is); (case hd_MoveError => k_is); (case ty_MoveError => k_is); (case g_Wrong => k_is); (case ex_Wrong => k_is); (case hd_Wrong => k_is); (case ty_Wrong => k_is); (case cls_Wrong => k_is); (case ve_Wrong => decide +kernel); (case sa_Wrong => k_is); (case no_Wrong => k_is); (case k_Wrong => k_is); (case vs_Wrong => k_is); (case up_Wrong => ks_is); (case self_Wrong => k_is); (case fi_Wrong => k_is); (case tI_Wrong => k_is); (case lI_Wrong => k_is); (case cd_Wrong => k_is); (case ce_Wrong => k_is); (case co_Wrong => k_is); (case cv_Wrong => rfl); (case cf_Wrong => decide +kernel); (case bi_Wrong => exact fun _ _ => rfl); (case ev_Wrong => exact fun _ => ⟨_, rfl⟩); (case g_Unlike => k_is); (case ex_Unlike => k_is); (case hd_Unlike => k_is); (case ty_Unlike => k_is); (case k_Unlike => k_is); (case ei_Unlike => k_exc); (case z0 => k_is); (case z1 => k_is); (case z2 => k_is); (case z3 => k_is); (case z4 => k_is); (case z5 => k_is); (case z6 => k_is); (case z7 => k_is); (case z8 => k_is); (case z9 => k_is); (case z10 => k_is); (case z11 => k_is); (case z12 => k_is); (case z13 => k_is); (case y0 => k_is); (case y1 => k_is); (case y2 => k_is); (case xa_Wrong => k_is); (case xg_Wrong => k_is); (case xl_Wrong => k_is); (case xn_Wrong => k_is); (case xt_Wrong => k_is); (case xm_Wrong => k_is); (case xa_Unlike => k_is); (case xg_Unlike => k_is); (case xl_Unlike => k_is); (case xn_Unlike => k_is); (case xt_Unlike => k_is); (case xm_Unlike => k_is); (case ds_Unlike_Wrong => k_is); (case dn_Unlike_Wrong => decide +kernel); (case sb_Wrong_MoveError => k_is); (case sb_Unlike_MoveError => k_is)
