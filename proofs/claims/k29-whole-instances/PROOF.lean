import PyProof.Rows.All
import Wide.All
import OpenK.AllK
import Wide.FinOn
import HandS.ForMost
import HandS.IsInst
import HandS.TupAny
import HandS.Wide
import HandS.Deep
import HandS.SetKeys
import HandS.Style
import HandS.Conv
import PyProof.ReprRoads
import HandS.SetFor
import HandS.Strs
import HandS.Walk
import HandS.Sort
import HandS.TupLe
import PyProof.NeKinds
import PyProof.EqAt
import HandS.TupMul
import HandS.ForExc
import HandS.ExcField
import HandS.ExcIs
import KE.KExcSuper
import HandS.SlotsOwn
import KE.KExcIs
import HandS.DictTup
import HandS.ListItems
import HandS.SortOrd
import PyProof.Rows.SortKeyStr
import HandS.SortInts
import HandS.SortKw
import KE.KSortKey
import PyProof.Rows.SortStr
import PyProof.TupleOfSeq
import PyProof.Draws
import PyProof.EnumMake
import HandS.Slots
import KE.KDictOf
import HandS.More
import HandS.ExcOwn
import HandS.Evl
import KE.KDictPairs
import HandS.DictComp
import PySem.Challenge.RW_framemoves_k29_whole_instances
import HandS.WordsExc
set_option Elab.async false
set_option linter.all false
set_option maxRecDepth 100000
set_option maxHeartbeats 8000000
namespace Fm
open PySem PySem.Spec PyProof.Rows L2

/-! built-in names -/
theorem bt_len : bootBuiltins "len" = some (.builtin "len") := by decide +kernel
theorem bt_abs : bootBuiltins "abs" = some (.builtin "abs") := by decide +kernel
theorem bt_isinstance : bootBuiltins "isinstance" = some (.builtin "isinstance") := by decide +kernel
theorem bt_repr : bootBuiltins "repr" = some (.builtin "repr") := by decide +kernel
theorem bt_sum : bootBuiltins "sum" = some (.builtin "sum") := by decide +kernel
theorem bt_sorted : bootBuiltins "sorted" = some (.builtin "sorted") := by decide +kernel
theorem bt_all : bootBuiltins "all" = some (.builtin "all") := by decide +kernel
theorem bt_int : bootBuiltins "int" = some (.type "int") := by decide +kernel
theorem bt_tuple : bootBuiltins "tuple" = some (.type "tuple") := by decide +kernel
theorem bt_list : bootBuiltins "list" = some (.type "list") := by decide +kernel
theorem bt_dict : bootBuiltins "dict" = some (.type "dict") := by decide +kernel
theorem bt_set : bootBuiltins "set" = some (.type "set") := by decide +kernel
theorem bt_str : bootBuiltins "str" = some (.type "str") := by decide +kernel
theorem bt_bool : bootBuiltins "bool" = some (.type "bool") := by decide +kernel

section
variable {X : Cx} {e l : Expr} {pos : Pos}
theorem pe_ty {x : Str} {n : String} (hm : X.mg x = none) (hv : bootBuiltins x = some (.type n)) (hg : Gl X x := by rfl)
    (h1 : x ≠ "__name__" := by decide) (h2 : (x == ("__debug__" : Str)) = false := by decide) : PE X (.Name x pos) (tC (.ty n)) :=
  pe_bltn hg hm hv rfl h1 h2
/-- one of two readings, chosen ahead -/
theorem pe_or2 {t u : TE} (h : PE X e t) (k : PE X e u) : PE X e (fun σ H Q => t σ H Q ∨ u σ H Q) :=
  ⟨fun pins s σ H Q I q => q.elim (h.run pins s σ H Q I) (k.run pins s σ H Q I)⟩
theorem pi_or2 {tg : Expr} {t u : TI} (h : PI X tg e t) (k : PI X tg e u) : PI X tg e (fun σ H R => t σ H R ∨ u σ H R) :=
  ⟨fun pins s σ H R I q => q.elim (h.run pins s σ H R I) (k.run pins s σ H R I)⟩

def iSeq (K : PySem.W.Frag) (tl : TE) : TI := fun σ H R => tl σ H fun x H1 => ∃ a, x = .ref a ∧
  (((∃ xs, SqL K H1 a xs) ∧ R (Itl K a) H1) ∨ ((∃ xs, SqT K H1 a xs) ∧ R (Itt K a) H1))
theorem pi_seq {tg : Expr} {tl : TE} (hl : PE X l tl) : PI X tg l (iSeq X.K tl) := by
  refine ⟨fun pins s σ H R I h => thn (hl.run pins s σ H _ I h) ?_⟩
  rintro v s1 ⟨x, H1, I1, r1, a, rfl, q⟩
  cases r1
  have fp : ∀ b ∈ [s1.heap.objs.size], FpOk X pins H1 b := fun b hb => by
    rw [List.mem_singleton.mp hb]
    exact I1.fpOk (Nat.le_refl _) (I1.hok.fresh (Nat.le_refl _))
  rcases q with ⟨⟨xs, hq⟩, q⟩ | ⟨⟨xs, hq⟩, q⟩
  · obtain ⟨its, rv, p, hz⟩ := I1.list hq
    exact wpAny_pyIter_list p.isList ⟨_, _, _, _, H1, rfl, I1.kept (t' := s1.toks) fun b o e => Heap.get?_push_of_some _ e, turn_list a _,
      ⟨_, Heap.get?_push_size _ rfl, rfl, rfl⟩, fp, q⟩
  · obtain ⟨its, rv, p, hz⟩ := I1.tuple hq
    exact wpAny_pyIter_tuple (show s1.heap.IsTuple a its.toArray from p) ⟨_, _, _, _, H1, rfl, I1.kept (t' := s1.toks) fun b o e => Heap.get?_push_of_some _ e, turn_tuple a _,
      ⟨_, Heap.get?_push_size _ rfl, rfl, rfl⟩, fp, q⟩

/-! operators by what stands there -/
def rAddS : R2 := fun x y H Q => ∃ i j, x = .str i ∧ y = .str j ∧ i.length + j.length ≤ sizeLine ∧ Q (.str (i ++ j)) H
def rAddG (K : PySem.W.Frag) : R2 := fun x y H Q => rI0 (fun i j => .int (i + j)) x y H Q ∨ (rAddS x y H Q ∨ (rCatA K x y H Q ∨ rCat x y H Q))
theorem op_addG : OpR X (binaryOp .Add) (rAddG X.K) := OpR.or op_add (OpR.or op_add_str (OpR.or op_catA op_cat))
def rMulG : R2 := fun x y H Q => rI CMul (fun i j => .int (i * j)) x y H Q ∨ rRep x y H Q
theorem op_mulG : OpR X (binaryOp .Mult) rMulG := OpR.or op_mul op_rep
def rEqG (K : PySem.W.Frag) : R2 := fun x y H Q => rEq x y H Q ∨ rEqD K x y H Q
theorem op_eqG (hu : X.A.units + 64 < cLine) : OpR X (compareOp .Eq) (rEqG X.K) := OpR.or op_eq (op_eqD hu)
def rNeG (K : PySem.W.Frag) : R2 := fun x y H Q => rNe x y H Q ∨ rNeD K x y H Q
theorem op_neG (hu : X.A.units + 64 < cLine) : OpR X (compareOp .NotEq) (rNeG X.K) := OpR.or op_ne (op_neD hu)
def rInSig : R2 := fun x y H Q => ∃ (c : Nat) (z : Str), x = .str ⟨#[c]⟩ ∧ y = .str z ∧ Q (.bl (decide (c ∈ z.cps.toList))) H
def rInG (K : PySem.W.Frag) : R2 := fun x y H Q => rInD K x y H Q ∨ rInSig x y H Q
theorem op_inG (hu : X.A.units + 65 < cLine) : OpR X (compareOp .In) (rInG X.K) := OpR.or (op_inD hu) op_in_sign
def rNotInSig : R2 := fun x y H Q => ∃ (c : Nat) (z : Str), x = .str ⟨#[c]⟩ ∧ y = .str z ∧ Q (.bl (!decide (c ∈ z.cps.toList))) H
def rNotInG (K : PySem.W.Frag) : R2 := fun x y H Q => rNotInD K x y H Q ∨ rNotInSig x y H Q
theorem op_notInG (hu : X.A.units + 65 < cLine) : OpR X (compareOp .NotIn) (rNotInG X.K) := OpR.or (op_notInD hu) op_notIn_sign
/-- len -/
def rLenG (K : PySem.W.Frag) : List V → Hp → VK → Prop := fun xs H Q =>
  (∃ p ys, xs = [.ref p] ∧ (SqL K H p ys ∨ SqT K H p ys) ∧ Q (.int ys.length) H) ∨ ((∃ z : Str, xs = [.str z] ∧ z.length ≤ sizeLine ∧ Q (.int z.length) H) ∨
    (∃ a kvs, xs = [V.ref a] ∧ H a = some (.dK kvs) ∧ Q (.int kvs.length) H))
theorem call_lenG : CallR X (.builtin "len") (rLenG X.K) := CallR.or call_len_seq (CallR.or call_len_str call_lenD)
/-- tuple(x), list(x) -/
def rTupOf (K : PySem.W.Frag) : List V → Hp → VK → Prop := fun xs H Q => ∃ p ys, xs = [.ref p] ∧ ((SqL K H p ys ∧ ∀ l, H l = none → Q (.ref l) (upd H l (.tup ys))) ∨ (SqT K H p ys ∧ Q (.ref p) H))
theorem call_tupG : CallR X (.type "tuple") (rTupOf X.K) := call_tuple_of
def rListOf (K : PySem.W.Frag) : List V → Hp → VK → Prop := fun xs H Q => ∃ p ys, xs = [.ref p] ∧ (SqL K H p ys ∨ SqT K H p ys) ∧ ∀ l, H l = none → Q (.ref l) (upd H l (.lst ys))
theorem call_listG : CallR X (.type "list") (rListOf X.K) := call_list_of
/-- slices -/
def rSlG (K : PySem.W.Frag) : V → Option Int → Option Int → Hp → VK → Prop := fun x lo hi H Q => rSlL K x lo hi H Q ∨ (rSlA K x lo hi H Q ∨ rSlS x lo hi H Q)
theorem sl_G : SlR X (rSlG X.K) := SlR.or sl_list (SlR.or sl_tupA sl_str)
end
end Fm
namespace Fm
open PySem PySem.Spec PyProof.Rows L2
/-! list.extend by a tuple, whatever its own dict and slots -/
theorem ext_tup (l b : Addr) (as bs : Array Value) (n m : Nat) (dd : Option Addr) (sl : Array (Option Value))
    (h0 : ¬(!as.isEmpty && Builtin.List.listTooLong (as.size + bs.size)) = true) (h1 : as.size ≤ sizeLine) (h2 : as.size + bs.size ≤ sizeLine + 1) :
    Meets (Builtin.«list.extend» ⟨[.ref l, .ref b], []⟩) (fun _ R s =>
      s.heap.get? l = some { cls := .type "list", dict := none, data := .seq as n, slots := #[] } ∧
      s.heap.get? b = some { cls := .type "tuple", dict := dd, data := .seq bs m, slots := sl } ∧
      R (.ok (.ret Value.none)) { s with heap := s.heap.update l (Obj.mapSeq fun x => x ++ bs), toks := s.toks }) := by
  refine .of_wp fun prog w A R s h => ?_
  obtain ⟨hp, g, d, tk, os⟩ := s
  obtain ⟨ha, hb, hr⟩ := h
  have q1 := AutoSeq1.idx_int
  have q2 := AutoSeq1.sub_tuple_tuple
  have q3 := AutoSeq1.sub_list_list
  have q4 := AutoSeq1.sub_tuple_list
  have q5 := AutoSeq1.sub_list_tuple
  have hz : (as ++ bs).size ≤ sizeLine + 1 := by
    rw [Array.size_append]
    exact h2
  wp_walk using (wpAny_updateSeq ha rfl (hz := h1) (_hz' := hz)), AutoSeq1.wpAny_loadPart' ha, AutoSeq1.wpAny_loadPart' hb
  exact ⟨_, rfl, hr⟩
section
variable {X : Cx}
def rExtT (K : PySem.W.Frag) : V → List V → Hp → VK → Prop := fun x vs H Q => ∃ l b xs zs, x = .ref l ∧ vs = [.ref b] ∧ H l = some (.lst xs) ∧ SqT K H b zs ∧
  xs.length + zs.length ≤ sizeLine ∧ Q .non (upd H l (.lst (xs ++ zs)))
theorem mt_extT : MtR X "list.extend" (rExtT X.K) := by
  intro pins s σ H x vs v us Q I rx rv h
  obtain ⟨l, b, xs, zs, rfl, rfl, hH, hB, hz, q⟩ := h
  cases rx
  obtain ⟨u, rfl, ru⟩ := rv.one
  cases ru
  obtain ⟨z, its, n, r, hl, e⟩ := I.lstM hH
  obtain ⟨its2, r2, ⟨⟨cls, dd, data, sl⟩, ho, hc, m, hd⟩, hz2⟩ := I.tuple hB
  simp only at hc hd
  subst hc hd
  have e1 := r.length
  have e2 := r2.length
  have hs : its.toArray.size + its2.toArray.size ≤ sizeLine := by
    rw [List.size_toArray, List.size_toArray]
    omega
  have hlong : ¬ (!its.toArray.isEmpty && Builtin.List.listTooLong (its.toArray.size + its2.toArray.size)) = true := by
    rw [notLongL hs, Bool.and_false]
    exact Bool.false_ne_true
  refine call_meets PySem.F.slot_list_extend ⟨_, e, rfl⟩ PySem.F.entry_list_extend (PySem.F.args_list_extend_2 _ _)
    (ext_tup l b its.toArray its2.toArray n m dd sl hlong (by rw [List.size_toArray]; omega) (by omega)) ⟨e, ho, ?_⟩
  refine ⟨.non, _, I.lset (its' := its ++ its2) hH e (by simp) (r.append r2) ?_, rfl, q⟩
  rw [List.length_append]
  omega
def rExtG (K : PySem.W.Frag) : V → List V → Hp → VK → Prop := fun x vs H Q => rExtend x vs H Q ∨ rExtT K x vs H Q
theorem mt_extendG : MtR X "list.extend" (rExtG X.K) := MtR.or mt_extend mt_extT

/-! repr of data, where no repr is under way -/
def rReprG (K : PySem.W.Frag) : List V → Hp → VK → Prop := fun xs H Q => ∃ (x : V) (d : PyData), xs = [x] ∧ Dp K H x d ∧ d.showable = true ∧ d.hasDict = false ∧ d.depth ≤ 60 ∧ d.shown.length ≤ sizeLine ∧ Q (.str d.shown) H
theorem call_reprG (hg : X.A.guards = some []) (hu : X.A.units + 64 < cLine) : CallR X (.builtin "repr") (rReprG X.K) := by
  intro pins s σ H xs us Q I rv h
  obtain ⟨x, d, rfl, hd, hs, hn, hdp, hz, q⟩ := h
  obtain ⟨u, rfl, ru⟩ := rv.one
  obtain ⟨as, R⟩ := Dp.reads I d x u hd ru
  have fin : ∀ h' (t : Tok) tk, (∀ b o, s.heap.get? b = some o → h'.get? b = some o) → EP X pins σ Q (.str d.shown t) { s with heap := h', toks := tk } := fun h' t tk hk =>
    ⟨.str d.shown, H, I.kept (h' := h') (t' := tk) hk, ⟨t, rfl⟩, q⟩
  cases hd with
  | non =>
    cases ru
    exact PySem.P.repr_of_none (fin s.heap _ _ fun _ _ e => e)
  | bl b =>
    cases ru
    exact PySem.P.repr_of_bool (fin s.heap _ _ fun _ _ e => e)
  | int i =>
    obtain ⟨t, rfl⟩ := ru
    exact PySem.P.repr_of_int (by simpa [PyData.showable] using hs) (fin s.heap _ _ fun _ _ e => e)
  | str y =>
    obtain ⟨t, rfl⟩ := ru
    exact PySem.P.repr_of_str (fin s.heap _ _ fun _ _ e => e) hz
  | lst h1 h2 =>
    cases ru
    exact PySem.repr_of_reads' R hs (fun c => by rw [hn] at c; cases c) hg (by omega) (fun _ _ e => e) (fun h' t tk hk => fin h' t tk hk) hz
  | tup h1 h2 =>
    cases ru
    exact PySem.repr_of_reads' R hs (fun c => by rw [hn] at c; cases c) hg (by omega) (fun _ _ e => e) (fun h' t tk hk => fin h' t tk hk) hz
end

/-! defs that may ask for a repr: called where none is under way -/
structure FnOkG (P : Program) (w : World) (K : PySem.W.Frag) (mg : Str → Option Value) (base : Heap) (CX : CXT) (k : Nat) (f : Addr) (fd : FuncData) (ps : List Str) (sp : Sp) : Prop where
  len : ∀ vs H Q E, sp vs H Q E → vs.length = ps.length
  run : ∀ (A : Around) (outer : List Env) (s : Shared) (H : Hp) (args : Args) (us : List Value) (vs : List V) (Q : VK) (E : XK), A.guards = some [] → Room k A →
    Env0 P w K mg base A outer s H → BindsTo s fd args (ps.zip us) → Vals vs us → sp vs H Q E → codeAny (model P w) A (.call (.ref f) args) (CR CX outer P w H s Q E) s
section
variable {P : Program} {w : World} {K : PySem.W.Frag} {mg : Str → Option Value} {base : Heap} {CX : CXT}
theorem FnOkG.mono {j k : Nat} {f : Addr} {fd : FuncData} {ps : List Str} {sp : Sp} (F : FnOkG P w K mg base CX j f fd ps sp) (h : j ≤ k) : FnOkG P w K mg base CX k f fd ps sp :=
  ⟨F.len, fun A outer s H args us vs Q E hg hr => F.run A outer s H args us vs Q E hg (hr.mono h)⟩
theorem guards_deeper (A : Around) (env : Env) (h : A.guards = some []) : (A.deeper env).guards = some [] := by
  first | exact h | simpa [Around.deeper] using h
/-- a def's promise by its body, as Fun.ok says it, with the guards known -/
theorem okG {x qual : Str} {st : Stmt} {f : Addr} {fd : FuncData} {N ps : List Str} {k : Nat} {sp : Sp} (F : Fun K x qual st f fd) (S : FnScope N ps (defScope st))
    (len : ∀ vs H Q E, sp vs H Q E → vs.length = ps.length)
    (body : ∀ (cdv : Value) (A : Around) (outer : List Env) (s : Shared) (H : Hp) (vs : List V) (Q : VK) (E : XK),
      (A.deeper (envOfC qual (defScope st) s.heap.objs.size f cdv)).guards = some [] → Room k (A.deeper (envOfC qual (defScope st) s.heap.objs.size f cdv)) → sp vs H Q E →
      ∃ t, PSs (cxOf CX0 P w K mg base N qual (defScope st) f cdv A outer s H E).nox (defBody st) t ∧ t { nx := fun _ H' => Q .non H', rt := Q } (start N vs) H) :
    FnOkG P w K mg base CX0 (k + 1) f fd ps sp := by
  obtain ⟨oc, od, kV, doc, pm, an, cdv, ct, osl, rfl, lk, hcd⟩ := F.ex
  refine ⟨len, fun A outer s H args us vs Q E hg hr e0 hb rv hsp => ?_⟩
  have KX : K.In s.heap := e0.mod.kin.keeps fun b o e => (e0.bs b o e).1
  have lim : s.heap.NoLimit := e0.mod.nolimit.keeps fun b o e => (e0.bs b o e).1
  refine codeAny_call_function hr.depth (KX _ _ lk) rfl S.co S.gen rfl (PySem.W.codeRec_of KX hcd) (hb _ _ _ _ ?_)
  refine wpAny_newFunctionEnv_cells S.kind (fun y hy => ?_) fun env he s1 ic => ?_
  · rcases S.par y.1 (List.of_mem_zip (show (y.1, y.2) ∈ ps.zip us from hy)).1 with q | q
    · exact .inl q
    · exact .inr ⟨q, PySem.W.cellsFrom_some _ _ _ (.inl q)⟩
  · subst he
    refine ⟨lim.keeps ic.toInCall.keep, codeAny_func ?_⟩
    obtain ⟨t, ht, hq⟩ := body cdv A outer s H vs Q E (guards_deeper A _ hg) (hr.deeper _) hsp
    have I := inv_start (CX := CX0) (N := N) (E := E) S hr.hd e0 (len _ _ _ _ hsp) rv ic
    refine wpAny_mono (ht.nox.run [] s1 (start N vs) H _ I hq) (fun fl s' hs => ?_) fun e s' hs => hs
    cases fl with
    | ret u =>
      obtain ⟨v, σ', H', J, r', q⟩ := hs
      exact ⟨v, H', J.os, J.bare, J.base, J.hok, r', q⟩
    | next =>
      obtain ⟨σ', H', J, q⟩ := hs
      exact ⟨.non, H', J.os, J.bare, J.base, J.hok, rfl, q⟩
    | brk =>
      obtain ⟨_, _, _, q⟩ := hs
      exact q.elim
    | cont =>
      obtain ⟨_, _, _, q⟩ := hs
      exact q.elim
end
section
variable {X : Cx} {CX : CXT} {k : Nat} {f : Addr} {fd : FuncData} {ps : List Str} {sp : Sp} {dvs : List V} {ds : List Value} {E : XK} {x : Str} {p pos : Pos} {e : Expr} {es : List Expr} {t : TA}
theorem pe_callG (F : FnOkG X.prog X.w X.K X.mg X.base CX k f fd ps sp) (hgd : X.A.guards = some []) (hr : Room k X.A) (hg : Gl X x) (hm : X.mg x = some (.ref f))
    (hk : PySem.W.keepIn X.K (.ref f) = true) (hb : Binds X.K fd ps ds) (hd : Vals dvs ds) (hx : Passes CX X E) (ha : PA X (e :: es) t) (hdb : (x == ("__debug__" : Str)) = false := by decide)
    (he : starEach (e :: es) X.env = (false, eval e X.env) :: starEach es X.env := by rfl) (hpl : (backTo pos (starEach es X.env)).any (·.1) = false := by rfl) :
    PE X (.Call (.Name x p) (e :: es) [] pos) (tCall sp dvs E t) := by
  refine ⟨fun pins s σ H Q I h => wpAny_Call_Name_kw (ld_glob I hg hm ?_ hdb)⟩
  refine PySem.W.callWith_K (h₀ := X.base) I.ok.mod.kin hk (thn (ha.run pos pins s σ H _ I h) ?_) he hpl
  rintro us s1 ⟨vs, H1, I1, rv, q⟩
  refine ⟨I1.kIn, ?_⟩
  have r2 := rv.append hd
  have hl : (us ++ ds).length = ps.length := by
    rw [← r2.length]
    exact F.len _ _ _ _ q
  refine wpAny_call (codeAny_mono (F.run X.A X.stack s1 H1 ⟨us, []⟩ _ _ Q E hgd hr I1.env0 (hb s1 us I1.kIn hl) r2 q) fun r s' hq => ?_)
  match r, hq with
  | .error e, hq => exact hx pins σ H1 s1 e s' I1 hq
  | .ok (.ret u), hq => exact I1.after hq
end
end Fm
namespace Fm
open PySem PySem.Spec PyProof.Rows L2

/-! heaps: what a step leaves -/
/-- tuples stay; all else stays but what stands in S -/
structure Mv (S : List Addr) (H H' : Hp) : Prop where
  tk : ∀ a xs, Rd H a (.tup xs) → Rd H' a (.tup xs)
  keep : ∀ a o, a ∉ S → H a = some o → H' a = some o
section
variable {S T : List Addr} {H H1 H2 : Hp} {p : Addr} {o : HO}
theorem Mv.refl : Mv S H H := ⟨fun _ _ h => h, fun _ _ _ h => h⟩
theorem Mv.trans (a : Mv S H H1) (b : Mv S H1 H2) : Mv S H H2 := ⟨fun c xs h => b.tk c xs (a.tk c xs h), fun c u n h => b.keep c u n (a.keep c u n h)⟩
theorem Mv.mono (a : Mv S H H1) (h : ∀ x ∈ S, x ∈ T) : Mv T H H1 := ⟨a.tk, fun c u n e => a.keep c u (fun z => n (h c z)) e⟩
theorem Mv.of_same (h : Same H H1) : Mv S H H1 := ⟨fun a xs r => r.elim (fun r => .inl (h _ _ r)) fun ⟨o, r⟩ => .inr ⟨o, h _ _ r⟩, fun a o _ e => h a o e⟩
theorem same_new (h : H p = none) : Same H (upd H p o) := fun a u e => by
  rw [upd_ne (ne_of_none e h)]
  exact e
theorem Mv.new (h : H p = none) : Mv S H (upd H p o) := .of_same (same_new h)
theorem Mv.free (a : Mv [] H H1) (h : H1 p = none) : H p = none := by
  cases q : H p with
  | none => rfl
  | some u =>
    rw [a.keep p u (List.not_mem_nil) q] at h
    cases h
theorem Mv.same (a : Mv [] H H1) : Same H H1 := fun c u e => a.keep c u List.not_mem_nil e
/-- what H does not know may be written -/
theorem Mv.wr (a : Mv S H H1) (h : H p = none) : Mv S H (upd H1 p o) := by
  refine ⟨fun c xs r => ?_, fun c u n e => ?_⟩
  · have hc : c ≠ p := by
      rintro rfl
      rcases r with r | ⟨u, r⟩ <;> (rw [h] at r; cases r)
    rcases a.tk c xs r with r | ⟨u, r⟩
    · exact .inl (by rw [upd_ne hc]; exact r)
    · exact .inr ⟨u, by rw [upd_ne hc]; exact r⟩
  · rw [upd_ne (ne_of_none e h)]
    exact a.keep c u n e
/-- a list that stands in S may be written -/
theorem Mv.set {xs : List V} (h : H p = some (.lst xs)) (hp : p ∈ S) : Mv S H (upd H p o) := by
  refine ⟨fun c ys r => ?_, fun c u n e => ?_⟩
  · have hc : c ≠ p := by
      rintro rfl
      rcases r with r | ⟨u, r⟩ <;> (rw [h] at r; cases r)
    rcases r with r | ⟨u, r⟩
    · exact .inl (by rw [upd_ne hc]; exact r)
    · exact .inr ⟨u, by rw [upd_ne hc]; exact r⟩
  · have hc : c ≠ p := fun z => n (by rw [z]; exact hp)
    rw [upd_ne hc]
    exact e
theorem Mv.sqT {K : PySem.W.Frag} {a : Addr} {xs : List V} (m : Mv S H H1) (h : SqT K H a xs) : SqT K H1 a xs := h.elim (fun h => .inl (m.tk a xs h)) .inr
end

/-! data without lists and dicts -/
mutual
def imm : PyData → Bool
  | .none | .bool _ | .int _ | .str _ => true
  | .tuple xs => immAll xs
  | .list _ => false
  | .dict _ => false
def immAll : List PyData → Bool
  | [] => true
  | x :: xs => imm x && immAll xs
end
theorem immAll_iff : ∀ {xs : List PyData}, immAll xs = true ↔ ∀ x ∈ xs, imm x = true
  | [] => by simp [immAll]
  | x :: xs => by simp [immAll, immAll_iff]
structure Im (K : PySem.W.Frag) (H : Hp) (v : V) (d : PyData) : Prop where
  dp : Dp K H v d
  im : imm d = true
structure Ims (K : PySem.W.Frag) (H : Hp) (vs : List V) (ds : List PyData) : Prop where
  dp : DpAll K H vs ds
  im : immAll ds = true
section
variable {K : PySem.W.Frag} {S : List Addr} {H H' : Hp}
mutual
theorem dp_mv (m : Mv S H H') : ∀ (d : PyData) (v : V), imm d = true → Dp K H v d → Dp K H' v d
  | .none, _, _, h => by cases h; exact .non
  | .bool b, _, _, h => by cases h; exact .bl b
  | .int i, _, _, h => by cases h; exact .int i
  | .str x, _, _, h => by cases h; exact .str x
  | .tuple ds, _, i, h => by
    cases h with
    | tup hs ha => exact .tup (m.sqT hs) (dps_mv m ds _ (by simpa [imm] using i) ha)
  | .list ds, _, i, _ => by simp [imm] at i
  | .dict _, _, _, h => by cases h
theorem dps_mv (m : Mv S H H') : ∀ (ds : List PyData) (vs : List V), immAll ds = true → DpAll K H vs ds → DpAll K H' vs ds
  | [], _, _, h => by cases h; exact .nil
  | d :: ds, _, i, h => by
    cases h with
    | cons h1 h2 =>
      have i' : imm d = true ∧ immAll ds = true := by simpa [immAll] using i
      exact .cons (dp_mv m d _ i'.1 h1) (dps_mv m ds _ i'.2 h2)
end
theorem Im.mv {v : V} {d : PyData} (h : Im K H v d) (m : Mv S H H') : Im K H' v d := ⟨dp_mv m d v h.im h.dp, h.im⟩
theorem Ims.mv {vs : List V} {ds : List PyData} (h : Ims K H vs ds) (m : Mv S H H') : Ims K H' vs ds := ⟨dps_mv m ds vs h.im h.dp, h.im⟩
theorem Ims.nil : Ims K H [] [] := ⟨.nil, rfl⟩
theorem Ims.cons {v : V} {vs : List V} {d : PyData} {ds : List PyData} (h : Im K H v d) (k : Ims K H vs ds) : Ims K H (v :: vs) (d :: ds) := ⟨.cons h.dp k.dp, by simp [immAll, h.im, k.im]⟩
theorem Ims.inv {v : V} {vs : List V} {ds : List PyData} (h : Ims K H (v :: vs) ds) : ∃ d ds', ds = d :: ds' ∧ Im K H v d ∧ Ims K H vs ds' := by
  obtain ⟨h, i⟩ := h
  cases h with
  | cons h1 h2 =>
    simp only [immAll, Bool.and_eq_true] at i
    exact ⟨_, _, rfl, ⟨h1, i.1⟩, h2, i.2⟩
theorem Ims.invD {vs : List V} {d : PyData} {ds : List PyData} (h : Ims K H vs (d :: ds)) : ∃ v vs', vs = v :: vs' ∧ Im K H v d ∧ Ims K H vs' ds := by
  obtain ⟨h, i⟩ := h
  cases h with
  | cons h1 h2 =>
    simp only [immAll, Bool.and_eq_true] at i
    exact ⟨_, _, rfl, ⟨h1, i.1⟩, h2, i.2⟩
theorem Ims.nilV {ds : List PyData} (h : Ims K H [] ds) : ds = [] := by
  obtain ⟨h, i⟩ := h
  cases h
  rfl
theorem Ims.nilD {vs : List V} (h : Ims K H vs []) : vs = [] := by
  obtain ⟨h, i⟩ := h
  cases h
  rfl
theorem Ims.length : ∀ {ds : List PyData} {vs : List V}, Ims K H vs ds → vs.length = ds.length
  | [], _, h => by rw [h.nilD]; rfl
  | d :: ds, _, h => by
    obtain ⟨v, vs', rfl, _, k⟩ := h.invD
    simp [k.length]
theorem Ims.append : ∀ {ds es : List PyData} {vs us : List V}, Ims K H vs ds → Ims K H us es → Ims K H (vs ++ us) (ds ++ es)
  | [], _, _, _, h, k => by rw [h.nilD]; exact k
  | d :: ds, _, _, _, h, k => by
    obtain ⟨v, vs', rfl, h1, h2⟩ := h.invD
    exact .cons h1 (h2.append k)
theorem Ims.get : ∀ {ds : List PyData} {vs : List V} {i : Nat} {v : V}, Ims K H vs ds → vs[i]? = some v → ∃ d, ds[i]? = some d ∧ Im K H v d
  | [], _, _, _, h, e => by rw [h.nilD] at e; simp at e
  | d :: ds, _, 0, _, h, e => by
    obtain ⟨v, vs', rfl, h1, h2⟩ := h.invD
    simp at e
    subst e
    exact ⟨d, rfl, h1⟩
  | d :: ds, _, i + 1, _, h, e => by
    obtain ⟨v, vs', rfl, h1, h2⟩ := h.invD
    exact h2.get (i := i) (by simpa using e)
theorem Ims.getD : ∀ {ds : List PyData} {vs : List V} {i : Nat} {d : PyData}, Ims K H vs ds → ds[i]? = some d → ∃ v, vs[i]? = some v ∧ Im K H v d
  | [], _, _, _, h, e => by simp at e
  | d :: ds, _, 0, _, h, e => by
    obtain ⟨v, vs', rfl, h1, h2⟩ := h.invD
    simp at e
    subst e
    exact ⟨v, rfl, h1⟩
  | d :: ds, _, i + 1, _, h, e => by
    obtain ⟨v, vs', rfl, h1, h2⟩ := h.invD
    exact h2.getD (i := i) (by simpa using e)
theorem Im.tupI {v : V} {ds : List PyData} (h : Im K H v (.tuple ds)) : ∃ a xs, v = .ref a ∧ SqT K H a xs ∧ Ims K H xs ds := by
  obtain ⟨h, i⟩ := h
  cases h with
  | tup hs ha => exact ⟨_, _, rfl, hs, ha, by simpa [imm] using i⟩
theorem Im.tup {a : Addr} {xs : List V} {ds : List PyData} (h : SqT K H a xs) (k : Ims K H xs ds) : Im K H (.ref a) (.tuple ds) := ⟨.tup h k.dp, by simpa [imm] using k.im⟩
theorem Im.int (i : Int) : Im K H (.int i) (.int i) := ⟨.int i, rfl⟩
theorem Im.str (x : Str) : Im K H (.str x) (.str x) := ⟨.str x, rfl⟩
theorem Im.bl (b : Bool) : Im K H (.bl b) (.bool b) := ⟨.bl b, rfl⟩
theorem Im.non : Im K H .non .none := ⟨.non, rfl⟩
theorem Im.intI {v : V} {i : Int} (h : Im K H v (.int i)) : v = .int i := by
  obtain ⟨h, _⟩ := h
  cases h
  rfl
theorem Im.strI {v : V} {x : Str} (h : Im K H v (.str x)) : v = .str x := by
  obtain ⟨h, _⟩ := h
  cases h
  rfl
end

/-! the bag of draws -/
def BagC (H : Hp) (b c : Addr) : Prop := ∃ (s m k : Int) (ns : List Int), H b = some (.lst [.int s, .int m, .int k, .ref c]) ∧ H c = some (.lst (ns.map V.int)) ∧ ns.length ≤ 63 ∧
  (∀ n ∈ ns, 0 ≤ n) ∧ 0 ≤ s ∧ 0 ≤ k ∧ 0 ≤ m
def Bag (H : Hp) (b : Addr) : Prop := ∃ c, BagC H b c
theorem BagC.lst {H : Hp} {b c : Addr} (h : BagC H b c) : ∃ xs, H b = some (.lst xs) := by
  obtain ⟨s, m, k, ns, h, _⟩ := h
  exact ⟨_, h⟩
theorem Bag.lst {H : Hp} {b : Addr} (h : Bag H b) : ∃ xs, H b = some (.lst xs) := h.elim fun _ h => h.lst
theorem Bag.ne {H : Hp} {b c : Addr} {xs : List V} {ns : List Int} (h : H b = some (.lst (xs ++ [.ref c]))) (k : H c = some (.lst (ns.map V.int))) : c ≠ b := by
  rintro rfl
  rw [h] at k
  have e : xs ++ [V.ref c] = ns.map V.int := by
    have := Option.some.inj k
    injection this
  have : V.ref c ∈ ns.map V.int := by
    rw [← e]
    simp
  obtain ⟨n, _, q⟩ := List.mem_map.mp this
  cases q
theorem BagC.mv {H H' : Hp} {b c : Addr} (h : BagC H b c) (m : Mv [] H H') : BagC H' b c := by
  obtain ⟨s, m', k, ns, h1, h2, r⟩ := h
  exact ⟨s, m', k, ns, m.same _ _ h1, m.same _ _ h2, r⟩
theorem Bag.mv {H H' : Hp} {b : Addr} (h : Bag H b) (m : Mv [] H H') : Bag H' b := h.elim fun c h => ⟨c, h.mv m⟩
/-- a step that may draw from the bag -/
structure Dr (b : Addr) (H H' : Hp) : Prop where
  mv : Mv [b] H H'
  bagC : ∀ c, BagC H b c → BagC H' b c
section
variable {b p : Addr} {H H' H1 H2 : Hp} {o : HO}
theorem Dr.bag (x : Dr b H H') (h : Bag H b) : Bag H' b := h.elim fun c h => ⟨c, x.bagC c h⟩
theorem Dr.refl : Dr b H H := ⟨.refl, fun _ h => h⟩
theorem Dr.trans (x : Dr b H H1) (y : Dr b H1 H2) : Dr b H H2 := ⟨x.mv.trans y.mv, fun c h => y.bagC c (x.bagC c h)⟩
theorem Dr.of (x : Mv [] H H1) : Dr b H H1 := ⟨x.mono (by simp), fun _ h => h.mv x⟩
theorem Dr.new (h : H p = none) : Dr b H (upd H p o) := .of (.new h)
theorem Dr.free (d : Dr b H H') (hB : Bag H b) (h : H' p = none) : H p = none := by
  cases q : H p with
  | none => rfl
  | some u =>
    by_cases e : p = b
    · subst e
      obtain ⟨xs, hx⟩ := (d.bag hB).lst
      rw [hx] at h
      cases h
    · rw [d.mv.keep p u (by simpa using e) q] at h
      cases h
theorem Dr.get (d : Dr b H H') (hp : p ≠ b) (h : H p = some o) : H' p = some o := d.mv.keep p o (by simpa using hp) h
theorem Dr.wr (d : Dr b H H') (hp : H p = none) : Dr b H (upd H' p o) := by
  refine ⟨d.mv.wr hp, fun c hB => ?_⟩
  obtain ⟨s', m', k', ns', h1', h2', r'⟩ := d.bagC c hB
  obtain ⟨s, m, k, ns, h1, h2, r⟩ := hB
  exact ⟨s', m', k', ns', by rw [upd_ne (ne_of_none h1 hp)]; exact h1', by rw [upd_ne (ne_of_none h2 hp)]; exact h2', r'⟩
theorem Dr.mkc {c : Addr} (m : Mv [b] H H') (h : BagC H b c) (h' : BagC H' b c) : Dr b H H' := ⟨m, fun d k => by
  obtain ⟨_, _, _, _, h1, _⟩ := h
  obtain ⟨_, _, _, _, k1, _⟩ := k
  rw [h1] at k1
  have e := Option.some.inj k1
  injection e with e
  injection e with _ e
  injection e with _ e
  injection e with _ e
  injection e with e _
  injection e with e
  rw [← e]
  exact h'⟩
theorem Bag.fneq (h : Bag H b) (hp : H p = none) : p ≠ b := by
  rintro rfl
  obtain ⟨xs, e⟩ := h.lst
  rw [e] at hp
  cases hp
end

/-! items of a list, by values -/
section
variable {X : Cx}
def rGetL (K : PySem.W.Frag) : V → V → Hp → VK → Prop := fun o i H Q => ∃ (p : Addr) (xs : List V) (j : Nat) (v : V), o = .ref p ∧ i = .int (j : Nat) ∧ SqL K H p xs ∧ xs[j]? = some v ∧ Q v H
theorem get_G : PGet X (rGetL X.K) := by
  intro pins s σ H o i ov iv Q I ro ri h
  obtain ⟨p, xs, j, v, rfl, rfl, hq, he, q⟩ := h
  cases ro
  obtain ⟨t, rfl⟩ := ri
  obtain ⟨its, r, pl, hz⟩ := I.list hq
  obtain ⟨w, ew, rw'⟩ := r.get he
  have hl := r.length
  have hn := line63
  have hj : j < its.length := (List.getElem?_eq_some_iff.mp ew).1
  exact wpAny_getItem_list pl.isList (by omega) (by omega) (by simpa using ew) ⟨v, H, I, rw', q⟩
end
end Fm
namespace Fm
open PySem PySem.Spec PyProof.Rows L2
/-- small letters, one to eight -/
def Nm (x : Str) : Prop := 1 ≤ x.length ∧ x.length ≤ 8 ∧ ∀ c ∈ x.cps.toList, 97 ≤ c ∧ c ≤ 122
instance (x : Str) : Decidable (Nm x) := by unfold Nm; infer_instance
/-! terms -/
inductive Tm where
  | var (i : Int)
  | op (x : Str) (ts : List Tm)
namespace Tm
mutual
def d : Tm → PyData
  | .var i => .int i
  | .op x ts => .tuple (.str x :: ds ts)
def ds : List Tm → List PyData
  | [] => []
  | t :: ts => d t :: ds ts
end
theorem ds_map : ∀ ts : List Tm, ds ts = ts.map d
  | [] => by simp [ds]
  | t :: ts => by simp [ds, ds_map ts]
mutual
def dep : Tm → Nat
  | .var _ => 0
  | .op _ ts => deps ts + 1
def deps : List Tm → Nat
  | [] => 0
  | t :: ts => max (dep t) (deps ts)
end
mutual
/-- how many unknowns stand there -/
def lv : Tm → Nat
  | .var _ => 1
  | .op _ ts => lvs ts
def lvs : List Tm → Nat
  | [] => 0
  | t :: ts => lv t + lvs ts
end
mutual
/-- the unknowns from left to right -/
def leaves : Tm → List Int
  | .var i => [i]
  | .op _ ts => leavesL ts
def leavesL : List Tm → List Int
  | [] => []
  | t :: ts => leaves t ++ leavesL ts
end
mutual
/-- how many operations -/
def size : Tm → Nat
  | .var _ => 0
  | .op _ ts => sizes ts + 1
def sizes : List Tm → Nat
  | [] => 0
  | t :: ts => size t + sizes ts
end
mutual
def put (f : Int → Tm) : Tm → Tm
  | .var i => f i
  | .op x ts => .op x (puts f ts)
def puts (f : Int → Tm) : List Tm → List Tm
  | [] => []
  | t :: ts => put f t :: puts f ts
end
mutual
/-- names are names, at most three parts, the unknowns keep P -/
def ok (P : Int → Prop) : Tm → Prop
  | .var i => P i
  | .op x ts => Nm x ∧ ts.length ≤ 3 ∧ oks P ts
def oks (P : Int → Prop) : List Tm → Prop
  | [] => True
  | t :: ts => ok P t ∧ oks P ts
end
theorem puts_map (f : Int → Tm) : ∀ ts : List Tm, puts f ts = ts.map (put f)
  | [] => by simp [puts]
  | t :: ts => by simp [puts, puts_map f ts]
theorem oks_iff {P : Int → Prop} : ∀ {ts : List Tm}, oks P ts ↔ ∀ t ∈ ts, ok P t
  | [] => by simp [oks]
  | t :: ts => by simp [oks, oks_iff]
theorem deps_le {n : Nat} : ∀ {ts : List Tm}, deps ts ≤ n ↔ ∀ t ∈ ts, dep t ≤ n
  | [] => by simp [deps]
  | t :: ts => by
    have := deps_le (n := n) (ts := ts)
    simp only [deps, List.mem_cons, forall_eq_or_imp, ← this]
    omega
theorem leavesL_append : ∀ ts us : List Tm, leavesL (ts ++ us) = leavesL ts ++ leavesL us
  | [], _ => by simp [leavesL]
  | t :: ts, us => by simp [leavesL, leavesL_append ts us]
theorem sizes_append : ∀ ts us : List Tm, sizes (ts ++ us) = sizes ts + sizes us
  | [], _ => by simp [sizes]
  | t :: ts, us => by
    simp only [List.cons_append, sizes, sizes_append ts us]
    omega
theorem lvs_append : ∀ ts us : List Tm, lvs (ts ++ us) = lvs ts + lvs us
  | [], _ => by simp [lvs]
  | t :: ts, us => by
    simp only [List.cons_append, lvs, lvs_append ts us]
    omega
mutual
theorem leaves_len : ∀ t : Tm, (leaves t).length = lv t
  | .var _ => by simp [leaves, lv]
  | .op _ ts => by simp [leaves, lv, leavesL_len ts]
theorem leavesL_len : ∀ ts : List Tm, (leavesL ts).length = lvs ts
  | [] => by simp [leavesL, lvs]
  | t :: ts => by simp [leavesL, lvs, leaves_len t, leavesL_len ts]
end
mutual
theorem ok_leaves {P : Int → Prop} : ∀ t : Tm, ok P t → ∀ i ∈ leaves t, P i
  | .var j, h, i, hi => by
    simp only [leaves, List.mem_singleton] at hi
    rw [hi]
    exact h
  | .op _ ts, h, i, hi => oks_leaves ts h.2.2 i (by simpa [leaves] using hi)
theorem oks_leaves {P : Int → Prop} : ∀ ts : List Tm, oks P ts → ∀ i ∈ leavesL ts, P i
  | [], _, i, hi => by simp [leavesL] at hi
  | t :: ts, h, i, hi => by
    rcases List.mem_append.mp (show i ∈ leaves t ++ leavesL ts by simpa [leavesL] using hi) with hi | hi
    · exact ok_leaves t h.1 i hi
    · exact oks_leaves ts h.2 i hi
end
mutual
theorem ok_mono {P R : Int → Prop} (h : ∀ i, P i → R i) : ∀ t : Tm, ok P t → ok R t
  | .var i, k => h i k
  | .op _ ts, k => ⟨k.1, k.2.1, oks_mono h ts k.2.2⟩
theorem oks_mono {P R : Int → Prop} (h : ∀ i, P i → R i) : ∀ ts : List Tm, oks P ts → oks R ts
  | [], _ => trivial
  | t :: ts, k => ⟨ok_mono h t k.1, oks_mono h ts k.2⟩
end
mutual
theorem ok_put {P R : Int → Prop} {f : Int → Tm} (h : ∀ i, P i → ok R (f i)) : ∀ t : Tm, ok P t → ok R (put f t)
  | .var i, k => h i k
  | .op _ ts, k => by
    refine ⟨k.1, ?_, oks_puts h ts k.2.2⟩
    rw [puts_map, List.length_map]
    exact k.2.1
theorem oks_puts {P R : Int → Prop} {f : Int → Tm} (h : ∀ i, P i → ok R (f i)) : ∀ ts : List Tm, oks P ts → oks R (puts f ts)
  | [], _ => trivial
  | t :: ts, k => ⟨ok_put h t k.1, oks_puts h ts k.2⟩
end
mutual
theorem dep_put {P : Int → Prop} {f : Int → Tm} {n : Nat} (h : ∀ i, P i → dep (f i) ≤ n) : ∀ t : Tm, ok P t → dep (put f t) ≤ dep t + n
  | .var i, k => by simpa [put, dep] using h i k
  | .op _ ts, k => by
    have := deps_puts h ts k.2.2
    simp only [put, dep]
    omega
theorem deps_puts {P : Int → Prop} {f : Int → Tm} {n : Nat} (h : ∀ i, P i → dep (f i) ≤ n) : ∀ ts : List Tm, oks P ts → deps (puts f ts) ≤ deps ts + n
  | [], _ => by simp [puts, deps]
  | t :: ts, k => by
    have h1 := dep_put h t k.1
    have h2 := deps_puts h ts k.2
    simp only [puts, deps]
    omega
end
mutual
/-- what a term's text may come to, without its unknowns' figures -/
def cst : Tm → Nat
  | .var _ => 0
  | .op _ ts => csts ts + 90
def csts : List Tm → Nat
  | [] => 0
  | t :: ts => cst t + 2 + csts ts
end
mutual
theorem cst_put {P : Int → Prop} {f : Int → Tm} {c : Nat} (h : ∀ i, P i → cst (f i) ≤ c) : ∀ t : Tm, ok P t → cst (put f t) ≤ cst t + lv t * c
  | .var i, k => by simpa [put, cst, lv] using h i k
  | .op _ ts, k => by
    have := csts_puts h ts k.2.2
    simp only [put, cst, lv]
    omega
theorem csts_puts {P : Int → Prop} {f : Int → Tm} {c : Nat} (h : ∀ i, P i → cst (f i) ≤ c) : ∀ ts : List Tm, oks P ts → csts (puts f ts) ≤ csts ts + lvs ts * c
  | [], _ => by simp [puts, csts]
  | t :: ts, k => by
    have h1 := cst_put h t k.1
    have h2 := csts_puts h ts k.2
    simp only [puts, csts, lvs, Nat.add_mul]
    omega
end
mutual
theorem lv_put {P : Int → Prop} {f : Int → Tm} {c : Nat} (h : ∀ i, P i → lv (f i) ≤ c) : ∀ t : Tm, ok P t → lv (put f t) ≤ lv t * c
  | .var i, k => by simpa [put, lv] using h i k
  | .op _ ts, k => by simpa [put, lv] using lvs_puts h ts k.2.2
theorem lvs_puts {P : Int → Prop} {f : Int → Tm} {c : Nat} (h : ∀ i, P i → lv (f i) ≤ c) : ∀ ts : List Tm, oks P ts → lvs (puts f ts) ≤ lvs ts * c
  | [], _ => by simp [puts, lvs]
  | t :: ts, k => by
    have h1 := lv_put h t k.1
    have h2 := lvs_puts h ts k.2
    simp only [puts, lvs, Nat.add_mul]
    omega
end
mutual
theorem put_congr {f g : Int → Tm} : ∀ t : Tm, (∀ i ∈ leaves t, f i = g i) → put f t = put g t
  | .var i, h => h i (by simp [leaves])
  | .op x ts, h => by
    show Tm.op x (puts f ts) = .op x (puts g ts)
    rw [puts_congr ts fun i hi => h i (by simpa [leaves] using hi)]
theorem puts_congr {f g : Int → Tm} : ∀ ts : List Tm, (∀ i ∈ leavesL ts, f i = g i) → puts f ts = puts g ts
  | [], _ => rfl
  | t :: ts, h => by
    show put f t :: puts f ts = put g t :: puts g ts
    rw [put_congr t fun i hi => h i (by simp [leavesL, hi]), puts_congr ts fun i hi => h i (by simp [leavesL, hi])]
end
/-- trees of bounded depth are small -/
theorem small {P : Int → Prop} : ∀ (n : Nat) (t : Tm), ok P t → dep t ≤ n → lv t ≤ 3 ^ n ∧ cst t + 48 ≤ 48 * 3 ^ n
  | 0, .var i, _, _ => by simp [lv, cst]
  | 0, .op x ts, _, h => by simp [dep] at h
  | n + 1, .var i, _, _ => by
    have := Nat.one_le_pow (n + 1) 3 (by decide)
    simp only [lv, cst]
    omega
  | n + 1, .op x ts, k, h => by
    have hd : ∀ t ∈ ts, dep t ≤ n := deps_le.mp (by simp only [dep] at h; omega)
    have ho := oks_iff.mp k.2.2
    have hl := k.2.1
    have ih : ∀ t ∈ ts, lv t ≤ 3 ^ n ∧ cst t + 48 ≤ 48 * 3 ^ n := fun t ht => small n t (ho t ht) (hd t ht)
    have h1 := Nat.one_le_pow n 3 (by decide)
    rw [Nat.pow_succ]
    simp only [lv, cst]
    match ts, hl, ih with
    | [], _, _ => simp only [lvs, csts]; omega
    | [a], _, ih =>
      have := ih a (by simp)
      simp only [lvs, csts]; omega
    | [a, b], _, ih =>
      have := ih a (by simp)
      have := ih b (by simp)
      simp only [lvs, csts]; omega
    | [a, b, c], _, ih =>
      have := ih a (by simp)
      have := ih b (by simp)
      have := ih c (by simp)
      simp only [lvs, csts]; omega
end Tm
mutual
theorem imm_d : ∀ t : Tm, imm t.d = true
  | .var _ => by simp [Tm.d, imm]
  | .op _ ts => by simp [Tm.d, imm, immAll, imm_ds ts]
theorem imm_ds : ∀ ts : List Tm, immAll (Tm.ds ts) = true
  | [] => by simp [Tm.ds, immAll]
  | t :: ts => by simp [Tm.ds, immAll, imm_d t, imm_ds ts]
end
end Fm
namespace Fm
open PySem PySem.Spec PyProof.Rows L2
/-! what is worth a value, the heap as it is -/
structure TV (t : TE) (σ : L2.St) (H : Hp) (v : V) : Prop where
  go : ∀ Q : VK, Q v H → t σ H Q
structure TB (t : TT) (σ : L2.St) (H : Hp) (b : Bool) : Prop where
  go : ∀ Q : Bool → Hp → Prop, Q b H → t σ H Q
theorem vint_eq {i j : Int} : decide (V.int i = V.int j) = decide (i = j) := by
  by_cases e : i = j
  · rw [e, decide_eq_true rfl, decide_eq_true rfl]
  · rw [decide_eq_false e, decide_eq_false fun z => e (V.int.inj z)]
section
variable {K : PySem.W.Frag} {σ : L2.St} {H : Hp} {ta tb : TE} {t u : TT} {a b : Bool} {i j : Int} {x y v : V} {Q : VK}
theorem tv_var {m : Nat} (h : σ[m]? = some (some v)) : TV (tVar m) σ H v := ⟨fun Q q => ⟨v, h, q⟩⟩
theorem tv_c : TV (tC v) σ H v := ⟨fun Q q => q⟩
theorem tv_I {g : Int → Int → V} (ha : TV ta σ H (.int i)) (hb : TV tb σ H (.int j)) : TV (tOp (rI0 g) ta tb) σ H (g i j) := ⟨fun Q q => ha.go _ (hb.go _ ⟨i, j, rfl, rfl, q⟩)⟩
theorem tv_eq (ha : TV ta σ H x) (hb : TV tb σ H y) (hs : scal x y = true) : TV (tOp (rEqG K) ta tb) σ H (.bl (decide (x = y))) := ⟨fun Q q => ha.go _ (hb.go _ (Or.inl ⟨hs, q⟩))⟩
theorem tv_ne (ha : TV ta σ H x) (hb : TV tb σ H y) (hs : scal x y = true) : TV (tOp (rNeG K) ta tb) σ H (.bl (!decide (x = y))) := ⟨fun Q q => ha.go _ (hb.go _ (Or.inl ⟨hs, q⟩))⟩
theorem tv_eqI (ha : TV ta σ H (.int i)) (hb : TV tb σ H (.int j)) : TV (tOp (rEqG K) ta tb) σ H (.bl (decide (i = j))) := by
  rw [← vint_eq]
  exact tv_eq ha hb rfl
theorem tv_neI (ha : TV ta σ H (.int i)) (hb : TV tb σ H (.int j)) : TV (tOp (rNeG K) ta tb) σ H (.bl (!decide (i = j))) := by
  rw [← vint_eq]
  exact tv_ne ha hb rfl
theorem tb_test (h : TV ta σ H (.bl a)) : TB (tTest ta) σ H a := ⟨fun Q q => h.go _ ⟨a, rfl, q⟩⟩
theorem tb_B (h : TV ta σ H (.bl a)) : TB (tB ta) σ H a := ⟨fun Q q => h.go _ ⟨a, rfl, q⟩⟩
theorem tb_and (h : TB t σ H a) (k : TB u σ H b) : TB (tAnd t u) σ H (a && b) := ⟨fun Q q => h.go _ (by
  cases a with
  | true => exact k.go _ q
  | false => exact q)⟩
theorem tb_or (h : TB t σ H a) (k : TB u σ H b) : TB (tOr t u) σ H (a || b) := ⟨fun Q q => h.go _ (by
  cases a with
  | true => exact q
  | false => exact k.go _ q)⟩
theorem tb_not (h : TB t σ H a) : TB (tNot t) σ H (!a) := ⟨fun Q q => h.go _ q⟩
theorem tv_is {w : V} (h : TV ta σ H v) (e : v = w) : TV ta σ H w := by rw [← e]; exact h
theorem st_if {c : TT} {t u : TS} {D : Ends} (h : TB c σ H b) (h1 : b = true → t D σ H) (h2 : b = false → u D σ H) : tIfS c t u D σ H := h.go _ (by
  cases b with
  | true => exact h1 rfl
  | false => exact h2 rfl)
theorem te_if {c : TT} (h : TB c σ H b) (h1 : b = true → ta σ H Q) (h2 : b = false → tb σ H Q) : tIf c ta tb σ H Q := h.go _ (by
  cases b with
  | true => exact h1 rfl
  | false => exact h2 rfl)
/-- isinstance(x, int) of data -/
def isInt : PyData → Bool
  | .int _ => true
  | .bool _ => true
  | _ => false
theorem tyx_dp {d : PyData} (h : Dp K H v d) (hd : imm d = true) : ∃ t : String, TyX K H v (.type t) ∧ (t = "int" ∧ (∃ i, d = .int i) ∨ t = "bool" ∧ (∃ b, d = .bool b) ∨ t = "str" ∧ (∃ x, d = .str x) ∨ t = "NoneType" ∧ d = .none ∨ t = "tuple" ∧ (∃ ds, d = .tuple ds)) := by
  cases h with
  | non => exact ⟨_, .base .non, .inr (.inr (.inr (.inl ⟨rfl, rfl⟩)))⟩
  | bl b => exact ⟨_, .base (.bl b), .inr (.inl ⟨rfl, b, rfl⟩)⟩
  | int i => exact ⟨_, .base (.int i), .inl ⟨rfl, i, rfl⟩⟩
  | str x => exact ⟨_, .base (.str x), .inr (.inr (.inl ⟨rfl, x, rfl⟩))⟩
  | lst h1 h2 => simp [imm] at hd
  | tup h1 h2 =>
    refine ⟨"tuple", ?_, .inr (.inr (.inr (.inr ⟨rfl, _, rfl⟩)))⟩
    rcases h1 with (h1 | ⟨o, h1⟩) | ⟨o, its, n, hk, hc, _⟩
    · exact .base (.tup h1)
    · exact .fTuple h1
    · exact .kTuple hk hc
theorem kit_i1 : kitB "int" "int" = some true := by decide +kernel
theorem kit_i2 : kitB "bool" "int" = some true := by decide +kernel
theorem kit_i3 : kitB "str" "int" = some false := by decide +kernel
theorem kit_i4 : kitB "NoneType" "int" = some false := by decide +kernel
theorem kit_i5 : kitB "tuple" "int" = some false := by decide +kernel
theorem rd_isInt {d : PyData} (h : Im K H v d) (q : Q (.bl (isInt d)) H) : rIsi K [v, .ty "int"] H Q := by
  obtain ⟨t, ht, k⟩ := tyx_dp h.dp h.im
  refine ⟨v, .ty "int", _, _, isInt d, rfl, .ty "int", ht, ?_, q⟩
  rcases k with ⟨rfl, i, rfl⟩ | ⟨rfl, i, rfl⟩ | ⟨rfl, i, rfl⟩ | ⟨rfl, rfl⟩ | ⟨rfl, i, rfl⟩
  · exact kit_ty kit_i1
  · exact kit_ty kit_i2
  · exact kit_ty kit_i3
  · exact kit_ty kit_i4
  · exact kit_ty kit_i5
/-- t + u of tuples -/
theorem rd_cat {a b : Addr} {xs ys : List V} (ha : SqT K H a xs) (hb : SqT K H b ys) (hs : xs.length + ys.length ≤ sizeLine)
    (h : ∀ p H', Mv [] H H' → SqT K H' p (xs ++ ys) → Q (.ref p) H') : rAddG K (.ref a) (.ref b) H Q := by
  refine Or.inr (Or.inr (Or.inl ⟨a, b, xs, ys, rfl, rfl, ha, hb, hs, fun e => ?_, fun _ e => ?_, fun _ _ p np => ?_⟩))
  · subst e
    exact h b H .refl hb
  · subst e
    exact h a H .refl (by rw [List.append_nil]; exact ha)
  · exact h p _ (.new np) (.inl (.inl upd_same))
/-- list + list -/
theorem rd_catL {a b : Addr} {xs ys : List V} (ha : H a = some (.lst xs)) (hb : H b = some (.lst ys)) (hs : xs.length + ys.length ≤ sizeLine)
    (h : ∀ p H', H p = none → Mv [] H H' → H' p = some (.lst (xs ++ ys)) → Q (.ref p) H') : rAddG K (.ref a) (.ref b) H Q :=
  Or.inr (Or.inr (Or.inr ⟨a, b, xs, ys, rfl, rfl, ha, hb, hs, fun p np => h p _ np (.new np) upd_same⟩))
/-- an item of a list -/
theorem rd_ixL {a : Addr} {xs : List V} {i : Int} {v : V} (ha : SqL K H a xs) (h0 : 0 ≤ i) (hv : xs[i.toNat]? = some v) (h : Q v H) : rIx K (.ref a) (.int i) H Q := by
  obtain ⟨j, rfl⟩ := Int.eq_ofNat_of_zero_le h0
  exact Or.inl ⟨a, xs, j, v, rfl, rfl, ha, atI_nat hv, h⟩
theorem rd_ixT {a : Addr} {xs : List V} {i : Int} {v : V} (ha : SqT K H a xs) (h0 : 0 ≤ i) (hv : xs[i.toNat]? = some v) (h : Q v H) : rIx K (.ref a) (.int i) H Q := by
  obtain ⟨j, rfl⟩ := Int.eq_ofNat_of_zero_le h0
  exact Or.inr (Or.inl ⟨a, xs, j, v, rfl, rfl, ha, atI_nat hv, h⟩)
theorem rd_len {a : Addr} {xs : List V} (ha : SqL K H a xs ∨ SqT K H a xs) (h : Q (.int xs.length) H) : rLenG K [.ref a] H Q := Or.inl ⟨a, xs, rfl, ha, h⟩
/-- tuple(list) -/
theorem rd_tupOf {a : Addr} {xs : List V} (ha : SqL K H a xs) (h : ∀ p H', Mv [] H H' → SqT K H' p xs → Q (.ref p) H') : rTupOf K [.ref a] H Q :=
  ⟨a, xs, rfl, .inl ⟨ha, fun p np => h p _ (.new np) (.inl (.inl upd_same))⟩⟩
/-- list(x) -/
theorem rd_listOf {a : Addr} {xs : List V} (ha : SqL K H a xs ∨ SqT K H a xs) (h : ∀ p H', H p = none → Mv [] H H' → H' p = some (.lst xs) → Q (.ref p) H') : rListOf K [.ref a] H Q :=
  ⟨a, xs, rfl, ha, fun p np => h p _ np (.new np) upd_same⟩
/-- a written tuple, a written list -/
theorem rd_tup {ta : TA} (h : ta σ H fun xs H1 => xs.length ≤ sizeLine ∧ ∀ p H', H1 p = none → Mv [] H1 H' → SqT K H' p xs → Q (.ref p) H') (mono : ∀ {R S : List V → Hp → Prop}, (∀ xs H1, R xs H1 → S xs H1) → ta σ H R → ta σ H S) : tTup ta σ H Q :=
  mono (fun xs H1 k => ⟨k.1, fun p np => k.2 p _ np (.new np) (.inl (.inl upd_same))⟩) h
/-- t[1:], t[:1] of a tuple that is not empty -/
theorem rd_sl1 {a : Addr} {x : V} {xs : List V} (ha : SqT K H a (x :: xs)) (h : ∀ p H', Mv [] H H' → SqT K H' p xs → Q (.ref p) H') : rSlG K (.ref a) (some 1) none H Q := by
  have e : HT.sIx (x :: xs).length 0 (some 1) = 1 := by
    rw [show HT.sIx (x :: xs).length 0 (some 1) = min 1 (x :: xs).length from HT.sIx_nat _ 0 1, List.length_cons]
    omega
  refine Or.inr (Or.inl ⟨a, x :: xs, rfl, ha, fun z => ?_, fun _ p np => h p _ (.new np) (.inl (.inl ?_))⟩)
  · rw [e] at z
    omega
  · rw [upd_same]
    unfold cutV
    rw [e, HT.sIx_none, List.length_cons, Nat.add_sub_cancel]
    show some (HO.tup (xs.take xs.length)) = _
    rw [List.take_length]
theorem rd_slA {a : Addr} {x : V} {xs : List V} (ha : SqT K H a (x :: xs)) (h : ∀ p H', Mv [] H H' → SqT K H' p [x] → Q (.ref p) H') : rSlG K (.ref a) none (some 1) H Q := by
  have e : HT.sIx (x :: xs).length (x :: xs).length (some 1) = 1 := by
    rw [show HT.sIx (x :: xs).length (x :: xs).length (some 1) = min 1 (x :: xs).length from HT.sIx_nat _ _ 1, List.length_cons]
    omega
  refine Or.inr (Or.inl ⟨a, x :: xs, rfl, ha, fun z => ?_, fun _ p np => h p _ (.new np) (.inl (.inl ?_))⟩)
  · rw [e] at z
    have e0 : xs = [] := by
      cases xs with
      | nil => rfl
      | cons y ys =>
        have := z.2
        simp at this
    subst e0
    exact h a H .refl ha
  · rw [upd_same]
    unfold cutV
    rw [e, HT.sIx_none]
    rfl
end

/-! loops over a list or a tuple that stays -/
section
variable {K : PySem.W.Frag} {a : Addr} {xs : List V}
theorem for_seq {g : TG} {tb : TS} {D : Ends} {σ : L2.St} {H : Hp} (hS : SqL K H a xs ∨ SqT K H a xs) (Pv : Nat → L2.St → Hp → Prop) (h0 : Pv 0 σ H) (hk : ∀ i σ' H', Pv i σ' H' → Mv [] H H')
    (hs : ∀ i x σ' H', xs[i]? = some x → Pv i σ' H' → g x σ' H' fun σ2 H2 => tb { D with nx := Pv (i + 1), ct := Pv (i + 1), bk := D.nx } σ2 H2) (hd : ∀ σ' H', Pv xs.length σ' H' → D.nx σ' H') :
    ((∃ xs, SqL K H a xs) ∧ ∃ W : Nat → Nat → L2.St → Hp → Prop, (∃ m, W 0 m σ H) ∧ ∀ i m σ H, W i m σ H →
      ((Itl K a).stop i H ∧ D.nx σ H) ∨ ((Itl K a).go i H ∧ ∃ N : L2.St → Hp → Prop, (∀ σ' H', N σ' H' → ∃ m', m' < m ∧ W (i + 1) m' σ' H') ∧ ∀ x H', (Itl K a).yld i H x H' → g x σ H' fun σ2 H2 => tb { D with nx := N, ct := N, bk := D.nx } σ2 H2)) ∨
    ((∃ xs, SqT K H a xs) ∧ ∃ W : Nat → Nat → L2.St → Hp → Prop, (∃ m, W 0 m σ H) ∧ ∀ i m σ H, W i m σ H →
      ((Itt K a).stop i H ∧ D.nx σ H) ∨ ((Itt K a).go i H ∧ ∃ N : L2.St → Hp → Prop, (∀ σ' H', N σ' H' → ∃ m', m' < m ∧ W (i + 1) m' σ' H') ∧ ∀ x H', (Itt K a).yld i H x H' → g x σ H' fun σ2 H2 => tb { D with nx := N, ct := N, bk := D.nx } σ2 H2)) := by
  rcases hS with hS | hS
  · exact .inl ⟨⟨xs, hS⟩, for_list Pv h0 (fun i σ' H' _ p => (hk i σ' H' p).same.seq hS) hs hd⟩
  · exact .inr ⟨⟨xs, hS⟩, for_tup Pv h0 (fun i σ' H' _ p => (hk i σ' H' p).sqT hS) hs hd⟩
theorem lc_seq {g : TG} {tt : TT} {te : TE} {vs : List Nat} {σ : L2.St} {H : Hp} {Qd : Addr → Hp → Prop} (hS : SqL K H a xs ∨ SqT K H a xs) (Pv : Nat → Addr → Hp → Prop) (h0 : ∀ D, H D = none → Pv 0 D (upd H D (.lst [])))
    (hk : ∀ i D H', H D = none → Pv i D H' → Mv [] H H')
    (hs : ∀ D, H D = none → ∀ i x H', xs[i]? = some x → Pv i D H' → g x (wipe σ vs) H' fun σ2 H2 => wipe σ2 vs = wipe σ vs ∧ tt σ2 H2 fun b H3 =>
      if b = true then te σ2 H3 fun y H4 => ∃ acc, H4 D = some (.lst acc) ∧ acc.length < sizeLine ∧ Pv (i + 1) D (upd H4 D (.lst (acc ++ [y]))) else Pv (i + 1) D H3) (hd : ∀ D H', H D = none → Pv xs.length D H' → Qd D H') :
    ((∃ xs, SqL K H a xs) ∧ ∀ D, H D = none → ∃ W : Nat → Nat → Hp → Prop, (∃ m, W 0 m (upd H D (.lst []))) ∧ ∀ i m H, W i m H →
      ((Itl K a).stop i H ∧ Qd D H) ∨ ((Itl K a).go i H ∧ ∃ Nx : Hp → Prop, (∀ H', Nx H' → ∃ m', m' < m ∧ W (i + 1) m' H') ∧ ∀ x H', (Itl K a).yld i H x H' → g x (wipe σ vs) H' fun σ2 H2 => wipe σ2 vs = wipe σ vs ∧ tt σ2 H2 fun b H3 =>
        if b = true then te σ2 H3 fun y H4 => ∃ acc, H4 D = some (.lst acc) ∧ acc.length < sizeLine ∧ Nx (upd H4 D (.lst (acc ++ [y]))) else Nx H3)) ∨
    ((∃ xs, SqT K H a xs) ∧ ∀ D, H D = none → ∃ W : Nat → Nat → Hp → Prop, (∃ m, W 0 m (upd H D (.lst []))) ∧ ∀ i m H, W i m H →
      ((Itt K a).stop i H ∧ Qd D H) ∨ ((Itt K a).go i H ∧ ∃ Nx : Hp → Prop, (∀ H', Nx H' → ∃ m', m' < m ∧ W (i + 1) m' H') ∧ ∀ x H', (Itt K a).yld i H x H' → g x (wipe σ vs) H' fun σ2 H2 => wipe σ2 vs = wipe σ vs ∧ tt σ2 H2 fun b H3 =>
        if b = true then te σ2 H3 fun y H4 => ∃ acc, H4 D = some (.lst acc) ∧ acc.length < sizeLine ∧ Nx (upd H4 D (.lst (acc ++ [y]))) else Nx H3)) := by
  rcases hS with hS | hS
  · exact .inl ⟨⟨xs, hS⟩, fun D nD => lc_list (Pv · D) (h0 D nD) (fun i H' _ p => (hk i D H' nD p).same.seq hS) (hs D nD) (fun H' p => hd D H' nD p)⟩
  · exact .inr ⟨⟨xs, hS⟩, fun D nD => lc_tup (Pv · D) (h0 D nD) (fun i H' _ p => (hk i D H' nD p).sqT hS) (hs D nD) (fun H' p => hd D H' nD p)⟩
end
section
variable {K : PySem.W.Frag} {H : Hp} {Q : VK}
theorem rd_slT {a : Addr} {xs : List V} {lo hi : Option Int} (ha : SqT K H a xs) (h : ∀ p H', Mv [] H H' → SqT K H' p (cutV xs lo hi) → Q (.ref p) H') : rSlG K (.ref a) lo hi H Q := by
  refine Or.inr (Or.inl ⟨a, xs, rfl, ha, fun z => h a H .refl ?_, fun _ p np => h p _ (.new np) (.inl (.inl upd_same))⟩)
  have e : cutV xs lo hi = xs := by
    unfold cutV
    rw [z.1, z.2, List.drop_zero, Nat.sub_zero, List.take_length]
  rw [e]
  exact ha
theorem cut_hi (xs : List V) (k : Nat) : cutV xs none (some (k : Int)) = xs.take k := by
  unfold cutV
  rw [HT.sIx_none, HT.sIx_nat, List.drop_zero, Nat.sub_zero, List.take_eq_take_iff]
  omega
theorem cut_lo (xs : List V) (k : Nat) : cutV xs (some (k : Int)) none = xs.drop k := by
  unfold cutV
  rw [HT.sIx_none, HT.sIx_nat]
  by_cases h : k ≤ xs.length
  · rw [Nat.min_eq_left h, List.take_of_length_le (by rw [List.length_drop]; omega)]
  · rw [Nat.min_eq_right (by omega), List.drop_of_length_le (Nat.le_refl _), List.drop_of_length_le (by omega)]
    simp
end
end Fm
namespace Fm
open PySem PySem.Spec PyProof.Rows L2 HT
/-! t[:0:-1] of a tuple -/
section
variable {prog : Program} {w : World} {A : Around} {E : Value → Shared → Prop} {s : Shared}
theorem back_adjust (n : Nat) : Builtin.Slice.sliceAdjust none (some 0) (-1) (n : Int) = ((n : Int) - 1, min 0 ((n : Int) - 1)) := by
  unfold Builtin.Slice.sliceAdjust
  simp only [show ((-1 : Int) < 0) from by decide, if_true, show ¬ ((0 : Int) < 0) from by decide, if_false]
theorem back_places (n : Nat) : Builtin.Slice.slicePlaces ((n : Int) - 1) (min 0 ((n : Int) - 1)) (-1) = n - 1 := by
  unfold Builtin.Slice.slicePlaces
  simp only [show ¬ ((-1 : Int) > 0) from by decide, if_false, show (- -1 : Int) = 1 from by decide, Int.ediv_one]
  split <;> omega
theorem back_applied {sl : Addr} {vu vs : Value} {n : Nat} {Q : Int × Int × Nat → Shared → Prop} (hs : s.heap.IsSliceOf sl .none vu vs) (pu : IsPart vu (some 0)) (ps : IsPart vs (some (-1)))
    (h : Q ((n : Int) - 1, -1, n - 1) s) : wpAny (model prog w) A (Builtin.Slice.sliceApplied (.ref sl) (pure (n : Int))) Q E s := by
  obtain ⟨os, hos, hcs, hds⟩ := id hs
  unfold Builtin.Slice.sliceApplied Builtin.Slice.sliceFields
  refine wpAny_bind (wpAny_bind (wpAny_field hos hds (x := .none) rfl (wpAny_bind (wpAny_field hos hds (x := vu) rfl (wpAny_bind (wpAny_field hos hds (x := vs) rfl (wpAny_pure ?_)))))))
  refine wpAny_bind (slicePart_ ps ?_)
  show wpAny _ _ (if ((-1 : Int) == 0) = true then _ else _) _ _ s
  rw [if_neg (by decide)]
  refine wpAny_bind (slicePart_none (wpAny_bind (slicePart_ pu (wpAny_bind (wpAny_pure ?_)))))
  show wpAny _ _ (match Builtin.Slice.sliceAdjust none (some 0) (-1) (n : Int) with | (lo, hi) => pure (lo, (-1 : Int), Builtin.Slice.slicePlaces lo hi (-1))) _ _ s
  rw [back_adjust n]
  show wpAny _ _ (pure ((n : Int) - 1, (-1 : Int), Builtin.Slice.slicePlaces ((n : Int) - 1) (min 0 ((n : Int) - 1)) (-1))) _ _ s
  rw [back_places]
  exact wpAny_pure h
theorem fm_congr {α β : Type} {f g : α → Option β} : ∀ {l : List α}, (∀ m ∈ l, f m = g m) → l.filterMap f = l.filterMap g
  | [], _ => rfl
  | x :: l, h => by
    rw [List.filterMap_cons, List.filterMap_cons, h x List.mem_cons_self, fm_congr fun m hm => h m (List.mem_cons_of_mem _ hm)]
theorem back_pick (y : Value) (l : List Value) : ((List.range l.length).filterMap fun (m : Nat) => (y :: l).toArray[((((y :: l).toArray.size : Nat) : Int) - 1 + (m : Int) * (-1)).toNat]?).toArray = l.reverse.toArray := by
  congr 1
  have e : ∀ m ∈ List.range l.length, (y :: l).toArray[((((y :: l).toArray.size : Nat) : Int) - 1 + (m : Int) * (-1)).toNat]? = l[l.length - 1 - m]? := by
    intro m hm
    have hm := List.mem_range.mp hm
    have e1 : ((((y :: l).toArray.size : Nat) : Int) - 1 + (m : Int) * (-1)).toNat = (l.length - 1 - m) + 1 := by
      simp only [List.size_toArray, List.length_cons]
      omega
    rw [e1]
    simp
  rw [fm_congr e]
  apply List.ext_getElem?
  intro i
  have e2 : (List.range l.length).filterMap (fun m => l[l.length - 1 - m]?) = (List.range l.length).filterMap (fun m => l.reverse[m]?) := by
    apply fm_congr
    intro m hm
    have hm := List.mem_range.mp hm
    rw [List.getElem?_reverse hm]
  rw [e2]
  have e3 : (List.range l.length).filterMap (fun m => l.reverse[m]?) = l.reverse := by
    have := PySem.W.krv_all l.reverse.toArray
    simpa using this
  rw [e3]
theorem getItem_back {t sl : Addr} {y : Value} {l : List Value} {vu vs : Value} {Q : Value → Shared → Prop} (ht : IsTup s.heap t (y :: l).toArray) (hs : s.heap.IsSliceOf sl .none vu vs) (pu : IsPart vu (some 0)) (ps : IsPart vs (some (-1)))
    (hz : l.length ≤ sizeLine) (h : Q (.ref s.heap.objs.size) { s with heap := s.heap.push { cls := .type "tuple", data := .seq l.reverse.toArray } }) : wpAny (model prog w) A (getItem (.ref t) (.ref sl)) Q E s := by
  obtain ⟨os, hos, hcs, hds⟩ := id hs
  have hTs : s.TypeIs (.ref sl) "slice" := ⟨os, hos, hcs⟩
  have hfit : sizeOk (.seq l.reverse.toArray) := by
    show l.reverse.toArray.size ≤ sizeLine
    rw [List.size_toArray, List.length_reverse]
    exact hz
  unfold getItem
  try with_reducible refine wpAny_holding ?_
  first | refine wpAny_bind (wpAny_pure ?_) | skip
  refine wpAny_bind (wpAny_sequenceKey ht.typeIs (by decide) ?_)
  refine wpAny_bind (wpAny_callSpecial?_slot (name := Str.ofString "__getitem__") ht.typeIs PyProof.Rows.slot_tuple_getitem
    (wpAny_call_entry PyProof.Rows.slot_tuple_getitem ht.typeIs entry_tuple_getitem ?_ (args_tuple_getitem _ _)))
  show wpAny _ _ (Builtin.Tuple.tupleItemsOf (.ref t) >>= _) _ _ s
  refine wpAny_bind (tupleItemsOf_ ht (wpAny_bind (wpAny_typeOf hTs ?_)))
  rw [if_pos (by decide)]
  refine wpAny_bind (back_applied hs pu ps ?_)
  have hno : ¬ (((((y :: l).toArray.size : Nat) : Int) - 1 == 0 && (-1 : Int) == 1 && ((y :: l).toArray.size - 1) == (y :: l).toArray.size) = true) := by
    simp
  show wpAny _ _ (if ((((y :: l).toArray.size : Nat) : Int) - 1 == 0 && (-1 : Int) == 1 && ((y :: l).toArray.size - 1) == (y :: l).toArray.size) = true then _ else _) _ _ s
  rw [if_neg hno]
  have e : (y :: l).toArray.size - 1 = l.length := by simp
  rw [e, back_pick]
  first
    | exact wpAny_bind (m := Builtin.Tuple.tupleExact _) (wpAny_newObj_type (wpAny_pure ⟨_, rfl, wpAny_pure h⟩) hfit)
    | exact wpAny_bind (m := Builtin.Tuple.tupleExact _) (wpAny_newObj_type (wpAny_bind (wpAny_pure (wpAny_pure ⟨_, rfl, wpAny_pure h⟩))) hfit)
    | exact wpAny_bind (wpAny_bind (m := Builtin.Tuple.tupleExact _) (wpAny_newObj_type (wpAny_pure (wpAny_pure ⟨_, rfl, wpAny_pure h⟩)) hfit))
    | exact wpAny_bind (wpAny_bind (m := Builtin.Tuple.tupleExact _) (wpAny_newObj_type (wpAny_pure ⟨_, rfl, wpAny_pure h⟩) hfit))
end
section
variable {X : Cx}
def tBack (K : PySem.W.Frag) (te : TE) : TE := fun σ H Q => te σ H fun x H1 => ∃ a y ys, x = .ref a ∧ SqT K H1 a (y :: ys) ∧ ∀ p, H1 p = none → Q (.ref p) (upd H1 p (.tup ys.reverse))
theorem pe_slice3 {e : Expr} {te : TE} {k k0 : Nat} {p0 p1 p2 p3 pos : Pos} (he : PE X e te) :
    PE X (.Subscript e (.Slice none (some (.Constant (.int 0) k0 p0)) (some (.UnaryOp .USub (.Constant (.int 1) k p1) p2)) p3) pos) (tBack X.K te) := by
  refine ⟨fun pins s σ H Q I h => Subscript_ (thn (he.run pins s σ H _ I h) ?_)⟩
  rintro v s1 ⟨x, H1, I1, r1, a, y, ys, rfl, hx, q⟩
  cases r1
  have hup : PO X (some (.Constant (.int 0) k0 p0)) (tPart (tC (.int 0))) := po_some pe_int
  have hst : PO X (some (.UnaryOp .USub (.Constant (.int 1) k p1) p2)) (tPart (tUn (rU fun i => .int (-i)) (tC (.int 1)))) := po_some (pe_un un_neg pe_int)
  refine wpAny_Slice (thn (po_none.run pins s1 σ H1 (fun o H2 => o = none ∧ H2 = H1) I1 ⟨rfl, rfl⟩) ?_)
  rintro vl s2 ⟨l, H2, I2, pl, rfl, rfl⟩
  refine thn (hup.run pins s2 σ H2 (fun o H3 => o = some 0 ∧ H3 = H2) I2 ⟨0, rfl, rfl, rfl⟩) ?_
  rintro vu s3 ⟨u, H3, I3, pu, rfl, rfl⟩
  refine thn (hst.run pins s3 σ H3 (fun o H4 => o = some (-1) ∧ H4 = H3) I3 ⟨1, rfl, -1, rfl, rfl, rfl⟩) ?_
  rintro vs s4 ⟨o, H4, I4, ps, rfl, rfl⟩
  have I5 : Inv X pins σ H4 { s4 with heap := s4.heap.push { cls := .type "slice", data := .fields #[vl, vu, vs] } } := I4.kept (t' := s4.toks) fun b ob q => Heap.get?_push_of_some _ q
  obtain ⟨its, r, ht, hz⟩ := I5.tuple hx
  cases pl
  cases r with
  | @cons _ uy _ us ry rs =>
    have hl := rs.length
    show wpAny (model X.prog X.w) X.A (subscriptTail e (.Slice none (some (.Constant (.int 0) k0 p0)) (some (.UnaryOp .USub (.Constant (.int 1) k p1) p2)) p3) (.ref a) (.ref s4.heap.objs.size)) (EP X pins σ Q) X.xe { s4 with heap := s4.heap.push { cls := .type "slice", data := .fields #[.none, vu, vs] } }
    refine tail_any (ops := [.ref a, .ref s4.heap.objs.size]) ht.typeIs (PyProof.Rows.slot_tuple_getitem.lookup) ?_ (by with_unfolding_all rfl)
    have hz' : us.length ≤ sizeLine := by
      rw [List.length_cons] at hz
      omega
    refine getItem_back ht (Heap.IsSliceOf.new _ .none vu vs) pu ps hz' ?_
    refine ⟨.ref _, _, I5.laid (t' := s4.toks) (o := .tup ys.reverse) (fun b ob q => Heap.get?_push_of_some _ q) (Nat.le_refl _) ?_, rfl, q _ (I5.hok.fresh (Nat.le_refl _))⟩
    exact ⟨by rw [List.length_reverse]; omega, _, Vals.reverse rs, IsTup.new _ _⟩
end
end Fm
namespace Fm
open PySem PySem.Spec PyProof.Rows L2
/-! set(xs) of a list of ints -/
section
variable {P : Program} {w : World} {A : Around} {E : Value → Shared → Prop} {s : Shared}
/-- the empty set as it is laid -/
abbrev eset (w : World) : Obj := { cls := .type "set", dict := none, data := .set #[] 0 (.fresh 0 0 (!w.params.followText "set-order")) }
abbrev hset (w : World) (h : Heap) : Heap := h.push (eset w)
set_option maxHeartbeats 8000000 in
theorem set_of_list {l : Addr} {its : Array Value} (ns : List Int) {Q : Value → Shared → Prop} (hh : A.handled = none) (hl : s.heap.IsList l its) (hi : IntsAre its.toList ns) (hb : ns.length + 1 < scanBound)
    (h : ∀ (g : Heap) (tk c : Nat), SetR w g s.heap.objs.size (fun j => decide (j ∈ ns)) c → (∀ b o, s.heap.get? b = some o → g.get? b = some o) → Q (.ref s.heap.objs.size) { s with heap := g, toks := tk }) :
    wpAny (model P w) A (call (.type "set") [.ref l]) Q E s := by
  have hn : its.size = ns.length := by rw [← Array.length_toList]; exact IntsAre.length hi
  obtain ⟨mc, mt, mro⟩ := F.called_set.mro
  have mk1 := F.called_set.made
  have mk2 := F.called_set.sub
  refine wpAny_call (codeAny_of_tree (show wpAny _ _ (callAny (.type "set") _) _ _ _ from wpAny_pure ⟨Code.quiet_builtin _ (by decide +kernel), codeAny_builtin F.entry_type_call ?_⟩))
  rw [Around.under_plain (weight_type_call_type "set" [.ref l] []) rfl]
  have mk3 := F.called_set.notType
  have mk4 := F.called_set.canCreate
  have mk5 := F.typeCall_set_1 (.ref l)
  repeat (any_goals (first | assumption | wp_step))
  refine codeAny_mono (code_set_led1 (w := w) (s := s) (.ref l) (E := E)
    (Q₁ := fun obj s₁ => obj = .ref s.heap.objs.size ∧ s₁ = { s with heap := hset w s.heap }) ⟨rfl, rfl⟩) fun r s₁ hr => ?_
  match r, hr with
  | .error e, hr => exact hr
  | .ok (.ret obj), hr =>
    obtain ⟨rfl, rfl⟩ := hr
    have here : (hset w s.heap).get? s.heap.objs.size = some (eset w) := Heap.get?_push_size _ rfl
    have isS : Shared.TypeIs { s with heap := hset w s.heap } (.ref s.heap.objs.size) "set" := ⟨_, here, rfl⟩
    have in1 := F.called_set.init.lookup
    have in2 := F.called_set.init.bind (.ref s.heap.objs.size)
    repeat (any_goals (first | assumption | wp_step))
    have goes : codeAny (model P w) A.in1 (.call (.builtin "set.__init__") ⟨[.ref s.heap.objs.size, .ref l], []⟩) (wants (fun r s₂ => r = .none ∧ ∃ g tk c,
        s₂ = { s with heap := g, toks := tk } ∧ SetR w g s.heap.objs.size (fun j => decide (j ∈ ns)) c ∧ ∀ b o, s.heap.get? b = some o → g.get? b = some o) E) { s with heap := hset w s.heap } := by
      refine codeAny_call_builtin F.called_set.init.plain F.entry_set_init (check_set_init_1 isS ?_)
      obtain ⟨⟨oc, od, dt, sl⟩, hol, hcl, nl, hdl⟩ := id hl
      simp only at hcl hdl
      subst hcl hdl
      have lt := Heap.lt_size hol
      have hol2 : (hset w s.heap).get? l = some _ := Heap.get?_push_of_some _ hol
      have hl2 : (hset w s.heap).IsList l its := ⟨_, hol2, rfl, nl, rfl⟩
      have no1 := F.sub_list_set
      have no2 := F.sub_list_frozenset
      have no3 : (Value.type "list" == Value.type "dict") = false := by decide
      unfold Builtin.«set.__init__» noKeywords Builtin.Frozenset.updateFrom
      generalize hPI : pyIter = PI
      wp_walk
      subst hPI
      refine wpAny_pyIter_list hl2 (wpAny_bind (wpAny_runValue ?_))
      have sz2 : (hset w s.heap).objs.size = s.heap.objs.size + 1 := Heap.size_push ..
      have neI : l ≠ (hset w s.heap).objs.size := by
        rw [sz2]
        exact Nat.ne_of_lt (Nat.lt_succ_of_lt lt)
      have notIn : s.heap.objs.size ∉ [(hset w s.heap).objs.size, l] := by
        rw [sz2]
        intro z
        rcases List.mem_cons.mp z with z | z
        · exact Nat.ne_of_lt (Nat.lt_succ_self _) z
        · exact Nat.ne_of_gt lt (List.mem_singleton.mp z)
      have val : ∀ (i : Nat) (v : Value), its[i]? = some v → ∃ k t, ns[i]? = some k ∧ v = .int k t := fun i v hv => by
        have hi' : i < ns.length := by
          rw [← hn]
          exact (Array.getElem?_eq_some_iff.mp hv).1
        obtain ⟨t, e⟩ := PyProof.Rows.IntsAre.int_at hi i v (by rw [Array.getElem?_toList]; exact hv)
        have e2 : ns.getD i 0 = ns[i] := by rw [List.getD_eq_getElem?_getD, List.getElem?_eq_getElem hi']; rfl
        exact ⟨ns[i], t, List.getElem?_eq_getElem hi', by rw [e, e2]⟩
      have hh3 : A.in1.in1.in1.handled = none := by simp [hh]
      refine set_update_ints ((Walks.list hh3 _ l neI its).toS) s.heap.objs.size notIn ns hn hb val (its.size - 0) 0 _ (by omega) (Nat.zero_le _) ?st ?s0 ?fin
      case st => exact ⟨⟨_, Heap.get?_push_size _ rfl, rfl, rfl⟩, hl2.push _⟩
      case s0 => exact ⟨0, Nat.le_refl 0, setR_new_at (Heap.get?_push_of_some _ here)⟩
      case fin =>
        rintro ⟨g, gg, dd, tk, oo⟩ c' mv hc' hS'
        have e1 : gg = s.gens := mv.gens
        have e2 : dd = s.drawn := mv.drawn
        have e3 : oo = s.os := mv.os
        subst e1 e2 e3
        refine wpAny_pure (show wpAny _ _ (ret Value.none) _ _ _ from wpAny_pure ⟨rfl, g, tk, c', rfl, hS', fun b o e => ?_⟩)
        have b0 := Heap.lt_size e
        refine mv.heap b o (fun z => ?_) (Heap.get?_push_of_some _ (Heap.get?_push_of_some _ e))
        rcases List.mem_cons.mp z with z | z
        · exact Nat.ne_of_lt b0 z
        · have z2 := List.mem_singleton.mp z
          rw [sz2] at z2
          exact Nat.ne_of_lt (Nat.lt_succ_of_lt b0) z2
    refine codeAny_mono goes fun r₂ s₂ hr₂ => ?_
    match r₂, hr₂ with
    | .error e, hr₂ => exact hr₂
    | .ok (.ret r), hr₂ =>
      obtain ⟨rfl, g, tk, c', rfl, hS', hk'⟩ := hr₂
      repeat (any_goals (first | assumption | wp_step))
      exact h _ _ _ hS' hk'
end
section
variable {X : Cx}
/-- set(xs): its numbers; sorted(set) -/
def rSetOfL (K : PySem.W.Frag) (w : World) : List V → Hp → VK → Prop := fun xs H Q => ∃ (l : Addr) (ns : List Int), xs = [V.ref l] ∧ SqL K H l (ns.map V.int) ∧ ns.length ≤ 4000 ∧
  ∀ p (n : Nat) (ks : List Int), H p = none → ks.Nodup → ks.length = n → (∀ k, k ∈ ks ↔ k ∈ ns) → Q (.ref p) (upd H p (SetO w p (fun j => decide (j ∈ ns)) n))
theorem cr_setG (hc : X.calm = true) : CallR X (.type "set") (rSetOfL X.K X.w) := by
  intro pins s σ H xs us Q I r h
  obtain ⟨l, ns, rfl, hl, hb, q⟩ := h
  rw [Vals.ref1 r]
  obtain ⟨its, rv, pl, hz⟩ := I.list hl
  refine set_of_list ns (I.ok.hd hc) pl.isList (by simpa using intsAre_of rv) (Nat.lt_of_le_of_lt (Nat.succ_le_succ hb) (by decide)) fun g tk c R hk => ?_
  obtain ⟨o, es, ep, t, h1, h2, h3, h4, h5, h6, h7, h8, h9, h10⟩ := id R
  refine ⟨.ref _, upd H s.heap.objs.size (SetO X.w s.heap.objs.size (fun j => decide (j ∈ ns)) c), I.laid (t' := tk) hk (Nat.le_refl _) (setO_new R), rfl, ?_⟩
  refine q _ c (es.toList.map keyOf) (I.hok.fresh (Nat.le_refl _)) h5 (by rw [List.length_map, Array.length_toList]; exact h9) fun k => ?_
  rw [← h6 k]
  simp
theorem cr_sortedG (hc : X.calm = true) : CallR X (.builtin "sorted") (fun xs H Q => rSortedSet X.w xs H Q ∨ rSorted X.K xs H Q) := CallR.or (cr_sortedSet hc) cr_sorted
end
end Fm
namespace Fm
open PySem PySem.Spec PyProof.Rows L2
/-! data that can be compared and shown -/
mutual
def fine : PyData → Prop
  | .none => True
  | .bool _ => True
  | .int i => i.natAbs < 10 ^ 40
  | .str x => PyData.strOk x = true
  | .list xs => fineAll xs
  | .tuple xs => fineAll xs
  | .dict _ => False
def fineAll : List PyData → Prop
  | [] => True
  | x :: xs => fine x ∧ fineAll xs
end
mutual
/-- what its text may come to -/
def wl : PyData → Nat
  | .none => 4
  | .bool _ => 5
  | .int _ => 41
  | .str x => 10 * x.length + 2
  | .list xs => wls xs + 2
  | .tuple xs => wls xs + 2
  | .dict _ => 0
def wls : List PyData → Nat
  | [] => 0
  | x :: xs => wl x + 2 + wls xs
end
theorem fineAll_iff : ∀ {xs : List PyData}, fineAll xs ↔ ∀ x ∈ xs, fine x
  | [] => by simp [fineAll]
  | x :: xs => by simp [fineAll, fineAll_iff]
theorem listText_le : ∀ ts : List Str, (listText ts).length ≤ piled ts + 2
  | [] => by rw [listText_nil]; decide
  | t :: r => by
    have h := textFrom_length_pos r 1 (("[" : Str) ++ ("" : String) ++ t) (Nat.succ_pos 0)
    have e : ((("[" : Str) ++ ("" : String) ++ t)).length = 1 + t.length := by
      rw [strLen_append, strLen_append]
      rfl
    have x1 : (listText (t :: r)).length = (textFrom 1 (("[" : Str) ++ ("" : String) ++ t) r).length + 1 := by
      show (textFrom 1 (("[" : Str) ++ ("" : String) ++ t) r ++ "]").length = _
      rw [strLen_append]
      rfl
    rw [x1, h, e, piled_cons]
    omega
theorem tupleText_le (ts : List Str) : (tupleText ts).length ≤ piled ts + 2 := by
  have e3 : (((if ts.length == 1 then ",)" else ")" : String) : Str)).length ≤ 2 := by split <;> decide +kernel
  have e1 : ((("(" : String) : Str)).length = 1 := rfl
  unfold tupleText
  rw [strLen_append, strLen_append, e1]
  cases ts with
  | nil => decide +kernel
  | cons t r =>
    have := join_length_add (t :: r) (by simp)
    omega
mutual
theorem shown_le : ∀ d : PyData, fine d → d.shown.length ≤ wl d
  | .none, _ => by simp only [PyData.shown]; decide
  | .bool b, _ => by cases b <;> (simp only [PyData.shown]; decide)
  | .int i, h => by
    simp only [PyData.shown, wl]
    rw [PySem.ofString_length]
    exact int_text_length_le10 (k := 40) (by decide) h
  | .str x, h => by
    simp only [PyData.shown, wl]
    refine StrLaws.reprText_len x fun c hc => ?_
    have h' : x.cps.all (· < 0x110000) = true := h
    rw [Array.all_eq_true_iff_forall_mem] at h'
    have := h' c (by simpa using hc)
    simp at this
    omega
  | .list xs, h => by
    have := shown_les xs h
    have := listText_le (PyData.shownAll xs)
    simp only [PyData.shown, wl]
    omega
  | .tuple xs, h => by
    have := shown_les xs h
    have := tupleText_le (PyData.shownAll xs)
    simp only [PyData.shown, wl]
    omega
  | .dict _, h => h.elim
theorem shown_les : ∀ xs : List PyData, fineAll xs → piled (PyData.shownAll xs) ≤ wls xs
  | [], _ => by simp [PyData.shownAll, piled, wls]
  | x :: xs, h => by
    have h1 := shown_le x h.1
    have h2 := shown_les xs h.2
    simp only [PyData.shownAll, wls]
    rw [piled_cons]
    omega
end
mutual
theorem fine_lay : ∀ d : PyData, fine d → d.canLay0 = true ∧ d.showable = true ∧ d.hasDict = false
  | .none, _ => by simp [PyData.canLay0, PyData.showable, PyData.hasDict]
  | .bool b, _ => by simp [PyData.canLay0, PyData.showable, PyData.hasDict]
  | .int i, h => by
    refine ⟨by simp [PyData.canLay0], ?_, by simp [PyData.hasDict]⟩
    have h' : i.natAbs < 10 ^ 40 := h
    have h2 : i.natAbs < 2 ^ 200 := Nat.lt_trans h' (by decide)
    simp only [PyData.showable, decide_eq_true_eq]
    exact Nat.lt_trans (PySem.Flt.log2_lt_of (by decide) h2) (by decide)
  | .str x, h => ⟨by simp only [PyData.canLay0]; exact h, by simp [PyData.showable], by simp [PyData.hasDict]⟩
  | .list xs, h => by simpa [PyData.canLay0, PyData.showable, PyData.hasDict] using fine_lays xs h
  | .tuple xs, h => by simpa [PyData.canLay0, PyData.showable, PyData.hasDict] using fine_lays xs h
  | .dict _, h => h.elim
theorem fine_lays : ∀ xs : List PyData, fineAll xs → PyData.canLayAll0 xs = true ∧ PyData.showableAll xs = true ∧ PyData.hasDictAll xs = false
  | [], _ => by simp [PyData.canLayAll0, PyData.showableAll, PyData.hasDictAll]
  | x :: xs, h => by
    obtain ⟨a, b, c⟩ := fine_lay x h.1
    obtain ⟨a', b', c'⟩ := fine_lays xs h.2
    simp [PyData.canLayAll0, PyData.showableAll, PyData.hasDictAll, a, b, c, a', b', c']
end
structure Shw (d : PyData) : Prop where
  fi : fine d
  dp : d.depth ≤ 60
  wl : wl d ≤ 16000000
theorem Shw.shaped {d : PyData} (h : Shw d) : SeqAt.shaped d = true := by
  show (d.canLay0 && decide (d.depth ≤ 64)) = true
  have := h.dp
  rw [(fine_lay d h.fi).1, decide_eq_true (by omega)]
  rfl
theorem Shw.len {d : PyData} (h : Shw d) : d.shown.length ≤ sizeLine := by
  have := shown_le d h.fi
  have := h.wl
  have e : sizeLine = 16777216 := rfl
  omega
theorem Shw.eqv {d : PyData} (h : Shw d) : PyData.eqv d d = true := SeqAt.eqv_refl d (fine_lay d h.fi).1
theorem eqv_nil (xs : List PyData) : PyData.eqv (.list xs) (.list []) = xs.isEmpty := by
  cases xs <;> simp [PyData.eqv, PyData.eqvAll]
/-! of terms -/
theorem nm_ok {x : Str} (h : Nm x) : PyData.strOk x = true := by
  show x.cps.all (· < 0x110000) = true
  rw [Array.all_eq_true_iff_forall_mem]
  intro c hc
  have := h.2.2 c (by simpa using hc)
  simp
  omega
mutual
theorem fine_d {P : Int → Prop} (h : ∀ i, P i → i.natAbs < 10 ^ 40) : ∀ t : Tm, t.ok P → fine t.d
  | .var i, k => h i k
  | .op x ts, k => by
    simp only [Tm.d, fine, fineAll]
    exact ⟨nm_ok k.1, fine_ds h ts k.2.2⟩
theorem fine_ds {P : Int → Prop} (h : ∀ i, P i → i.natAbs < 10 ^ 40) : ∀ ts : List Tm, Tm.oks P ts → fineAll (Tm.ds ts)
  | [], _ => trivial
  | t :: ts, k => ⟨fine_d h t k.1, fine_ds h ts k.2⟩
end
mutual
theorem depth_d : ∀ t : Tm, t.d.depth = t.dep
  | .var _ => by simp [Tm.d, PyData.depth, Tm.dep]
  | .op _ ts => by simp [Tm.d, PyData.depth, PyData.depthAll, Tm.dep, depth_ds ts]
theorem depth_ds : ∀ ts : List Tm, PyData.depthAll (Tm.ds ts) = Tm.deps ts
  | [] => by simp [Tm.ds, PyData.depthAll, Tm.deps]
  | t :: ts => by simp [Tm.ds, PyData.depthAll, Tm.deps, depth_d t, depth_ds ts]
end
mutual
theorem wl_d {P : Int → Prop} : ∀ t : Tm, t.ok P → wl t.d ≤ t.cst + 41 * t.lv
  | .var _, _ => by simp [Tm.d, wl, Tm.cst, Tm.lv]
  | .op x ts, k => by
    have h1 := wl_ds ts k.2.2
    have h2 := k.1.2.1
    simp only [Tm.d, wl, wls, Tm.cst, Tm.lv]
    omega
theorem wl_ds {P : Int → Prop} : ∀ ts : List Tm, Tm.oks P ts → wls (Tm.ds ts) ≤ Tm.csts ts + 41 * Tm.lvs ts
  | [], _ => by simp [Tm.ds, wls]
  | t :: ts, k => by
    have h1 := wl_d t k.1
    have h2 := wl_ds ts k.2
    simp only [Tm.ds, wls, Tm.csts, Tm.lvs]
    omega
end
end Fm
namespace Fm
open PySem PySem.Spec PyProof.Rows L2
/-! a list of whatever, beside the empty one -/
section
variable {X : Cx}
def rNeNil (K : PySem.W.Frag) : R2 := fun x y H Q => ∃ (a b : Addr) (xs : List V), x = .ref a ∧ y = .ref b ∧ SqL K H a xs ∧ SqL K H b [] ∧ Q (.bl (!xs.isEmpty)) H
def rEqNil (K : PySem.W.Frag) : R2 := fun x y H Q => ∃ (a b : Addr) (xs : List V), x = .ref a ∧ y = .ref b ∧ SqL K H a xs ∧ SqL K H b [] ∧ Q (.bl xs.isEmpty) H
theorem op_neNil (hu : X.A.units < cLine) : OpR X (compareOp .NotEq) (rNeNil X.K) := by
  intro pins s σ H x y v u Q I rx ry h
  obtain ⟨a, b, xs, rfl, rfl, ha, hb, q⟩ := h
  obtain rfl : v = Value.ref a := rx
  obtain rfl : u = Value.ref b := ry
  obtain ⟨i1, r1, p1, _⟩ := I.list ha
  obtain ⟨i2, r2, p2, _⟩ := I.list hb
  have l1 := r1.length
  have l2 : i2 = [] := List.eq_nil_of_length_eq_zero (by have := r2.length; simpa using this.symm)
  subst l2
  cases xs with
  | nil =>
    have l3 : i1 = [] := List.eq_nil_of_length_eq_zero (by simpa using l1.symm)
    subst l3
    exact SeqAt.RcNeAt.lists (e := fun _ => true) p1.isList p2.isList rfl hu (fun j j1 _ => absurd j1 (Nat.not_lt_zero j)) X.prog X.w X.xe _ ⟨.bl false, H, I, rfl, q⟩
  | cons z zs =>
    refine SeqAt.RcNeAt.lists_lengths p1.isList p2.isList ?_ hu X.prog X.w X.xe _ ⟨.bl true, H, I, rfl, q⟩
    simp only [List.length_cons] at l1
    simp [bne_iff_ne]
    intro z
    rw [z] at l1
    simp at l1
theorem op_eqNil (hu : X.A.units < cLine) : OpR X (compareOp .Eq) (rEqNil X.K) := by
  intro pins s σ H x y v u Q I rx ry h
  obtain ⟨a, b, xs, rfl, rfl, ha, hb, q⟩ := h
  obtain rfl : v = Value.ref a := rx
  obtain rfl : u = Value.ref b := ry
  obtain ⟨i1, r1, p1, _⟩ := I.list ha
  obtain ⟨i2, r2, p2, _⟩ := I.list hb
  have l1 := r1.length
  have l2 : i2 = [] := List.eq_nil_of_length_eq_zero (by have := r2.length; simpa using this.symm)
  subst l2
  cases xs with
  | nil =>
    have l3 : i1 = [] := List.eq_nil_of_length_eq_zero (by simpa using l1.symm)
    subst l3
    exact SeqAt.RcAt.lists (e := fun _ => true) p1.isList p2.isList rfl hu (fun j j1 _ => absurd j1 (Nat.not_lt_zero j)) X.prog X.w X.xe _ ⟨.bl true, H, I, rfl, q⟩
  | cons z zs =>
    refine SeqAt.RcAt.lists_lengths p1.isList p2.isList ?_ hu X.prog X.w X.xe _ ⟨.bl false, H, I, rfl, q⟩
    simp only [List.length_cons] at l1
    simp [bne_iff_ne]
    intro z
    rw [z] at l1
    simp at l1
/-- i not in range(lo, hi) -/
theorem op_notIn_rng : OpR X (compareOp .NotIn) (fun x y H Q => ∃ i a lo hi, x = V.int i ∧ y = V.ref a ∧ H a = some (.rng lo hi) ∧ Q (.bl (!decide (lo ≤ i ∧ i < hi))) H) := by
  intro pins s σ H x y v u Q I rx ry h
  obtain ⟨i, a, lo, hi, rfl, rfl, ha, q⟩ := h
  obtain ⟨k, rfl⟩ := rx
  obtain rfl : u = Value.ref a := ry
  obtain ⟨t1, t2, t3, hob⟩ := I.hok a _ ha
  show wpAny _ _ (do return Value.bool (!(← contains (Value.ref a) (Value.int i k)))) _ _ s
  refine wpAny_bind (wpAny_contains_slot (T := "range") ⟨_, hob, rfl⟩ F.slot_range_contains (call_meets F.slot_range_contains ⟨_, hob, rfl⟩ F.entry_range_contains (F.args_range_contains_2 _ _) (q_contains a lo hi i t1 t2 t3 k) ⟨hob, wpAny_truthy_bool (wpAny_pure ⟨.bl _, H, I, rfl, by rw [place1]; exact q⟩)⟩))
/-- x is not True, x a bool or an int -/
def rNotB : R2 := fun x y H Q => ∃ b : Bool, y = .bl b ∧ ((∃ a : Bool, x = .bl a ∧ Q (.bl (!decide (a = b))) H) ∨ (∃ i : Int, x = .int i ∧ Q (.bl true) H))
theorem op_notB : OpR X (compareOp .IsNot) rNotB := by
  intro pins s σ H x y v u Q I rx ry h
  obtain ⟨b, rfl, h⟩ := h
  rcases h with ⟨a, rfl, q⟩ | ⟨i, rfl, q⟩
  · exact op_isnot_bl pins s σ H _ _ _ _ Q I rx ry ⟨a, b, rfl, rfl, q⟩
  · obtain ⟨t, rfl⟩ := rx
    cases (show u = Value.bool b from ry)
    exact wpAny_isNot_other rfl (fun z => nomatch z) ⟨.bl true, H, I, rfl, q⟩
end
end Fm
namespace Fm
open PySem PySem.Spec PyProof.Rows L2
theorem bt_range : bootBuiltins "range" = some (.type "range") := by decide +kernel
/-! things: what a function of kinds may be handed -/
inductive Th where
  | non
  | bl (b : Bool)
  | int (i : Int)
  | str (x : Str)
  | tup (ts : List Th)
  | lst
  | dct
mutual
/-- v is such a thing; b: a list that may change meanwhile -/
def Is (K : PySem.W.Frag) (b : Addr) (H : Hp) (v : V) : Th → Prop
  | .non => v = .non
  | .bl c => v = .bl c
  | .int i => v = .int i
  | .str x => v = .str x ∧ x.length ≤ 1000
  | .tup ts => ∃ a xs, v = .ref a ∧ SqT K H a xs ∧ IsAll K b H xs ts
  | .lst => ∃ a xs, v = .ref a ∧ a ≠ b ∧ H a = some (.lst xs)
  | .dct => ∃ a kvs, v = .ref a ∧ a ≠ b ∧ H a = some (.dK kvs)
def IsAll (K : PySem.W.Frag) (b : Addr) (H : Hp) (xs : List V) : List Th → Prop
  | [] => xs = []
  | t :: ts => ∃ y ys, xs = y :: ys ∧ Is K b H y t ∧ IsAll K b H ys ts
end
section
variable {K : PySem.W.Frag} {b : Addr} {H H' : Hp}
mutual
theorem Is.mv (m : Mv [b] H H') : ∀ (t : Th) (v : V), Is K b H v t → Is K b H' v t
  | .non, v, h => h
  | .bl _, v, h => h
  | .int _, v, h => h
  | .str _, v, h => h
  | .tup ts, v, h => by
    obtain ⟨a, xs, e, hs, ha⟩ := h
    exact ⟨a, xs, e, m.sqT hs, IsAll.mv m ts xs ha⟩
  | .lst, v, h => by
    obtain ⟨a, xs, e, hb, ha⟩ := h
    exact ⟨a, xs, e, hb, m.keep a _ (by simpa using hb) ha⟩
  | .dct, v, h => by
    obtain ⟨a, xs, e, hb, ha⟩ := h
    exact ⟨a, xs, e, hb, m.keep a _ (by simpa using hb) ha⟩
theorem IsAll.mv (m : Mv [b] H H') : ∀ (ts : List Th) (xs : List V), IsAll K b H xs ts → IsAll K b H' xs ts
  | [], xs, h => h
  | t :: ts, xs, h => by
    obtain ⟨y, ys, e, h1, h2⟩ := h
    exact ⟨y, ys, e, Is.mv m t y h1, IsAll.mv m ts ys h2⟩
end
theorem Is.mv0 {t : Th} {v : V} (h : Is K b H v t) (m : Mv [] H H') : Is K b H' v t := Is.mv (m.mono (by simp)) t v h
theorem IsAll.mv0 {ts : List Th} {xs : List V} (h : IsAll K b H xs ts) (m : Mv [] H H') : IsAll K b H' xs ts := IsAll.mv (m.mono (by simp)) ts xs h
theorem Is.dr {t : Th} {v : V} (h : Is K b H v t) (m : Dr b H H') : Is K b H' v t := Is.mv m.mv t v h
theorem IsAll.dr {ts : List Th} {xs : List V} (h : IsAll K b H xs ts) (m : Dr b H H') : IsAll K b H' xs ts := IsAll.mv m.mv ts xs h
theorem IsAll.length : ∀ {ts : List Th} {xs : List V}, IsAll K b H xs ts → xs.length = ts.length
  | [], xs, h => by
    have h' : xs = [] := h
    rw [h']
    rfl
  | t :: ts, xs, h => by
    obtain ⟨y, ys, rfl, _, k⟩ := h
    simp [k.length]
theorem IsAll.append : ∀ {ts us : List Th} {xs ys : List V}, IsAll K b H xs ts → IsAll K b H ys us → IsAll K b H (xs ++ ys) (ts ++ us)
  | [], _, xs, _, h, k => by
    have h' : xs = [] := h
    rw [h']
    exact k
  | t :: ts, _, xs, _, h, k => by
    obtain ⟨y, zs, rfl, h1, h2⟩ := h
    exact ⟨y, zs ++ _, rfl, h1, h2.append k⟩
theorem IsAll.nil : IsAll K b H [] [] := rfl
theorem IsAll.cons {t : Th} {ts : List Th} {y : V} {ys : List V} (h : Is K b H y t) (k : IsAll K b H ys ts) : IsAll K b H (y :: ys) (t :: ts) := ⟨y, ys, rfl, h, k⟩
theorem IsAll.get : ∀ {ts : List Th} {xs : List V} {i : Nat} {v : V}, IsAll K b H xs ts → xs[i]? = some v → ∃ t, ts[i]? = some t ∧ Is K b H v t
  | [], xs, _, _, h, e => by
    have h' : xs = [] := h
    rw [h'] at e
    simp at e
  | t :: ts, _, 0, _, h, e => by
    obtain ⟨y, ys, rfl, h1, h2⟩ := h
    simp at e
    subst e
    exact ⟨t, rfl, h1⟩
  | t :: ts, _, i + 1, _, h, e => by
    obtain ⟨y, ys, rfl, h1, h2⟩ := h
    exact h2.get (i := i) (by simpa using e)
theorem IsAll.take : ∀ {ts : List Th} {xs : List V} (n : Nat), IsAll K b H xs ts → IsAll K b H (xs.take n) (ts.take n)
  | [], xs, n, h => by
    have h' : xs = [] := h
    rw [h']
    simpa using IsAll.nil
  | t :: ts, _, 0, h => by simpa using IsAll.nil
  | t :: ts, _, n + 1, h => by
    obtain ⟨y, ys, rfl, h1, h2⟩ := h
    exact IsAll.cons h1 (h2.take n)
theorem IsAll.drop : ∀ {ts : List Th} {xs : List V} (n : Nat), IsAll K b H xs ts → IsAll K b H (xs.drop n) (ts.drop n)
  | [], xs, n, h => by
    have h' : xs = [] := h
    rw [h']
    simpa using IsAll.nil
  | t :: ts, _, 0, h => by simpa using h
  | t :: ts, _, n + 1, h => by
    obtain ⟨y, ys, rfl, h1, h2⟩ := h
    exact h2.drop n
theorem IsAll.last {ts : List Th} {t : Th} : ∀ {us : List Th} {xs : List V}, us = ts ++ [t] → IsAll K b H xs us → ∃ ys y, xs = ys ++ [y] ∧ IsAll K b H ys ts ∧ Is K b H y t := by
  induction ts with
  | nil =>
    intro us xs e h
    subst e
    obtain ⟨y, ys, rfl, h1, h2⟩ := h
    have h3 : ys = [] := h2
    exact ⟨[], y, by rw [h3]; rfl, IsAll.nil, h1⟩
  | cons u ts ih =>
    intro us xs e h
    subst e
    obtain ⟨y, ys, rfl, h1, h2⟩ := h
    obtain ⟨zs, z, rfl, h3, h4⟩ := ih rfl h2
    exact ⟨y :: zs, z, rfl, IsAll.cons h1 h3, h4⟩
/-! classes -/
def tyN : Th → String
  | .non => "NoneType"
  | .bl _ => "bool"
  | .int _ => "int"
  | .str _ => "str"
  | .tup _ => "tuple"
  | .lst => "list"
  | .dct => "dict"
theorem tyx_is {t : Th} {v : V} (h : Is K b H v t) : TyX K H v (.type (tyN t)) := by
  cases t with
  | non => cases (show v = V.non from h); exact .base .non
  | bl c => cases (show v = V.bl c from h); exact .base (.bl c)
  | int i => cases (show v = V.int i from h); exact .base (.int i)
  | str x => cases (show v = V.str x from h.1); exact .base (.str x)
  | tup ts =>
    obtain ⟨a, xs, rfl, hs, _⟩ := h
    rcases hs with (hs | ⟨o, hs⟩) | ⟨o, its, n, hk, hc, _⟩
    · exact .base (.tup hs)
    · exact .fTuple hs
    · exact .kTuple hk hc
  | lst =>
    obtain ⟨a, xs, rfl, _, ha⟩ := h
    exact .base (.lst ha)
  | dct =>
    obtain ⟨a, kvs, rfl, _, ha⟩ := h
    exact .base (.dK ha)
theorem rd_isi {t : Th} {v : V} {T : String} {c : Bool} {Q : VK} (h : Is K b H v t) (k : kitB (tyN t) T = some c) (q : Q (.bl c) H) : rIsi K [v, .ty T] H Q := ⟨v, .ty T, _, _, c, rfl, .ty T, tyx_is h, kit_ty k, q⟩
def isIntT : Th → Bool
  | .int _ => true
  | .bl _ => true
  | _ => false
def isBoolT : Th → Bool
  | .bl _ => true
  | _ => false
def isStrT : Th → Bool
  | .str _ => true
  | _ => false
def isTupT : Th → Bool
  | .tup _ => true
  | _ => false
def isLstT : Th → Bool
  | .lst => true
  | _ => false
theorem kit_int (t : Th) : kitB (tyN t) "int" = some (isIntT t) := by cases t <;> (simp only [tyN, isIntT]; decide +kernel)
theorem kit_bool (t : Th) : kitB (tyN t) "bool" = some (isBoolT t) := by cases t <;> (simp only [tyN, isBoolT]; decide +kernel)
theorem kit_str (t : Th) : kitB (tyN t) "str" = some (isStrT t) := by cases t <;> (simp only [tyN, isStrT]; decide +kernel)
theorem kit_tup (t : Th) : kitB (tyN t) "tuple" = some (isTupT t) := by cases t <;> (simp only [tyN, isTupT]; decide +kernel)
theorem kit_lst (t : Th) : kitB (tyN t) "list" = some (isLstT t) := by cases t <;> (simp only [tyN, isLstT]; decide +kernel)
end
/-! what kind a thing is -/
def lettersS : Str := "abcdefghijklmnopqrstuvwxyz"
def nmd (x : Str) : Bool := decide (1 ≤ x.length) && decide (x.length ≤ 8) && x.cps.toList.all fun c => decide (c ∈ lettersS.cps.toList)
def isWhole : Th → Bool
  | .int _ => true
  | _ => false
def isNamed : Th → Bool
  | .str x => nmd x
  | _ => false
mutual
def isTerm : Th → Bool
  | .int i => decide (0 ≤ i)
  | .tup [] => false
  | .tup (t :: ts) => isNamed t && decide (ts.length ≤ 3) && isTerms ts
  | _ => false
def isTerms : List Th → Bool
  | [] => true
  | t :: ts => isTerm t && isTerms ts
end
mutual
def Th.cnt : Th → Nat
  | .tup ts => Th.cnts ts + 1
  | _ => 1
def Th.cnts : List Th → Nat
  | [] => 0
  | t :: ts => t.cnt + Th.cnts ts
end
theorem isTerms_all : ∀ ts : List Th, isTerms ts = ts.all isTerm
  | [] => by simp [isTerms]
  | t :: ts => by simp [isTerms, isTerms_all ts]
theorem Th.cnts_append : ∀ ts us : List Th, Th.cnts (ts ++ us) = Th.cnts ts + Th.cnts us
  | [], us => by simp [Th.cnts]
  | t :: ts, us => by
    simp only [List.cons_append, Th.cnts, Th.cnts_append ts us]
    omega
mutual
/-- a term as a thing -/
def Tm.th : Tm → Th
  | .var i => .int i
  | .op x ts => .tup (.str x :: Tm.ths ts)
def Tm.ths : List Tm → List Th
  | [] => []
  | t :: ts => t.th :: Tm.ths ts
end
section
variable {K : PySem.W.Frag} {b : Addr} {H : Hp}
mutual
theorem Is.of_im {R : Int → Prop} : ∀ (t : Tm) (v : V), t.ok R → Im K H v t.d → Is K b H v t.th
  | .var i, v, _, h => h.intI
  | .op x ts, v, k, h => by
    obtain ⟨a, xs0, rfl, ha, hxs⟩ := h.tupI
    obtain ⟨x', xs, rfl, hx', hys⟩ := hxs.invD
    exact ⟨a, x' :: xs, rfl, ha, IsAll.cons ⟨hx'.strI, by have := k.1.2.1; omega⟩ (IsAll.of_ims ts xs k.2.2 hys)⟩
theorem IsAll.of_ims {R : Int → Prop} : ∀ (ts : List Tm) (xs : List V), Tm.oks R ts → Ims K H xs (Tm.ds ts) → IsAll K b H xs (Tm.ths ts)
  | [], xs, _, h => h.nilD
  | t :: ts, xs, k, h => by
    obtain ⟨v, vs, rfl, h1, h2⟩ := h.invD
    exact IsAll.cons (Is.of_im t v k.1 h1) (IsAll.of_ims ts vs k.2 h2)
end
end
theorem nmd_nm {x : Str} (h : Nm x) : nmd x = true := by
  unfold nmd
  have h3 : (x.cps.toList.all fun c => decide (c ∈ lettersS.cps.toList)) = true := by
    rw [List.all_eq_true]
    intro c hc
    have := h.2.2 c hc
    have k : ∀ c : Fin 123, 97 ≤ c.val → decide (c.val ∈ lettersS.cps.toList) = true := by decide +kernel
    exact k ⟨c, by omega⟩ this.1
  rw [h3, decide_eq_true h.1, decide_eq_true h.2.1]
  rfl
end Fm
namespace Fm
open PySem PySem.Spec PyProof.Rows L2
/-! tuple * int, also once and not at all -/
theorem tmul_one (l : Addr) (items : Array Value) (n : Nat) (dd : Option Addr) (sl : Array (Option Value)) (u : Tok) :
    Meets (Builtin.«tuple.__mul__» ⟨[.ref l, .int 1 u], []⟩) (fun _ R s => s.heap.get? l = some { cls := .type "tuple", dict := dd, data := .seq items n, slots := sl } ∧ R (.ok (.ret (Value.ref l))) s) :=
  .of_wp fun prog w A R s h => by
    obtain ⟨hp, g, d, tk, os⟩ := s
    obtain ⟨hl, h⟩ := h
    have f1 := AutoSeq1.idx_int
    have c0 : (decide ((1 : Int) < -(2 ^ 63)) || decide ((1 : Int) ≥ 2 ^ 63)) = false := by decide
    have c1 : (items.isEmpty || (1 : Int) == 1) = true := by simp
    wp_walk using wpAny_loadPart' hl
    repeat (first
      | (refine wpAny_ite_false (decide_eq_false (by rw [c0]; exact Bool.false_ne_true)) ?_; wp_walk using wpAny_loadPart' hl)
      | (refine wpAny_ite_true (decide_eq_true c1) ?_; wp_walk using wpAny_loadPart' hl))
    exact ⟨_, rfl, h⟩
theorem tmul_zero (l : Addr) (items : Array Value) (n : Nat) (dd : Option Addr) (sl : Array (Option Value)) (u : Tok) (hi : items.isEmpty = false) :
    Meets (Builtin.«tuple.__mul__» ⟨[.ref l, .int 0 u], []⟩) (fun _ R s => s.heap.get? l = some { cls := .type "tuple", dict := dd, data := .seq items n, slots := sl } ∧
      R (.ok (.ret (Value.ref s.heap.objs.size))) { s with heap := s.heap.push { cls := Value.type "tuple", data := Data.seq #[] }, toks := s.toks }) :=
  .of_wp fun prog w A R s h => by
    obtain ⟨hp, g, d, tk, os⟩ := s
    obtain ⟨hl, h⟩ := h
    have f1 := AutoSeq1.idx_int
    have c0 : (decide ((0 : Int) < -(2 ^ 63)) || decide ((0 : Int) ≥ 2 ^ 63)) = false := by decide
    have c1 : (items.isEmpty || (0 : Int) == 1) = false := by rw [hi]; rfl
    have c2 : (decide ((0 : Int) ≤ 0) || items.isEmpty) = true := by simp
    have hsz : (#[] : Array Value).size ≤ sizeLine := Nat.zero_le _
    wp_walk using wpAny_loadPart' hl
    repeat (first
      | (refine wpAny_ite_false (decide_eq_false (by rw [c0]; exact Bool.false_ne_true)) ?_; wp_walk using wpAny_loadPart' hl)
      | (refine wpAny_ite_false (decide_eq_false (by rw [c1]; exact Bool.false_ne_true)) ?_; wp_walk using wpAny_loadPart' hl)
      | (refine wpAny_ite_true (decide_eq_true c2) ?_; wp_walk using wpAny_loadPart' hl)
      | (refine wpAny_ite_false (decide_eq_false (Nat.not_lt.mpr hsz)) ?_; wp_walk using wpAny_loadPart' hl))
    exact ⟨_, rfl, h⟩
def rRepTG (K : PySem.W.Frag) : R2 := fun x y H Q => ∃ l k xs, x = .ref l ∧ y = .int k ∧ SqT K H l xs ∧ xs ≠ [] ∧ 0 ≤ k ∧ k ≤ 1000 ∧ xs.length ≤ 1000 ∧ (k = 1 → Q (.ref l) H) ∧ (k ≠ 1 → ∀ p, H p = none → Q (.ref p) (upd H p (.tup (List.replicate k.toNat xs).flatten)))
section
variable {X : Cx}
theorem op_repTG : OpR X (binaryOp .Mult) (rRepTG X.K) := by
  intro pins s σ H x y v u Q I rx ry h
  obtain ⟨l, k, xs, rfl, rfl, hT, hne, h1, h2, hz, q1, q2⟩ := h
  by_cases hk : 2 ≤ k
  · exact op_repT pins s σ H _ _ _ _ Q I rx ry ⟨l, k, xs, rfl, rfl, hT, hne, hk, h2, hz, q2 (by omega)⟩
  cases rx
  obtain ⟨t, rfl⟩ := ry
  obtain ⟨its, r, ⟨⟨cls, dd, data, sl⟩, ho, hc, n, hd⟩, hs⟩ := I.tuple hT
  simp only at hc hd
  subst hc hd
  have hle : its.length = xs.length := r.length.symm
  have hi : its.toArray.isEmpty = false := by
    cases its with
    | nil => exact absurd (List.eq_nil_of_length_eq_zero hle.symm) hne
    | cons a b => rfl
  have hk' : k = 0 ∨ k = 1 := by omega
  rcases hk' with rfl | rfl
  · refine wpAny_binaryOp_repeat_ref (T := "tuple") (U := "int") (by decide) ⟨_, ho, rfl⟩ (fun s' => typeIs_int s' 0 t) noFill_tuple_mul F.fills_int_mul F.slot_int_rmul repeat_tuple F.slot_int_index.lookup
      (call_meets F.slot_int_rmul (typeIs_int s 0 t) F.entry_int_rmul (F.args_int_rmul_2 _ _) (int_rmul_tuple 0 t l its.toArray n dd sl)
        ⟨ho, rfl, ⟨_, ho, rfl⟩, call_meets F.slot_tuple_mul ⟨_, ho, rfl⟩ F.entry_tuple_mul (F.args_tuple_mul_2 _ _) (tmul_zero l its.toArray n dd sl t hi) ⟨ho, ?_⟩⟩)
    refine ⟨.ref s.heap.objs.size, _, I.laid (t' := s.toks) (o := .tup []) (fun b ob q => Heap.get?_push_of_some _ q) (Nat.le_refl _) ?_, rfl, q2 (by decide) _ (I.hok.fresh (Nat.le_refl _))⟩
    exact ⟨Nat.zero_le _, [], .nil, IsTup.new _ _⟩
  · refine wpAny_binaryOp_repeat_ref (T := "tuple") (U := "int") (by decide) ⟨_, ho, rfl⟩ (fun s' => typeIs_int s' 1 t) noFill_tuple_mul F.fills_int_mul F.slot_int_rmul repeat_tuple F.slot_int_index.lookup
      (call_meets F.slot_int_rmul (typeIs_int s 1 t) F.entry_int_rmul (F.args_int_rmul_2 _ _) (int_rmul_tuple 1 t l its.toArray n dd sl)
        ⟨ho, rfl, ⟨_, ho, rfl⟩, call_meets F.slot_tuple_mul ⟨_, ho, rfl⟩ F.entry_tuple_mul (F.args_tuple_mul_2 _ _) (tmul_one l its.toArray n dd sl t) ⟨ho, ?_⟩⟩)
    exact ⟨.ref l, H, I, rfl, q1 rfl⟩
end
end Fm
/-! own errors whose __init__ hands its argument on to the class above and keeps it in a field -/
namespace Fm
open PySem PySem.W PySem.Calls PyProof.Rows PySem.HandSPX
/-! the text of such an __init__ -/
abbrev xA (f : Str) (p1 p2 : Pos) : Arguments :=
  { posonlyargs := [], args := [{ arg := "self", annotation := none, pos := p1 }, { arg := f, annotation := none, pos := p2 }],
    vararg := none, kwonlyargs := [], kw_defaults := [], kwarg := none, defaults := [] }
abbrev xCall (f : Str) (q1 q2 q3 q4 q5 : Pos) : Expr := .Call (.Attribute (.Call (.Name "super" q1) [] [] q2) "__init__" q3) [.Name f q4] [] q5
abbrev xB (f : Str) (q1 q2 q3 q4 q5 q6 q7 q8 q9 q10 : Pos) : List Stmt :=
  [.Expr (xCall f q1 q2 q3 q4 q5) q6, .Assign [.Attribute (.Name "self" q7) f q8] (.Name f q9) q10]
abbrev xS (f : Str) : Scope :=
  { kind := .function, names := [(PySem.Str.ofString "self", .local), (f, .local), (PySem.Str.ofString "__class__", .free), (PySem.Str.ofString "super", .globalImplicit)],
    isGenerator := false, isCoroutine := false, more := [] }
/-- what the written part says of such a class, by name x with field f, at C -/
structure ExT (P : Program) (K : Frag) (mg : Str → Option Value) (x f : Str) (C : Addr) : Prop where
  gC : mg x = some (.ref C)
  cls : ∃ nm q N bs bm sn sub ab col dd k0 k1 k2 k3 k5, K.lookup C = some (excClassObj nm q C N bs bm true sn sub ab col dd k0 k1 k2 k3 k5 "ValueError.__new__") ∧ refsVE bm = true
  sa : findIn K (.ref C) "__setattr__" = some (some (.builtin "object.__setattr__"))
  no : findIn K (.ref C) f = some none
  kC : keepIn K (.ref C) = true
  exC : subIn K (.ref C) (.type "BaseException") = some true
  veC : subIn K (.ref C) (.type "ValueError") = some true
  tyC : typeIn K (.ref C) = some (.type "type")
  hdC : hasDictIn K C = true
  up : ks_superIn K C C "__init__" = some (some (.builtin "ValueError.__init__"))
  opq : nsIn K cStatics "thirdparty.any" = some none
  self : mroIn K C (.ref C) = some true
  fn : ∃ (fI cda cc : Addr) (oc : Value) (od : Option Addr) (kV doc pm : Value) (an : Option Addr) (ct : Value) (osl : Array (Option Value)) (p1 p2 q1 q2 q3 q4 q5 q6 q7 q8 q9 q10 : Pos) (ql : Str),
    findIn K (.ref C) "__init__" = some (some (.ref fI)) ∧ typeIn K (.ref fI) = some (.type "function") ∧
    K.lookup fI = some ⟨oc, od, .func (ksFn "__init__" ql (xA f p1 p2) (xB f q1 q2 q3 q4 q5 q6 q7 q8 q9 q10) (xS f) .none kV doc pm an (.ref cda) ct cc), osl⟩ ∧ codeIn K (.ref cda) ql = true ∧
    (∃ cl cld csl, K.lookup cc = some ⟨cl, cld, .cell (some (.ref C)), csl⟩) ∧
    ∃ ccl cdd vs ccs file tf, K.lookup cda = some ⟨ccl, cdd, .fields vs, ccs⟩ ∧ vs[2]? = some (.str file tf) ∧ ((P.main.file : Str) == file) = true ∧
    (∀ e v, bindArgs (ksFn "__init__" ql (xA f p1 p2) (xB f q1 q2 q3 q4 q5 q6 q7 q8 q9 q10) (xS f) .none kV doc pm an (.ref cda) ct cc) ⟨[.ref e, v], []⟩ = pure [((PySem.Str.ofString "self" : Str), .ref e), (f, v)]) ∧
    ∀ L : Addr, ∃ pl, eval (xCall f q1 q2 q3 q4 q5) (ksEnv ql (xS f) L fI (.ref cda) cc) = (do
      let ov ← attributeBase (.Call (.Name "super" q1) [] [] q2) "__init__" (ksEnv ql (xS f) L fI (.ref cda) cc) (eval (.Call (.Name "super" q1) [] [] q2) (ksEnv ql (xS f) L fI (.ref cda) cc))
      standAt q3.atName
      let (g, first) ← holding [ov] (getMethod ov "__init__" pl)
      callWith q5 g first (backTo q5 (starEach [.Name f q4] (ksEnv ql (xS f) L fI (.ref cda) cc))) [])
  top : (P.main.scope.names.lookup ("super" : Str)).isSome = false
  sup : mg "super" = none
  f1 : (("self" : Str) == f) = false
  f2 : (f == ("self" : Str)) = false
  f3 : (f == ("__debug__" : Str)) = false
  f4 : (("super" : Str) == f) = false
  f5 : (("__class__" : Str) == f) = false
/-- what such an __init__ leaves -/
structure XEnd (h h' : Heap) (x C dx : Addr) (f : Str) (v : Value) : Prop where
  keep : ∀ b o, b ≠ x → h.get? b = some o → h'.get? b = some o
  obj : ∃ t1 : Addr, h'.get? x = some { cls := .ref C, dict := some dx, data := .fields #[.ref t1, .none, .none, .none, .bool false, .none] }
  dbig : h.objs.size ≤ dx
  dne : dx ≠ x
  ns : h'.Ns1 dx (fun y => if y = f then some v else none)
section
variable {P : Program} {w : PySem.World} {A : Around} {E : Value → Shared → Prop} {R : Result → Shared → Prop} {s : Shared} {K : Frag} {mg : Str → Option Value} {C : Addr} {x f : Str}
theorem look_f (T1 : (("self" : Str) == f) = false) (v u : Value) : ([((PySem.Str.ofString "self" : Str), u), (f, v)].reverse.lookup f) = some v := by
  simp [List.lookup]
theorem look_self (T2 : (f == ("self" : Str)) = false) (T1 : (("self" : Str) == f) = false) (v u : Value) : ([((PySem.Str.ofString "self" : Str), u), (f, v)].reverse.lookup (PySem.Str.ofString "self")) = some u := by
  simp only [List.reverse_cons, List.reverse_nil, List.nil_append, List.singleton_append, List.lookup_cons]
  rw [show ((PySem.Str.ofString "self" : Str) == f) = false from T1]
  simp
theorem xs_f (T2 : (f == ("self" : Str)) = false) : (xS f).names.lookup f = some .local := by
  simp only [xS, List.lookup_cons]
  rw [show (f == (PySem.Str.ofString "self" : Str)) = false from T2]
  simp
theorem xs_self : (xS f).names.lookup (PySem.Str.ofString "self") = some .local := by
  simp only [xS, List.lookup_cons]
  simp
theorem xs_super (h : (("super" : Str) == f) = false) : (xS f).names.lookup ("super" : Str) = some .globalImplicit := by
  simp only [xS, List.lookup_cons, h]
  rw [show ((PySem.Str.ofString "super" : Str) == PySem.Str.ofString "self") = false by decide +kernel, show ((PySem.Str.ofString "super" : Str) == PySem.Str.ofString "__class__") = false by decide +kernel]
  simp
theorem xs_class (h : (("__class__" : Str) == f) = false) : (xS f).names.lookup ("__class__" : Str) = some .free := by
  simp only [xS, List.lookup_cons, h]
  rw [show ((PySem.Str.ofString "__class__" : Str) == PySem.Str.ofString "self") = false by decide +kernel]
  simp
/-- ValueError.__init__, bound to an error, is called -/
theorem vx_call {hp : Heap} {g : Array GenState} {d : Drawn} {t : Nat} {os : OsState} {u e t0 : Addr} {rest : List Value} {Q : Value → Shared → Prop} {nm q : Str} {N : Addr} {bs bm : List Value} {hdct : Bool} {sn : List Str} {sub : List Value} {ab : Bool} {col : Option Bool} {dd : Option Addr} {k0 k1 k2 k3 k5 : Option Value}
    (hC : hp.get? C = some (excClassObj nm q C N bs bm hdct sn sub ab col dd k0 k1 k2 k3 k5 "ValueError.__new__")) (he : hp.get? e = some (excO C t0)) (hu : hp.get? u = some (kxs_mw "ValueError.__init__" e)) (hz : rest.length ≤ sizeLine)
    (fin : ∀ h', (∀ b o, b ≠ e → hp.get? b = some o → h'.get? b = some o) → h'.get? e = some (excO C hp.objs.size) → Q .none ⟨h', g, d, t, os⟩) :
    wpAny (model P w) A (call (.ref u) rest) Q E ⟨hp, g, d, t, os⟩ := by
  refine wpAny_call (codeAny_of_tree ?_)
  show wpAny (model P w) A.in1 (callAny (.ref u) ⟨rest, []⟩) _ _ _
  simp only [callAny]
  refine wpAny_bind (wpAny_load hu ?_)
  simp only [kxs_mw]
  refine KFB.if_so (by decide) ?_
  refine wpAny_bind (check_bound_init PySem.F.excBase_ValueError.toExcCallFacts hC he rfl ?_)
  refine wpAny_bind (wpAny_pure (wpAny_pure ?_))
  refine ⟨plainId_quiet PySem.F.excBase_ValueError.init.plain _, codeAny_builtin PySem.F.excBase_ValueError.initEntry ?_⟩
  exact exc_init_tree (cls := .ref C) (t0 := t0) (dv := none) (c2 := .none) (c3 := .none) (b4 := .bool false) he hz fun h' k e' _ => fin h' k e'
theorem vx_init (T : ExT P K mg x f C) {e t0 fI : Addr} {v : Value} (X : K.In s.heap) (hG : s.heap.Ns mainGlobals mg) (hB : ∃ mb, s.heap.Ns builtinsNs mb ∧ ∀ y : Str, y ≠ "__name__" → mb y = bootBuiltins y) (hlim : s.heap.NoLimit)
    (hx : s.heap.get? e = some (excO C t0)) (hnx : K.lookup e = none) (hroom : A.depth < recursionLimit) (hI : findIn K (.ref C) "__init__" = some (some (.ref fI)))
    (hq : ∀ h' tk dx, XEnd s.heap h' e C dx f v → R (.ok (.ret .none)) { s with heap := h', toks := tk }) :
    codeAny (model P w) A (.call (.ref fI) ⟨[.ref e, v], []⟩) R s := by
  obtain ⟨fI', cda, cc, oc, od, kV, doc, pm, an, ct, osl, p1, p2, q1, q2, q3, q4, q5, q6, q7, q8, q9, q10, ql, hi, tI, ho, hcd, ⟨cl, cld, csl, hcell⟩, ccl, cdd, vs, ccs, file, tf, hcode, hvs, hfile, hbind, hev⟩ := T.fn
  obtain rfl : fI = fI' := by
    rw [hi] at hI
    cases hI
    rfl
  obtain ⟨nm, q, N, bs, bm, sn, sub, ab, col, dd, k0, k1, k2, k3, k5, hC, hbm⟩ := T.cls
  have hcl : clsIn K C = some { name := nm, bases := bs, mro := .ref C :: bm, ns := N, qualname := q, hasDict := true, slotNames := sn, subclasses := sub, abstract := ab, collection := col, hasDel := false } := by
    unfold clsIn
    rw [hC] <;> rfl
  obtain ⟨mb, hmb, hbt⟩ := hB
  have hxC : e ≠ C := fun z => by
    rw [z, hC] at hnx
    cases hnx
  have hkf : (ksEnv ql (xS f) s.heap.objs.size fI (.ref cda) cc).kindOf f = some .local := xs_f T.f2
  refine ks_codeAny_call_defAt (binds := [("self", .ref e), (f, v)]) hroom (X _ _ ho) rfl hlim (codeRec_of X hcd) rfl (BindsTo.of_eq (hbind _ _)) ?_ ?_ (fun h₁ hn hk₁ => ?_)
  · intro y hy
    simp only [xS, List.mem_cons, List.not_mem_nil, or_false] at hy
    rcases hy with rfl | rfl | rfl | rfl <;> exact fun z => nomatch z
  · intro y hy
    simp only [List.mem_cons, List.not_mem_nil, or_false] at hy
    rcases hy with rfl | rfl
    · rfl
    · exact xs_f T.f2
  · have X₁ : K.In h₁ := X.keeps hk₁
    have hx₁ := hk₁ _ _ hx
    have I₁ : InstAt h₁ e (excO C t0) C none := ⟨hx₁, rfl, rfl, trivial⟩
    obtain ⟨hp, g, dr, tk, os⟩ := s
    obtain ⟨pl, hev⟩ := hev hp.objs.size
    refine ks_wpAt_execs_cons (ks_wpAt_Expr_any (ks_wpAt_MethodCall (he := hev) ?_))
    refine ks_wpAt_super_base (env := ksEnv ql (xS f) hp.objs.size fI (.ref cda) cc) (ar := { arg := "self", annotation := none, pos := p1 }) ?_ ?_ (by decide) rfl (X₁ _ _ ho) rfl rfl rfl (X₁ _ _ hcode) rfl hvs hfile T.top ?_
    · exact xs_super T.f4
    · exact xs_class T.f5
    · refine ks_loadName_global rfl (xs_super T.f4) (loadGlobal_builtin (env := ksEnv ql (xS f) hp.objs.size fI (.ref cda) cc) (hG.keeps hk₁) T.sup (hmb.keeps hk₁) ((hbt _ (by decide +kernel)).trans (show bootBuiltins "super" = some (.type "super") by decide +kernel)) ⟨rfl, ?_⟩)
      refine wpAny_loadName_free rfl (xs_class T.f5) rfl ⟨_, X₁ _ _ hcell, rfl⟩ ?_
      refine wpAny_loadName_local rfl xs_self hn (look_self T.f2 T.f1 v (.ref e)) ?_
      refine ks_wpAny_isType_cls (X₁ _ _ hC) rfl ⟨rfl, ?_⟩
      refine ks_wpAny_call_super (X₁ _ _ hC) rfl hx₁ rfl (fun c z => nomatch z) (looks_mroIn X₁ T.self) (fun h₂ hso hk₂ => ?_)
      have X₂ : K.In h₂ := X₁.keeps hk₂
      have hx₂ := hk₂ _ _ hx₁
      have I₂ : InstAt h₂ e (excO C t0) C none := ⟨hx₂, rfl, rfl, trivial⟩
      refine kxs_getMethod kxs_ValueError hso (looks_opaque X₂ T.opq) (l₀ := .ref C :: bm) (fun A Q E s k q => wpAny_bind ((looks_clsIn X₂ hcl) A _ E s k (wpAny_pure q))) rfl X₂ (by have := T.up; unfold ks_superIn at this; rw [hcl] at this; exact this) (I₂.type.andThen (looks_subIn X₂ T.veC)) hxC (by decide) ?_
      have k₃ : ∀ b o, h₂.get? b = some o → (h₂.push (kxs_mw "ValueError.__init__" e)).get? b = some o := fun b o z => Heap.get?_push_of_some _ z
      have hu : (h₂.push (kxs_mw "ValueError.__init__" e)).get? h₂.objs.size = some (kxs_mw "ValueError.__init__" e) := Heap.get?_push_at rfl rfl
      have k03 : ∀ b o, hp.get? b = some o → (h₂.push (kxs_mw "ValueError.__init__" e)).get? b = some o := fun b o z => k₃ _ _ (hk₂ _ _ (hk₁ _ _ z))
      have n03 : (h₂.push (kxs_mw "ValueError.__init__" e)).Ns hp.objs.size (fun y => [((PySem.Str.ofString "self" : Str), Value.ref e), (f, v)].reverse.lookup y) := (hn.keeps hk₂).keeps k₃
      have z03 : h₂.objs.size < (h₂.push (kxs_mw "ValueError.__init__" e)).objs.size := by
        rw [Heap.size_push]
        exact Nat.lt_succ_self _
      generalize h₂.push (kxs_mw "ValueError.__init__" e) = h₃ at hu k03 n03 z03 ⊢
      refine kxs_callWith (i := "ValueError.__init__") (x := e) (by rfl) (evalArgs_plain ?_)
      refine Calls.spliced_cons (wpAny_Name (env := ksEnv ql (xS f) hp.objs.size fI (.ref cda) cc) (wpAny_loadName_local rfl hkf n03 (look_f T.f1 v (.ref e)) (Calls.spliced_nil ⟨hu, ?_⟩)) T.f3)
      refine vx_call (k03 _ _ (X _ _ hC)) (k03 _ _ hx) hu (by show 1 ≤ sizeLine; decide) fun h₄ k₄ hx₄ => ?_
      have k04 : ∀ b o, b ≠ e → hp.get? b = some o → h₄.get? b = some o := fun b o hb z => k₄ _ _ hb (k03 _ _ z)
      have X₄ : K.In h₄ := fun b o z => k04 b o (fun y => by rw [y, hnx] at z; cases z) (X _ _ z)
      have hLe : hp.objs.size ≠ e := Nat.ne_of_gt (Heap.lt_size hx)
      have n04 : h₄.Ns hp.objs.size (fun y => [((PySem.Str.ofString "self" : Str), Value.ref e), (f, v)].reverse.lookup y) := n03.at fun o z => k₄ _ _ hLe z
      show PySem.wpAt _ _ _ (execs _ _) _ _ _
      refine wpAt_of_wpAny (wpAny_execs_cons (plainObj_wpAny_Assign_Attribute (env := ksEnv ql (xS f) hp.objs.size fI (.ref cda) cc) ?_))
      refine wpAny_Name (env := ksEnv ql (xS f) hp.objs.size fI (.ref cda) cc) (wpAny_loadName_local rfl hkf n04 (look_f T.f1 v (.ref e)) ?_) T.f3
      refine wpAny_Name (env := ksEnv ql (xS f) hp.objs.size fI (.ref cda) cc) (wpAny_loadName_local rfl xs_self n04 (look_self T.f2 T.f1 v (.ref e)) ?_) (by decide)
      refine set_plain X₄ (ox := excO C h₃.objs.size) (od := none) ⟨hx₄, rfl, rfl, trivial⟩ T.sa ?_
      refine exc_osa X₄ hx₄ hcl (show refsVE (.ref C :: bm) = true from hbm) rfl T.no (fun h₅ tk₅ dx k₅ dn dne hx₅ hn₅ => ?_)
      have z4 : hp.objs.size < h₄.objs.size := n04.lt
      exact wpAny_execs_nil (hq h₅ tk₅ dx ⟨fun b o hb z => k₅ b o hb (k04 b o hb z), ⟨_, hx₅⟩, Nat.le_of_lt (Nat.lt_of_lt_of_le z4 dn), dne, hn₅⟩)
/-- such an error, made -/
structure XMade (h h' : Heap) (e C d : Addr) (f : Str) (v : Value) : Prop where
  keep : ∀ b o, h.get? b = some o → h'.get? b = some o
  new : h.objs.size ≤ e
  obj : ∃ t1 : Addr, h'.get? e = some { cls := .ref C, dict := some d, data := .fields #[.ref t1, .none, .none, .none, .bool false, .none] }
  dbig : h.objs.size ≤ d
  dne : d ≠ e
  ns : h'.Ns1 d (fun y => if y = f then some v else none)
theorem vx_made (T : ExT P K mg x f C) {v : Value} (X : K.In s.heap) (hG : s.heap.Ns mainGlobals mg) (hB : ∃ mb, s.heap.Ns builtinsNs mb ∧ ∀ y : Str, y ≠ "__name__" → mb y = bootBuiltins y) (hlim : s.heap.NoLimit)
    (hroom : A.depth + 1 < recursionLimit) (hq : ∀ h' tk e d, XMade s.heap h' e C d f v → R (.ok (.ret (.ref e))) { s with heap := h', toks := tk }) :
    codeAny (model P w) A (.call (.ref C) ⟨[v], []⟩) R s := by
  obtain ⟨nm, q, N, bs, bm, sn, sub, ab, col, dd, k0, k1, k2, k3, k5, hC, hbm⟩ := T.cls
  obtain ⟨fI, _, _, _, _, _, _, _, _, _, _, _, _, _, _, _, _, _, _, _, _, _, _, _, hi, tI, _⟩ := T.fn
  obtain ⟨hp, g, dr, tk, os⟩ := s
  have k : ∀ b o, hp.get? b = some o → ((hp.push (kdv_tup [v])).push (excO C hp.objs.size)).get? b = some o := fun b o z => Heap.get?_push_of_some _ (Heap.get?_push_of_some _ z)
  have hget : ((hp.push (kdv_tup [v])).push (excO C hp.objs.size)).get? (hp.objs.size + 1) = some (excO C hp.objs.size) := by heap_get
  have hnx : K.lookup (hp.objs.size + 1) = none := by
    cases z : K.lookup (hp.objs.size + 1) with
    | none => rfl
    | some o => exact absurd (Nat.lt_of_succ_lt (Heap.lt_size (show hp.get? (hp.objs.size + 1) = some o from X _ _ z))) (Nat.lt_irrefl _)
  obtain ⟨mb, hmb, hbt⟩ := hB
  refine call_own PySem.F.excBase_ValueError (fun X => refsVE_contains X bm hbm) (X _ _ hC) (looks_findIn X hi) (fun self => bind_fn X self tI) (by show 1 ≤ sizeLine; decide) ?_
  refine vx_init (s := ⟨(hp.push (kdv_tup [v])).push (excO C hp.objs.size), g, dr, tk, os⟩) T (X.keeps k) (hG.keeps k) ⟨mb, hmb.keeps k, hbt⟩ (hlim.keeps k) hget hnx hroom hi fun h' tk' dx M => ⟨rfl, ?_⟩
  have z : hp.objs.size + 1 + 1 ≤ dx := by
    have q := M.dbig
    simpa only [Heap.size_push] using q
  exact hq h' tk' (hp.objs.size + 1) dx ⟨fun b o y => M.keep b o (Nat.ne_of_lt (Nat.lt_succ_of_lt (Heap.lt_size y))) (k b o y), Nat.le_succ _, M.obj, (by show hp.objs.size ≤ dx; omega), M.dne, M.ns⟩
end
end Fm
/-! the rule for making and raising it -/
namespace Fm
open PySem PySem.Spec PyProof.Rows L2
theorem relO_one {v : V} {u : Value} (r : RelV v u) (f g : Str) : RelO (List.lookup g [(f, v)]) (if g = f then some u else none) := by
  by_cases hw : g = f
  · subst hw
    rw [if_pos rfl]
    rw [show List.lookup g [(g, v)] = some v by simp [List.lookup]]
    exact r
  · rw [if_neg hw]
    have q : (g == f) = false := by simpa using hw
    rw [show List.lookup g [(f, v)] = none by simp [List.lookup, q]]
    trivial
section
variable {X : Cx} {C : Addr} {x f : Str}
def tMkX (C : Addr) (f : Str) (ta : TA) : L2.St → Hp → XK → Prop := fun σ H Q => ta σ H fun vs H1 => ∃ v, vs = [v] ∧ ∀ d, H1 d = none → Q (.ref C) (some d) (upd H1 d (.xd [(f, v)]))
theorem pmk_x {a : Expr} {ta : TA} {p pos : Pos} {k : Nat} (T : ExT X.prog X.K X.mg x f C) (hr : Room k X.A) (ha : PA X [a] ta) (hg : Gl X x := by rfl) (hdb : (x == ("__debug__" : Str)) = false := by decide)
    (he : starEach (a :: []) X.env = (false, eval a X.env) :: starEach [] X.env := by rfl) (hpl : (backTo pos (starEach [] X.env)).any (·.1) = false := by rfl) :
    PMk X (.Call (.Name x p) [a] [] pos) (tMkX C f ta) := by
  intro pins s σ H Q I h
  refine wpAny_Call_Name_kw (ld_glob I hg T.gC ?_ hdb)
  refine PySem.W.callWith_K (h₀ := X.base) I.ok.mod.kin T.kC (thn (ha.run pos pins s σ H _ I h) fun us s1 hh => ?_) he hpl
  obtain ⟨vs, H1, I1, r1, v, rfl, q1⟩ := hh
  refine ⟨I1.kIn, ?_⟩
  obtain ⟨v', rfl, rv⟩ := r1.one
  have keepB : ∀ b o, X.base.get? b = some o → s1.heap.get? b = some o := fun b o z => (I1.env0.bs b o z).1
  have hG := I1.env0.mod.glob.keeps keepB
  obtain ⟨mb, hmb, hbt⟩ := I1.env0.mod.blt
  show wpAny _ _ (call (.ref C) [v']) _ _ _
  have hlim := I1.nolimit
  have hmb' := hmb.keeps keepB
  obtain ⟨hp, g, dr, tk, os⟩ := s1
  refine wpAny_call (vx_made T I1.kIn hG ⟨mb, hmb', hbt⟩ hlim (by have := hr.dp; omega) fun h' tk' e d M => ?_)
  show MkP X pins σ Q (.ref e) ⟨h', g, dr, tk', os⟩
  obtain ⟨t1, hoe⟩ := M.obj
  have hns := M.ns
  obtain ⟨G', g1, g2⟩ := restrict h' fun b => decide (b ≠ e)
  have gk : ∀ b, b ≠ e → G'.get? b = h'.get? b := fun b hb => g1 b (decide_eq_true hb)
  have ge : G'.get? e = none := g2 e (by simp)
  have old : ∀ b o, hp.get? b = some o → G'.get? b = some o := fun b o q => (gk b (Nat.ne_of_lt (Nat.lt_of_lt_of_le (Heap.lt_size q) M.new))).trans (M.keep b o q)
  have ob : ObjOk X.prog X.w (upd H1 d (.xd [(f, v)])) G' d (.xd [(f, v)]) := ⟨_, hns.at (fun o q => (gk d M.dne).trans q), fun y => relO_one rv f y⟩
  have J : Inv X pins σ (upd H1 d (.xd [(f, v)])) ⟨G', g, dr, tk', os⟩ := I1.laid (t' := tk') old M.dbig ob
  refine ⟨e, _, _, ⟨G', g, dr, tk', os⟩, _, .ref C, some d, rfl, J, fun b o q => ?_, ge, hoe, ⟨rfl, rfl⟩, rfl, rfl, ?_, rfl, I1.bare, raises_own T.exC T.tyC, q1 d (I1.hok.fresh M.dbig)⟩
  · by_cases hb : b = e
    · have q' : G'.get? b = some o := q
      rw [hb, ge] at q'
      cases q'
    · exact (gk b hb).symm.trans q
  · rw [upd_ne (Ne.symm M.dne)]
    exact I1.hok.fresh M.new
end
end Fm
/-! a caught error: its class asked, its field read -/
namespace Fm
open PySem PySem.Spec PyProof.Rows L2
/-- a method of a class of the text -/
structure MethAt (K : PySem.W.Frag) (C : Addr) (m q : Str) (st : Stmt) (ps : List Str) where
  f : Addr
  fd : FuncData
  F : Fun K m q st f fd
  M : Meth K C m f
  b : Binds K fd ps []
/-- an error class without an __init__ of its own -/
structure ExN (K : PySem.W.Frag) (mg : Str → Option Value) (x : Str) (C : Addr) : Prop where
  gC : mg x = some (.ref C)
  exC : PySem.W.subIn K (.ref C) (.type "BaseException") = some true
  hdC : PySem.W.hasDictIn K C = true
  tyC : PySem.W.typeIn K (.ref C) = some (.type "type")
section
variable {X : Cx} {a : Addr} {oe : Obj} {cls : Value} {d : Option Addr} {pn : List (Addr × Obj)}
def rIsX (K : PySem.W.Frag) (a : Addr) (cls : Value) (d : Option Addr) : List V → Hp → VK → Prop := fun xs H Q => ∃ (D : Addr) (c : V) (cv : Value) (b : Bool), cls = .ref D ∧ ExcC K D ∧
  (d = none ∨ ∃ dd fs, d = some dd ∧ H dd = some (.xd fs)) ∧ xs = [.ref a, c] ∧ (∀ u, RelV c u → u = cv) ∧ PySem.W.kitOne K (.ref D) cv = some b ∧ Q (.bl b) H
theorem call_isX (hz : Zc cls d oe) (hf : ∃ vs, oe.data = .fields vs) : CallR (X.suite a ((a, oe) :: pn)) (.builtin "isinstance") (rIsX X.K a cls d) := by
  intro pins s σ H xs us Q I r h
  obtain ⟨D, c, cv, b, rfl, C, hd, rfl, hcv, e, q⟩ := h
  obtain ⟨u1, u2, rfl, rx, rt⟩ := vals2 r
  cases (show u1 = Value.ref a from rx)
  have ec := hcv _ rt
  subst ec
  obtain ⟨hget, _⟩ := I.pin (a, oe) (List.mem_append.mpr (.inl List.mem_cons_self))
  obtain ⟨vs, hv⟩ := hf
  have no : PySem.W.notCls oe = true := by
    unfold PySem.W.notCls
    rw [hv] <;> rfl
  obtain ⟨od, J⟩ : ∃ od, PySem.W.InstAt s.heap a oe D od := by
    rcases hd with rfl | ⟨dd, fs, rfl, hx⟩
    · refine ⟨none, hget, hz.1, no, ?_⟩
      rw [hz.2]
      trivial
    · obtain ⟨mA, hns, _⟩ := (show ObjOk X.prog X.w H s.heap dd (.xd fs) from I.hok dd _ hx)
      obtain ⟨od, ho, _⟩ := lookIn_ns hns
      refine ⟨some od, hget, hz.1, no, ?_⟩
      rw [hz.2]
      exact ho
  have hcl : (PySem.W.clsIn X.K D).isSome = true := by
    obtain ⟨cd, hc, _⟩ := PySem.W.any_some C.hd
    rw [hc]
    rfl
  exact PySem.W.kia_one (PySem.W.kitx_exc hcl C.hg C.hk C.hs C.ha C.hn C.ht C.hm) I.kIn J e (fun z => nomatch z) fun tk => ⟨.bl b, H, I.kept (t' := tk) fun _ _ z => z, rfl, q⟩
def tXfG (K : PySem.W.Frag) (a : Addr) (cls : Value) (d : Option Addr) (f : Str) (te : TE) : TE := fun σ H Q => te σ H fun x H1 => x = .ref a ∧ ∃ (C dd : Addr) (fs : List (Str × V)) (v : V), cls = .ref C ∧ XfC K C ∧ PySem.W.findIn K (.ref C) f = some none ∧
  d = some dd ∧ H1 dd = some (.xd fs) ∧ fs.lookup f = some v ∧ Q v H1
theorem pe_xfG {e : Expr} {te : TE} {pos : Pos} {n : Str} (hz : Zc cls d oe) (hf : ∃ vs, oe.data = .fields vs) (he : PE (X.suite a ((a, oe) :: pn)) e te) (hb : attributeBase e n X.env (eval e X.env) = eval e X.env := by rfl) :
    PE (X.suite a ((a, oe) :: pn)) (.Attribute e n pos) (tXfG X.K a cls d n te) := by
  refine ⟨fun pins s σ H Q I h => ?_⟩
  refine attr_of hb (thn (he.run pins s σ H _ I h) fun u s1 hh => ?_)
  obtain ⟨x, H1, I1, rx, rfl, C, dd, fs, v, rfl, T, hno, rfl, ea, l, q⟩ := hh
  obtain rfl : u = Value.ref a := rx
  obtain ⟨ha, _⟩ := I1.pin (a, oe) (List.mem_append_left _ List.mem_cons_self)
  obtain ⟨vs, hd⟩ := hf
  obtain ⟨mA, hns, hr⟩ := (show ObjOk X.prog X.w H1 s1.heap dd (.xd fs) from I1.hok dd _ ea)
  obtain ⟨od, ho, hl⟩ := lookIn_ns hns
  obtain ⟨u, hu, ru⟩ := RelO.some_of (v := v) (o := mA n) (by rw [← l]; exact hr n)
  have no : PySem.W.notCls oe = true := by
    unfold PySem.W.notCls
    rw [hd] <;> rfl
  have J : PySem.W.InstAt s1.heap a oe C (some od) := ⟨ha, hz.1, no, by rw [hz.2]; exact ho⟩
  exact HandSPX.exc_get I1.kIn J T.ga T.gg T.exC (PySem.W.findObj_own T.hdC hno rfl (by rw [hl, hu])) (handed_of ru) ⟨v, H1, I1.tok _, ru, q⟩
end
end Fm
namespace Fm
open PySem PySem.Spec PyProof.Rows L2
/-! ### pairs of a text and an int, by the text, then by the int -/
def ltSI (p q : Str × Int) : Bool := if p.1 = q.1 then decide (p.2 < q.2) else decide (p.1.cps.toList < q.1.cps.toList)
theorem str_ext {x y : Str} (h : x.cps.toList = y.cps.toList) : x = y := by
  cases x
  cases y
  simp only at h
  rw [Array.toList_inj.mp h]
theorem ltSI_no {p q : Str × Int} : ltSI p q = false ↔ (p.1 = q.1 ∧ q.2 ≤ p.2) ∨ (q.1.cps.toList < p.1.cps.toList) := by
  unfold ltSI
  by_cases e : p.1 = q.1
  · rw [if_pos e, decide_eq_false_iff_not, Int.not_lt]
    constructor
    · exact fun h => .inl ⟨e, h⟩
    · rintro (h | h)
      · exact h.2
      · rw [e] at h
        exact absurd h (List.lt_irrefl _)
  · rw [if_neg e, decide_eq_false_iff_not]
    constructor
    · intro h
      refine .inr ?_
      rcases Std.lt_trichotomy q.1.cps.toList p.1.cps.toList with z | z | z
      · exact z
      · exact absurd (str_ext z.symm) e
      · exact absurd z h
    · rintro (h | h)
      · exact absurd h.1 e
      · exact fun z => List.lt_irrefl _ (List.lt_trans z h)
theorem ltSI_yes {p q : Str × Int} : ltSI p q = true ↔ (p.1 = q.1 ∧ p.2 < q.2) ∨ (p.1.cps.toList < q.1.cps.toList) := by
  unfold ltSI
  by_cases e : p.1 = q.1
  · rw [if_pos e, decide_eq_true_iff]
    constructor
    · exact fun h => .inl ⟨e, h⟩
    · rintro (h | h)
      · exact h.2
      · rw [e] at h
        exact absurd h (List.lt_irrefl _)
  · rw [if_neg e, decide_eq_true_iff]
    constructor
    · exact fun h => .inr h
    · rintro (h | h)
      · exact absurd h.1 e
      · exact h
theorem swo_SI (k : Value → Str × Int) : SrtO.Swo fun v u => ltSI (k v) (k u) := by
  refine ⟨fun x y h => ?_, fun x y z h1 h2 => ?_⟩
  · refine ltSI_no.mpr ?_
    rcases ltSI_yes.mp h with ⟨a, b⟩ | a
    · exact .inl ⟨a.symm, by omega⟩
    · exact .inr a
  · refine ltSI_no.mpr ?_
    rcases ltSI_no.mp h1 with ⟨a, b⟩ | a
    · rcases ltSI_no.mp h2 with ⟨c, d⟩ | c
      · exact .inl ⟨c.trans a, by omega⟩
      · rw [a] at c
        exact .inr c
    · rcases ltSI_no.mp h2 with ⟨c, d⟩ | c
      · rw [← c] at a
        exact .inr a
      · exact .inr (List.lt_trans a c)
/-- v is a pair of a text and an int -/
def IsSI (h : Heap) (v : Value) (x : Str) (i : Int) : Prop := ∃ (a : Addr) (o : Obj) (t u : Tok) (n : Nat), v = .ref a ∧ h.get? a = some o ∧ o.cls = .type "tuple" ∧ o.data = .seq #[.str x t, .int i u] n
theorem IsSI.one {h : Heap} {v : Value} {x y : Str} {i j : Int} (a : IsSI h v x i) (b : IsSI h v y j) : x = y ∧ i = j := by
  obtain ⟨p, o, t, u, n, rfl, ho, _, hd⟩ := a
  obtain ⟨p', o', t', u', n', e, ho', _, hd'⟩ := b
  cases e
  rw [ho] at ho'
  cases ho'
  rw [hd] at hd'
  injection hd' with h1 _
  have h2 := congrArg Array.toList h1
  simp at h2
  exact ⟨h2.1.1, h2.2.1⟩
section
variable {prog : Program} {w : World} {A : Around} {E : Value → Shared → Prop} {s : Shared}
theorem si_cmp {vs : List Value} {k : Value → Str × Int} (hp : ∀ v ∈ vs, IsSI s.heap v (k v).1 (k v).2) : SrtO.Cmp prog w A s (tuples' true) (fun p => p.1 ∈ vs) (SrtO.lt2 fun v u => ltSI (k v) (k u)) := by
  intro p q hm hm'
  have h1 := hp _ hm
  have h2 := hp _ hm'
  show wpAny (model prog w) A (keyLt' (tuples' true) p.1 q.1) (fun r s' => s' = s ∧ r = ltSI (k p.1) (k q.1)) (fun _ _ => False) s
  generalize k p.1 = kp at h1 ⊢
  generalize k q.1 = kq at h2 ⊢
  obtain ⟨x, y⟩ := kp
  obtain ⟨x', y'⟩ := kq
  obtain ⟨a, o, t, u, n, e, ho, hc, hd⟩ := h1
  obtain ⟨a', o', t', u', n', e', ho', hc', hd'⟩ := h2
  rw [e, e']
  refine PySem.W.kat_lt ho hd ho' hd' ?_
  show PySem.W.KatLex prog w A true (decide (2 < 2)) _ [(.str x t, .str x' t'), (.int y u, .int y' u')] 0 s
  refine PySem.W.kat_cons (SeqAt.EqAt.str_str x t x' t' prog w _ _ ?_)
  refine PySem.W.kat_go (fun e1 => ?_) (fun e1 => ?_)
  · have ex : x = x' := by simpa using e1
    refine PySem.W.kat_yes (PySem.W.kat_cons (SeqAt.EqAt.int_int y u y' u' prog w _ _ ?_))
    refine PySem.W.kat_go (fun e2 => ?_) (fun e2 => ?_)
    · have ey : y = y' := by simpa using e2
      refine PySem.W.kat_yes (PySem.W.kat_nil ⟨rfl, ?_⟩)
      rw [ex, ey]
      exact (ltSI_no.mpr (.inl ⟨rfl, Int.le_refl _⟩)).symm
    · refine PySem.W.kat_no (PySem.W.kat_one _ _ (PyProof.Rows.lt_int ?_))
      refine (show s = s ∧ decide (y < y') = ltSI (x, y) (x', y') from ⟨rfl, ?_⟩)
      unfold ltSI
      rw [if_pos ex]
  · have ex : ¬ x = x' := by simpa using e1
    refine PySem.W.kat_no (PyProof.Rows.oneLt_str ⟨rfl, ?_⟩)
    unfold ltSI
    rw [if_neg ex]
/-- their first items -/
theorem si_firsts : ∀ vs : List Value, (∀ v ∈ vs, ∃ x i, IsSI s.heap v x i) → ∃ fs, PySem.W.KatTups s.heap vs fs ∧ fs.length = vs.length ∧ ∀ f ∈ fs, ∃ x t, f = Value.str x t
  | [], _ => ⟨[], .nil, rfl, fun _ h => nomatch h⟩
  | v :: vs, h => by
    obtain ⟨fs, k, hl, hi⟩ := si_firsts vs fun u hu => h u (by simp [hu])
    obtain ⟨x, i, a, o, t, u, n, rfl, ho, hc, hd⟩ := h v (by simp)
    refine ⟨.str x t :: fs, .cons ho hc hd rfl k, by simp [hl], fun f hf => ?_⟩
    rcases List.mem_cons.mp hf with rfl | hf
    · exact ⟨x, t, rfl⟩
    · exact hi f hf
theorem si_sortable {a : Addr} {vs : List Value} {k : Value → Str × Int} (h0 : 0 < vs.length) (hp : ∀ v ∈ vs, IsSI s.heap v (k v).1 (k v).2) (ha : ∀ o, s.heap.get? a = some o → o.cls ≠ .type "tuple") : SrtO.SortableO prog w A s a vs fun v u => ltSI (k v) (k u) := by
  intro h' keep
  have hp' : ∀ v ∈ vs, IsSI h' v (k v).1 (k v).2 := fun v hm => by
    obtain ⟨p, o, t, u, n, e, ho, hc, hd⟩ := hp v hm
    exact ⟨p, o, t, u, n, e, keep p o (fun z => by subst z; exact ha o ho hc) ho, hc, hd⟩
  obtain ⟨fs, h1, h2, h3⟩ := si_firsts (s := { s with heap := h' }) vs fun v hm => ⟨_, _, hp' v hm⟩
  refine ⟨tuples' true, fun Q E hq => ?_, si_cmp hp'⟩
  refine PySem.W.kat_kind (T := .type "str") h1 (by omega) (fun f hm => ?_) (by rfl) ?_
  · obtain ⟨x, t, rfl⟩ := h3 f hm
    exact PySem.W.Looks.now
  · have e : (Value.type "str" != Value.type "tuple") = true := by first | decide +kernel | rfl | decide
    rw [e]
    exact hq
end
section
variable {X : Cx}
/-- d.items() -/
def rItemsK : V → List V → Hp → VK → Prop := fun x xs H Q => ∃ (a : Addr) (kvs : List (L2.Key × V)), x = .ref a ∧ xs = [] ∧ H a = some (.dK kvs) ∧ ∀ p, H p = none → Q (.ref p) (upd H p (DX.itemsO p a))
theorem mt_itemsK : MtR X "dict.items" rItemsK := by
  intro pins s σ H x xs v us Q I rx rxs h
  obtain ⟨a, kvs, rfl, rfl, ha, q⟩ := h
  cases rx
  cases rxs
  obtain ⟨_, hd, _, _, o, es, ep, ho, hx, hdat, _⟩ := dk_of I.hok ha
  refine DT.callItems (es := es) (ep := ep) hd ⟨o, ho, hx, hdat⟩ ?_
  have hf : H s.heap.objs.size = none := I.hok.fresh (Nat.le_refl _)
  exact ⟨.ref s.heap.objs.size, _, I.laid (t' := s.toks) (fun b u e => Heap.get?_push_of_some _ e) (Nat.le_refl _) (DX.itemsO_ok (Heap.get?_push_size _ rfl)), rfl, q _ hf⟩
theorem pairs_at {P : Program} {w : World} : ∀ {es : List DictEntry} {vs : List (L2.Key × Value)}, Pairs (mixKind P w) es vs → ∀ (j : Nat), (∀ e, es[j]? = some e → ∃ kv, vs[j]? = some kv ∧ keyIs kv.1 e.key = true ∧ e.val = kv.2) ∧ es.length = vs.length
  | _, _, .nil, j => ⟨fun e h => by simp at h, rfl⟩
  | _, _, .cons h1 h2 h3, 0 => ⟨fun e h => by
      simp at h
      subst h
      exact ⟨_, rfl, h1, h2⟩, by simp [(pairs_at h3 0).2]⟩
  | _, _, .cons h1 h2 h3, j + 1 => ⟨fun e h => by
      obtain ⟨kv, a, b⟩ := (pairs_at h3 j).1 e (by simpa using h)
      exact ⟨kv, by simpa using a, b⟩, by simp [(pairs_at h3 0).2]⟩
abbrev rowK (r : Str × Int) : L2.Key × V := (Sum.inr r.1, .int r.2)
/-- sorted(d.items()), keys texts, values ints -/
def rSortSI : List V → Hp → VK → Prop := fun xs H Q => ∃ (p a : Addr) (rows : List (Str × Int)), xs = [.ref p] ∧ H p = some (DX.itemsO p a) ∧ H a = some (.dK (rows.map rowK)) ∧
  ∀ (H' : Hp) (l : Addr) (ps : List (Addr × Str × Int)), (∀ b o, H b = some o → H' b = some o) → H l = none → (ps.map (·.2)).Perm rows → (ps.map (·.2)).Pairwise (fun e f => e.1.cps.toList < f.1.cps.toList) → H' l = some (.lst (ps.map fun z => V.ref z.1)) →
    (∀ z ∈ ps, H' z.1 = some (.tup [.str z.2.1, .int z.2.2])) → Q (.ref l) H'
theorem cr_sortSI (hc : X.calm = true) : CallR X (.builtin "sorted") rSortSI := by
  intro pins s σ H xs us Q I r h
  obtain ⟨p, a, rows, rfl, hp, ha, q⟩ := h
  obtain rfl := Vals.ref1 r
  have view : s.heap.IsItemsView p a := (show ObjOk X.prog X.w H s.heap p (DX.itemsO p a) from I.hok p _ hp).1
  obtain ⟨z, hd, vs', kv, o, es, ep, ho, hx, hdat, _, hpr, hnd⟩ := dk_of I.hok ha
  have l1 : (rows.map rowK).length = vs'.length := Paired.length kv
  rw [List.length_map] at l1
  have l2 : es.size = vs'.length := by
    have := (pairs_at hpr 0).2
    simpa using this
  rw [List.length_map] at z
  have hh : X.A.handled = none := I.ok.hd hc
  refine DT.sortedI (es := es) (ep := ep) hh view ⟨o, ho, hx, hdat⟩ (by omega) fun h' tk as hk hlt hl hG => ?_
  have lak : as.length = rows.length := by omega
  have nd : as.Nodup := List.Pairwise.imp (fun h => Nat.ne_of_lt h) hG.rise
  have pr : ∀ (j : Nat) (b : Addr), as[j]? = some b → ∃ (e : Str × Int), rows[j]? = some e ∧ IsSI h' (.ref b) e.1 e.2 ∧ ∃ t u, h'.get? b = some { cls := .type "tuple", data := .seq #[.str e.1 t, .int e.2 u] } := by
    intro j b hj
    obtain ⟨en, he, hg⟩ := hG.pairs j b hj
    obtain ⟨kq, h1, h2, h3⟩ := (pairs_at hpr j).1 en (by rw [Array.getElem?_toList]; exact he)
    obtain ⟨x, hx1, hx2, hx3⟩ := DX.pget kv h1
    rw [List.getElem?_map] at hx1
    obtain ⟨e, e1, rfl⟩ := Option.map_eq_some_iff.mp hx1
    rw [← hx2] at h2
    obtain ⟨t, e2⟩ : ∃ t, en.key = Value.str e.1 t := by
      rcases keyIs_shape h2 with ⟨i, t, z, _⟩ | ⟨y, t, z1, z2⟩
      · cases z
      · cases z1
        exact ⟨t, z2⟩
    obtain ⟨u, e3⟩ : ∃ u, en.val = Value.int e.2 u := by
      rw [h3]
      obtain ⟨u, hu⟩ := (show ∃ u, kq.2 = Value.int e.2 u from hx3)
      exact ⟨u, hu⟩
    rw [e2, e3] at hg
    exact ⟨e, e1, ⟨b, _, t, u, 0, rfl, hg, rfl, rfl⟩, t, u, hg⟩
  have hob : (h'.push { cls := .type "list", data := .seq (as.map Value.ref).toArray }).get? h'.objs.size = some (seqObj "list" (as.map Value.ref).toArray 0) := Heap.get?_push_size _ rfl
  have ka : ∀ b o, h'.get? b = some o → (h'.push { cls := .type "list", data := .seq (as.map Value.ref).toArray }).get? b = some o := fun b o e => Heap.get?_push_of_some _ e
  have ne0 : ∀ b o, h'.get? b = some o → b ≠ h'.objs.size := fun b o e => Nat.ne_of_lt (Heap.lt_size e)
  generalize h'.push { cls := .type "list", data := .seq (as.map Value.ref).toArray } = h2 at hob ka ⊢
  have kb : ∀ b o, s.heap.get? b = some o → h2.get? b = some o := fun b o e => ka _ _ (hk b o e)
  -- the pair that a value is
  obtain ⟨k, hkv⟩ : ∃ k : Value → Str × Int, ∀ (j : Nat) (b : Addr), as[j]? = some b → some (k (.ref b)) = rows[j]? := by
    refine ⟨fun v => match v with | .ref b => (rows[as.idxOf b]?).getD ("", 0) | _ => ("", 0), fun j b hj => ?_⟩
    have hjl : j < as.length := (List.getElem?_eq_some_iff.mp hj).1
    have hjb : as[j] = b := (List.getElem?_eq_some_iff.mp hj).2
    have e : as.idxOf b = j := by
      rw [← hjb]
      exact List.Nodup.idxOf_getElem nd j hjl
    dsimp only
    rw [e, List.getElem?_eq_getElem (by omega : j < rows.length)]
    rfl
  have isS : ∀ v ∈ as.map Value.ref, IsSI h2 v (k v).1 (k v).2 := by
    intro v hv
    obtain ⟨b, hb, rfl⟩ := List.mem_map.mp hv
    obtain ⟨j, hj⟩ := List.mem_iff_getElem?.mp hb
    obtain ⟨e, he, ⟨b', o, t, u, n, eb, hg, hc', hd'⟩, _⟩ := pr j b hj
    have := hkv j b hj
    rw [he] at this
    rw [Option.some.inj this]
    exact ⟨b', o, t, u, n, eb, ka _ _ hg, hc', hd'⟩
  refine wpAny_call_entry PyProof.Rows.slot_list_sort ⟨_, hob, rfl⟩ PyProof.Rows.entry_list_sort
    (SrtO.list_sort_ord (s := { s with heap := h2, toks := tk }) (swo_SI k) hob (by rw [List.length_map]; omega) (fun h2l => si_sortable (by omega) isS fun o e => ?_) fun out o1 o2 => ⟨.none, rfl, ?_⟩) (PyProof.Rows.args_list_sort _)
  · have e' : h2.get? h'.objs.size = some o := e
    rw [hob] at e'
    cases e'
    exact fun z => absurd (Value.type.inj z) (by decide)
  · show EP X pins σ Q (.ref h'.objs.size) { s with heap := sortedHeap h2 h'.objs.size (as.map Value.ref) out.toArray, toks := tk }
    have hperm := o2.perm
    obtain ⟨bs, pb, eb⟩ := perm_lift Value.ref hperm as rfl
    subst eb
    have idx : ∀ b ∈ bs, ∃ j : Nat, as[j]? = some b ∧ rows[j]? = some (k (.ref b)) := by
      intro b hb
      obtain ⟨j, hj⟩ := List.mem_iff_getElem?.mp (pb.mem_iff.mp hb)
      exact ⟨j, hj, (hkv j b hj).symm⟩
    have e0 : as.map (fun b => k (.ref b)) = rows := by
      refine List.ext_getElem? fun j => ?_
      rw [List.getElem?_map]
      cases hj : as[j]? with
      | none =>
        have : rows.length ≤ j := by
          rw [← lak]
          exact List.getElem?_eq_none_iff.mp hj
        rw [List.getElem?_eq_none this]
        rfl
      | some b => exact hkv j b hj
    have pRows : ((bs.map fun b => (b, k (.ref b))).map (·.2)).Perm rows := by
      rw [List.map_map, ← e0]
      exact pb.map _
    have nodupK : (rows.map (·.1)).Nodup := by
      have e9 : vs'.map (·.1) = (rows.map (·.1)).map Sum.inr := by
        have : ∀ {l : List (L2.Key × V)} {m : List (L2.Key × Value)}, KV l m → m.map (·.1) = l.map (·.1) := by
          intro l m hK
          induction hK with
          | nil => rfl
          | cons h _ ih => rw [List.map_cons, List.map_cons, ih, h.1]
        rw [this kv, List.map_map, List.map_map]
        rfl
      rw [e9] at hnd
      exact (List.pairwise_map.mp hnd).imp fun h z => h (by rw [z])
    have sRows : ((bs.map fun b => (b, k (.ref b))).map (·.2)).Pairwise (fun e f => e.1.cps.toList < f.1.cps.toList) := by
      have n2 : ((bs.map fun b => (b, k (.ref b))).map (·.2)).Pairwise (fun e f => e.1 ≠ f.1) := by
        have := (pRows.map (·.1)).nodup_iff.mpr nodupK
        exact List.pairwise_map.mp this
      have n1 : ((bs.map fun b => (b, k (.ref b))).map (·.2)).Pairwise (fun e f => ltSI f e = false) := by
        rw [List.map_map, List.pairwise_map]
        exact List.pairwise_map.mp o1
      refine (n1.and n2).imp fun {e f} h => ?_
      rcases ltSI_no.mp h.1 with z | z
      · exact absurd z.1.symm h.2
      · exact z
    have kF : ∀ b o, b ≠ h'.objs.size → h2.get? b = some o → (sortedHeap h2 h'.objs.size (as.map Value.ref) (bs.map Value.ref).toArray).get? b = some o := fun b o hb e => (PyProof.Rows.sortedHeap_old hb (Heap.lt_size e)).trans e
    have kS : ∀ b o, s.heap.get? b = some o → (sortedHeap h2 h'.objs.size (as.map Value.ref) (bs.map Value.ref).toArray).get? b = some o := fun b o e => kF b o (ne0 _ _ (hk b o e)) (kb b o e)
    obtain ⟨eF, heF⟩ := PyProof.Rows.sortedHeap_at (vs := as.map Value.ref) (out := (bs.map Value.ref).toArray) hob
    have I1 : Inv X pins σ H { s with heap := sortedHeap h2 h'.objs.size (as.map Value.ref) (bs.map Value.ref).toArray, toks := tk } := I.kept (t' := tk) kS
    have hn0 : H h'.objs.size = none := I.hok.fresh (Nat.le_of_lt hlt)
    have hlen : (bs.map V.ref).length ≤ sizeLine := by
      rw [List.length_map, pb.length_eq]
      omega
    have rv : Vals (bs.map V.ref) (bs.map Value.ref) := vals_refs bs
    have I2 : Inv X pins σ (upd H h'.objs.size (.lst (bs.map V.ref))) { s with heap := sortedHeap h2 h'.objs.size (as.map Value.ref) (bs.map Value.ref).toArray, toks := tk } :=
      I1.take (h' := sortedHeap h2 h'.objs.size (as.map Value.ref) (bs.map Value.ref).toArray) (t' := tk) (fun b ob _ e => e) (I.fpOk (Nat.le_of_lt hlt) hn0) ⟨hlen, bs.map Value.ref, eF, rv, heF⟩
    obtain ⟨H2, I3, g, qt⟩ := DX.takeT (P := fun b vs => vs = [.str (k (.ref b)).1, .int (k (.ref b)).2]) I as _ I2 nd fun b hb => by
      obtain ⟨j, hj⟩ := List.mem_iff_getElem?.mp hb
      obtain ⟨e, he, _, t, u, hg⟩ := pr j b hj
      have ek : k (.ref b) = e := by
        have := hkv j b hj
        rw [he] at this
        exact Option.some.inj this
      have hbl : s.heap.objs.size ≤ b := Nat.le_of_lt (hG.above b hb)
      refine ⟨hbl, ?_, _, rfl, fun H3 => ⟨(by show 2 ≤ sizeLine; decide), [Value.str e.1 t, Value.int e.2 u], ?_, ⟨_, kF _ _ (ne0 _ _ hg) (ka _ _ hg), rfl, 0, rfl⟩⟩⟩
      · rw [upd_ne (ne0 _ _ hg)]
        exact I.hok.fresh hbl
      · rw [ek]
        exact .cons ⟨t, rfl⟩ (.cons ⟨u, rfl⟩ .nil)
    have gr : ∀ b o, H b = some o → H2 b = some o := fun b o e => g b o (by rw [upd_ne (ne_of_none e hn0)]; exact e)
    refine ⟨.ref h'.objs.size, H2, I3, rfl, q H2 h'.objs.size (bs.map fun b => (b, k (.ref b))) gr hn0 pRows sRows ?_ fun z' hz' => ?_⟩
    · rw [List.map_map]
      exact g _ _ upd_same
    · obtain ⟨b, hb, rfl⟩ := List.mem_map.mp hz'
      obtain ⟨vs, ev, hH⟩ := qt b (pb.mem_iff.mp hb)
      rw [hH, ev]
end
end Fm
/-! sorted(xs, key=f), f a def of the text -/
namespace Fm
open PySem PySem.Spec PyProof.Rows L2
/-- keys of one kind, and their order -/
structure KOrd (prog : Program) (w : World) (keys : List Value) (ltk : Value → Value → Bool) : Prop where
  swo : SrtO.Swo ltk
  kind : 2 ≤ keys.length → keyKind' keys.toArray = pure oneType'
  cmp : ∀ A s, SrtO.Cmp prog w A s oneType' (fun p => p.1 ∈ keys) (SrtO.lt2 ltk)
theorem kord_ints {prog : Program} {w : World} {keys : List Value} {ns : List Int} (h : IntsAre keys ns) : KOrd prog w keys SrtO.ltIv := by
  refine ⟨SrtO.swo_int, fun h2 => ?_, fun A s => SrtO.int_cmp h⟩
  match keys, h, h2 with
  | v1 :: v2 :: rest, h, _ => exact keyKind_ints h
  | [], _, h => exact absurd h (by decide)
  | [v], _, h => exact absurd h (by simp)
def sv : Value → List Nat
  | .str x _ => x.cps.toList
  | _ => []
def ltSv (v u : Value) : Bool := decide (sv v < sv u)
theorem swo_str : SrtO.Swo ltSv := by
  refine ⟨fun x y h => ?_, fun x y z h1 h2 => ?_⟩
  · have a := of_decide_eq_true (p := sv x < sv y) h
    exact decide_eq_false (p := sv y < sv x) (List.lt_asymm a)
  · have a := of_decide_eq_false (p := sv y < sv x) h1
    have b := of_decide_eq_false (p := sv z < sv y) h2
    exact decide_eq_false (p := sv z < sv x) (List.not_lt.mpr (List.le_trans (List.not_lt.mp a) (List.not_lt.mp b)))
theorem strs_mem : ∀ {vs : List Value} {ns : List Str}, StrsAre vs ns → ∀ v ∈ vs, ∃ i t, v = Value.str i t
  | _, _, .nil, v, h => absurd h (by simp)
  | _, _, .cons n t r, v, h => by
    rcases List.mem_cons.mp h with e | h
    · exact ⟨n, t, e⟩
    · exact strs_mem r v h
theorem kord_strs {prog : Program} {w : World} {keys : List Value} {ns : List Str} (h : StrsAre keys ns) : KOrd prog w keys ltSv := by
  refine ⟨swo_str, fun h2 => ?_, fun A s p q hm hm' => ?_⟩
  · match keys, h, h2 with
    | v1 :: v2 :: rest, h, _ => exact keyKind_strs h
    | [], _, h => exact absurd h (by decide)
    | [v], _, h => exact absurd h (by simp)
  · obtain ⟨a, t, e⟩ := strs_mem h _ hm
    obtain ⟨b, u, e'⟩ := strs_mem h _ hm'
    show wpAny (model prog w) A (keyLt' oneType' p.1 q.1) (fun r s' => s' = s ∧ r = ltSv p.1 q.1) (fun _ _ => False) s
    rw [e, e', keyLt'_oneType]
    exact oneLt_str ⟨rfl, rfl⟩
section
variable {prog : Program} {w : World} {A : Around} {E : Value → Shared → Prop} {s : Shared}
/-- the list written anew -/
theorem key_tail {a kS : Addr} {e e1 : Nat} {vs keys : List Value} {st : SortSt} {R : PySem.Fin → Shared → Prop} (hl : keys.length = vs.length) (hz : vs.length ≤ sizeLine) (hka : kS ≠ a)
    (hk : s.heap.get? kS = some (seqObj "list" keys.toArray e)) (ha : s.heap.get? a = some (seqObj "list" #[] e1)) (hp : (arrOf st).toList.Perm (keys.zip vs)) (hfl : failedOf st = none)
    (h : ∀ hm h' : Heap, (∀ b o, b ≠ kS → s.heap.get? b = some o → hm.get? b = some o) → (∃ n, hm.get? kS = some (seqObj "list" #[] n)) → (∀ b o, b ≠ a → hm.get? b = some o → h'.get? b = some o) → (∃ n, h'.get? a = some (seqObj "list" ((arrOf st).toList.map (·.2)).toArray n)) → R (.done (.ret .none)) { s with heap := h' }) :
    wpAny (model prog w) A (ksk_tail a false e1 (.ref kS) st) R E s := by
  have hsz2 : (arrOf st).size = vs.length := by
    rw [← Array.length_toList, hp.length_eq, List.length_zip]
    omega
  have s1 := Heap.SameBut.update s.heap kS (Obj.mapSeq fun _ => (#[] : Array Value))
  have ha1 : (s.heap.update kS (Obj.mapSeq fun _ => (#[] : Array Value))).get? a = some (seqObj "list" #[] e1) := (s1.2 a hka.symm).trans ha
  have s2 := Heap.SameBut.update (s.heap.update kS (Obj.mapSeq fun _ => (#[] : Array Value))) a (Obj.mapSeq fun _ => (arrOf st).map (·.2))
  obtain ⟨c2, hc2⟩ : ∃ c2, ((s.heap.update kS (Obj.mapSeq fun _ => (#[] : Array Value))).update a (Obj.mapSeq fun _ => (arrOf st).map (·.2))).get? a = some (seqObj "list" ((arrOf st).map (·.2)) c2) := ⟨_, get?_update_seq ha1 fun _ => (arrOf st).map (·.2)⟩
  unfold ksk_tail
  try dsimp only
  refine wpAny_bind (listUpdate_at hk rfl ?_ (by rw [List.size_toArray, hl]; exact hz) (Nat.zero_le _))
  refine wpAny_bind (wpAny_letGo ?_)
  refine wpAny_bind (seqEpoch_at ha1 rfl ?_)
  refine wpAny_bind (listUpdate_at ha1 rfl ?_ (Nat.zero_le _) (by simp only [Bool.false_eq_true, if_false, Array.size_map]; omega))
  rw [hfl]
  simp only [bne_self_eq_false, Bool.false_eq_true, if_false]
  refine wpAny_pure (h _ _ (fun b o hb2 z => (s1.2 b hb2).trans z) ⟨_, get?_update_seq hk fun _ => #[]⟩ (fun b o hb z => (s2.2 b hb).trans z) ⟨c2, ?_⟩)
  rw [hc2, ← Array.toList_map, Array.toArray_toList]
/-- behind the keys: the sort, and the list written anew -/
theorem key_end {a kS : Addr} {e e1 : Nat} {vs keys : List Value} {ltk : Value → Value → Bool} {R : PySem.Fin → Shared → Prop} (O : KOrd prog w keys ltk) (hl : keys.length = vs.length) (hz : vs.length ≤ sizeLine) (hka : kS ≠ a)
    (hk : s.heap.get? kS = some (seqObj "list" keys.toArray e)) (ha : s.heap.get? a = some (seqObj "list" #[] e1))
    (h : ∀ (hm h' : Heap) (out : List Keyed), SrtO.Srtd (SrtO.lt2 ltk) out → out.Perm (keys.zip vs) → (∀ b o, b ≠ kS → s.heap.get? b = some o → hm.get? b = some o) → (∃ n, hm.get? kS = some (seqObj "list" #[] n)) → (∀ b o, b ≠ a → hm.get? b = some o → h'.get? b = some o) → (∃ n, h'.get? a = some (seqObj "list" (out.map (·.2)).toArray n)) → R (.done (.ret .none)) { s with heap := h' }) :
    wpAny (model prog w) A (ksk_end a false vs.toArray e1 (.ref kS) keys.toArray) R E s := by
  have hzl : (keys.toArray.zip vs.toArray).toList = keys.zip vs := by simp
  unfold ksk_end
  try dsimp only
  simp only [Bool.false_eq_true, if_false]
  by_cases h2 : vs.toArray.size < 2
  · rw [if_pos h2, if_pos h2]
    refine wpAny_bind (wpAny_pure ?_)
    rw [StateT.run_pure]
    refine wpAny_bind (wpAny_pure ?_)
    try dsimp only
    refine key_tail (st := SortSt.mk' general' (keys.toArray.zip vs.toArray) #[] 7 none) hl hz hka hk ha (by show (keys.toArray.zip vs.toArray).toList.Perm _; rw [hzl]) rfl fun hm h' k1 k2 k3 k4 => h hm h' _ ?_ ?_ k1 k2 k3 k4
    · show List.Pairwise _ (keys.toArray.zip vs.toArray).toList
      rw [hzl]
      rw [List.size_toArray] at h2
      match keys, vs, hl, h2 with
      | [], [], _, _ => exact List.Pairwise.nil
      | [x], [y], _, _ => exact List.pairwise_singleton _ _
      | _ :: _ :: _, _ :: _ :: _, _, h2 => exact absurd h2 (by simp)
    · show (keys.toArray.zip vs.toArray).toList.Perm _
      rw [hzl]
  · rw [if_neg h2, if_neg h2]
    rw [List.size_toArray] at h2
    rw [O.kind (by omega)]
    refine wpAny_bind (wpAny_pure ?_)
    have hall : SrtO.AllL (fun p : Keyed => p.1 ∈ keys) (keys.toArray.zip vs.toArray).toList := fun p hm => by
      rw [hzl] at hm
      exact (List.of_mem_zip (show (p.1, p.2) ∈ keys.zip vs from hm)).1
    refine wpAny_bind (wpAny_mono (SrtO.wpS_sortO (st0 := SortSt.mk' oneType' (keys.toArray.zip vs.toArray) #[] 7 none)
      (Q := fun _ st' => SrtO.Srtd (SrtO.lt2 ltk) (arrOf st').toList ∧ SrtO.Stb (SrtO.lt2 ltk) (arrOf st').toList (keys.toArray.zip vs.toArray).toList ∧ failedOf st' = none) (SrtO.swo2 O.swo) (O.cmp A s) rfl hall rfl rfl fun st' a1 a2 a3 => ⟨a1, a2, a3⟩) ?_ fun _ _ e => e)
    rintro ⟨⟨⟩, st'⟩ s' ⟨rfl, hp1, hp2, hf⟩
    try dsimp only
    have hp3 := hp2.perm
    rw [hzl] at hp3
    exact key_tail hl hz hka hk ha hp3 hf fun hm h' k1 k2 k3 k4 => h hm h' _ hp1 hp3 k1 k2 k3 k4
end
/-- the order of keys -/
def ltV : V → V → Bool
  | .int i, .int j => decide (i < j)
  | .str x, .str y => decide (x.cps.toList < y.cps.toList)
  | _, _ => false
def KeysV (ks : List V) : Prop := (∃ ns : List Int, ks = ns.map V.int) ∨ (∃ xs : List Str, ks = xs.map V.str)
theorem strs_of_vals : ∀ {xs : List Str} {us : List Value}, Vals (xs.map V.str) us → StrsAre us xs
  | [], _, h => by
    cases h
    exact .nil
  | x :: xs, _, h => by
    cases h with
    | cons r t =>
      obtain ⟨k, rfl⟩ := (show ∃ k, _ = Value.str x k from r)
      exact .cons x k (strs_of_vals t)
theorem kord_of {prog : Program} {w : World} {ks : List V} {us : List Value} (h : KeysV ks) (r : Vals ks us) : ∃ ltk, KOrd prog w us ltk ∧ ∀ (i j : Nat) (k l : V) (u v : Value), ks[i]? = some k → ks[j]? = some l → RelV k u → RelV l v → ltk u v = ltV k l := by
  rcases h with ⟨ns, rfl⟩ | ⟨xs, rfl⟩
  · refine ⟨SrtO.ltIv, kord_ints r.ints, fun i j k l u v hk hl ru rv => ?_⟩
    rw [List.getElem?_map] at hk hl
    obtain ⟨n, _, rfl⟩ := Option.map_eq_some_iff.mp hk
    obtain ⟨m, _, rfl⟩ := Option.map_eq_some_iff.mp hl
    obtain ⟨t, rfl⟩ := (show ∃ t, u = Value.int n t from ru)
    obtain ⟨t', rfl⟩ := (show ∃ t, v = Value.int m t from rv)
    rfl
  · refine ⟨ltSv, kord_strs (strs_of_vals r), fun i j k l u v hk hl ru rv => ?_⟩
    rw [List.getElem?_map] at hk hl
    obtain ⟨n, _, rfl⟩ := Option.map_eq_some_iff.mp hk
    obtain ⟨m, _, rfl⟩ := Option.map_eq_some_iff.mp hl
    obtain ⟨t, rfl⟩ := (show ∃ t, u = Value.str n t from ru)
    obtain ⟨t', rfl⟩ := (show ∃ t, v = Value.str m t from rv)
    rfl
section
variable {X : Cx} {n : Nat} {f : Addr} {sp : Sp}
def rSortK (K : PySem.W.Frag) (f : Addr) (sp : Sp) : List V → List V → Hp → VK → Prop := fun vs zs H Q => ∃ (a : Addr) (xs ks : List V), vs = [.ref a] ∧ zs = [.ref f] ∧ (SqL K H a xs ∨ SqT K H a xs) ∧ ks.length = xs.length ∧ KeysV ks ∧
  (∀ (i : Nat) (x k : V), xs[i]? = some x → ks[i]? = some k → ∀ Q' : VK, Q' k H → sp [x] H Q' E0) ∧
  ∀ (ps : List (V × V)) (p : Addr) (H' : Hp), ps.Perm (ks.zip xs) → ps.Pairwise (fun p q => ltV q.1 p.1 = false) → H p = none → (∀ b o, H b = some o → H' b = some o) → H' p = some (.lst (ps.map (·.2))) → Q (.ref p) H'
/-- the keys, one by one -/
theorem key_loop {pins : List (Addr × Obj)} {s : Shared} {σ : L2.St} {H : Hp} {a kS : Addr} {e1 : Nat} {xs ks : List V} {us : List Value} {R : PySem.Fin → Shared → Prop} {A : Around} {E : Value → Shared → Prop}
    (F : FnR X.prog X.w X.K X.mg X.base CX0 n f sp) (hA : A = X.A.in1.in1) (hr : Room n A) (hx : Passes CX0 X E0) (hl : ks.length = xs.length) (hv : Vals xs us) (hz : xs.length ≤ sizeLine)
    (hsp : ∀ (i : Nat) (x k : V), xs[i]? = some x → ks[i]? = some k → ∀ Q' : VK, Q' k H → sp [x] H Q' E0) (hka : kS ≠ a) (fa : FpOk X pins H a) (fk : FpOk X pins H kS)
    (I : Inv X (pins ++ [(kS, seqObj "list" #[] 0), (a, seqObj "list" #[] e1)]) σ H s)
    (h : ∀ (s' : Shared) (keys : List Value) (e : Nat), Inv X (pins ++ [(kS, seqObj "list" keys.toArray e), (a, seqObj "list" #[] e1)]) σ H s' → Vals ks keys → wpAny (model X.prog X.w) A (ksk_end a false us.toArray e1 (.ref kS) keys.toArray) R E s') :
    wpAny (model X.prog X.w) A (ksk_rest a (.ref f) false us.toArray e1 (.ref kS)) R E s := by
  have hlu : us.length = xs.length := hv.length.symm
  unfold ksk_rest
  refine wpAny_bind (wpAny_rule ?_)
  rw [List.forIn_toArray]
  refine wpAny_bind (ksk_fold (fun i s' => ∃ (kA : List Value) (e : Nat), Inv X (pins ++ [(kS, seqObj "list" kA.toArray e), (a, seqObj "list" #[] e1)]) σ H s' ∧ Vals (ks.take i) kA) us 0 s ⟨[], 0, I, by simpa using Paired.nil⟩ ?step ?done)
  case step =>
    rintro j x s' hx' ⟨kA, e, I', hk⟩
    simp only [Nat.zero_add] at hk ⊢
    have hj : j < us.length := (List.getElem?_eq_some_iff.mp hx').1
    obtain ⟨k, hkj⟩ : ∃ k, ks[j]? = some k := ⟨_, List.getElem?_eq_getElem (by omega)⟩
    obtain ⟨xv, hxj, rx⟩ : ∃ xv, xs[j]? = some xv ∧ RelV xv x := by
      have hjx : j < xs.length := by omega
      obtain ⟨u, hu, ru⟩ := hv.get (List.getElem?_eq_getElem hjx)
      rw [hx'] at hu
      cases hu
      exact ⟨_, List.getElem?_eq_getElem hjx, ru⟩
    have e0 : Env0 X.prog X.w X.K X.mg X.base A X.stack s' H := by
      rw [hA]
      exact I'.env0.in1.in1
    have hc : codeAny (model X.prog X.w) A (.call (.ref f) ⟨[x], []⟩) (fun r s'' => match r with | .ok (.ret u) => EP X (pins ++ [(kS, seqObj "list" kA.toArray e), (a, seqObj "list" #[] e1)]) σ (fun v H' => v = k ∧ H' = H) u s'' | .ok _ => False | .error _ => False) s' := by
      refine codeAny_mono (F A X.stack s' H [x] [xv] (fun v H' => v = k ∧ H' = H) E0 hr e0 (.cons rx .nil) (hsp j xv k hxj hkj _ ⟨rfl, rfl⟩)) fun r s'' hq => ?_
      cases r with
      | error e => exact hq
      | ok fl =>
        cases fl with
        | ret u => exact I'.after hq
        | next => exact hq
        | brk => exact hq
        | cont => exact hq
    refine wpAny_bind (wpAny_attempt (wpAny_mono (wpAny_call (E := fun _ _ => False) hc) (fun u s'' he => ?_) fun _ _ hF => hF.elim))
    obtain ⟨v, H'', I2, ru, rfl, rfl⟩ := he
    obtain ⟨nk, hnk, k1, k2, k3⟩ := I2.pin (kS, seqObj "list" kA.toArray e) (by simp)
    obtain ⟨na, hna, a1, a2, a3⟩ := I2.pin (a, seqObj "list" #[] e1) (by simp)
    obtain ⟨g, gg, gd, gt, gos⟩ := s''
    have s1 := Heap.SameBut.update g kS (Obj.mapSeq (·.push u))
    obtain ⟨c2, hc2⟩ : ∃ c2, (g.update kS (Obj.mapSeq (·.push u))).get? kS = some (seqObj "list" (kA.toArray.push u) c2) := ⟨_, get?_update_seq nk (·.push u)⟩
    have hkl : kA.length ≤ xs.length := by
      have := hk.length
      rw [List.length_take] at this
      omega
    refine wpAny_bind (listUpdate_at nk rfl ?_ (by rw [List.size_toArray]; omega) (by rw [Array.size_push, List.size_toArray]; omega))
    have hpush : kA.toArray.push u = (kA ++ [u]).toArray := by simp
    refine wpAny_pure ⟨rfl, kA ++ [u], c2, ?_, ?_⟩
    · have I3 : Inv X pins σ H'' ⟨g, gg, gd, gt, gos⟩ := I2.unpinned
      obtain ⟨f0, f1, f2, f3, f4, f5⟩ := fk
      have I4 : Inv X pins σ H'' ⟨g.update kS (Obj.mapSeq (·.push u)), gg, gd, gt, gos⟩ := I3.turned (t' := gt) (fun b o hb z => (s1.2 b hb).trans z) f0 f1 f3 f4 f5
      refine I4.pins_of fun p hp => ?_
      rcases List.mem_append.mp hp with hp | hp
      · exact I4.pin p (List.mem_append_right _ hp)
      · rcases List.mem_cons.mp hp with rfl | hp
        · exact ⟨by rw [← hpush]; exact hc2, hnk, k1, k2, fun v z => nomatch z⟩
        · rw [List.mem_singleton.mp hp]
          exact ⟨(s1.2 a hka.symm).trans na, hna, a1, a2, fun v z => nomatch z⟩
    · rw [List.take_add_one, hkj]
      exact hk.append (.cons ru .nil)
  case done =>
    rintro s' ⟨kA, e, I', hk⟩
    have e3 : ks.take (0 + us.length) = ks := List.take_of_length_le (by omega)
    rw [e3] at hk
    obtain ⟨nk, _⟩ := I'.pin (kS, seqObj "list" kA.toArray e) (by simp)
    refine wpAny_bind (listItems_at nk rfl ?_)
    exact h s' kA e I' hk
/-- sorted(xs, key=f) -/
theorem cr_sortKey (F : FnR X.prog X.w X.K X.mg X.base CX0 n f sp) (hr : Room (n + 2) X.A) : CallRK X (.builtin "sorted") [Str.ofString "key"] (rSortK X.K f sp) := by
  intro pins s σ H vs zs us ws Q I r rz h
  obtain ⟨a, xs, ks, rfl, rfl, hS, hl, hK, hsp, q⟩ := h
  obtain rfl := Vals.ref1 r
  obtain rfl := Vals.ref1 rz
  obtain ⟨its, rv, hz, T, o, m, hT, ho, hc, hd⟩ : ∃ its : List Value, Vals xs its ∧ xs.length ≤ sizeLine ∧ ∃ (T : String) (o : Obj) (m : Nat), (T = "list" ∨ T = "tuple") ∧ s.heap.get? a = some o ∧ o.cls = .type T ∧ o.data = .seq its.toArray m := by
    rcases hS with hS | hS
    · obtain ⟨its, rv, p, hz⟩ := I.list hS
      obtain ⟨o, ho, hc, m, hd⟩ := p.isList
      exact ⟨its, rv, hz, "list", o, m, .inl rfl, ho, hc, hd⟩
    · obtain ⟨its, rv, ⟨o, ho, hc, m, hd⟩, hz⟩ := I.tuple hS
      exact ⟨its, rv, hz, "tuple", o, m, .inr rfl, ho, hc, hd⟩
  have hil : its.length = xs.length := rv.length.symm
  refine call_function_entry_kw kind_sorted plain_sorted entry_sorted (ksk_s1 _ _) ?_
  unfold Builtin.«sorted»
  refine wpAny_bind (m := checkCount "sorted" 1 1 _) (wpAny_pure ?_)
  refine wpAny_bind (wpAny_collect_seq a hT ho hc hd (fun h1 k1 => ?_) (by rw [List.size_toArray]; omega))
  refine wpAny_bind (wpAny_newList ?_ (by rw [List.toList_toArray]; omega))
  rw [List.toList_toArray]
  have I1 : Inv X pins σ H { s with heap := h1 } := I.kept (t' := s.toks) k1
  have fa : FpOk X pins H h1.objs.size := I1.fpOk (Nat.le_refl _) (I1.hok.fresh (Nat.le_refl _))
  have hoL : (h1.push (seqObj "list" its.toArray 0)).get? h1.objs.size = some (seqObj "list" its.toArray 0) := Heap.get?_push_size _ rfl
  show wpAny _ _ _ _ _ { s with heap := h1.push (seqObj "list" its.toArray 0) }
  refine wpAny_bind (wpAny_holding (wpAny_call_entry_kw slot_list_sort ⟨_, hoL, rfl⟩ entry_list_sort ?_ (ksk_l1 _ _)))
  show wpAny _ _ (ksk_tree h1.objs.size (.ref f) false) _ _ _
  unfold ksk_tree
  refine wpAny_bind (listItems_at hoL rfl ?_)
  refine wpAny_bind (listUpdate_at hoL rfl ?_ (by rw [List.size_toArray]; omega) (Nat.zero_le _))
  obtain ⟨e1, ho1⟩ : ∃ e1, ((h1.push (seqObj "list" its.toArray 0)).update h1.objs.size (Obj.mapSeq fun _ => #[])).get? h1.objs.size = some (seqObj "list" #[] e1) := ⟨_, get?_update_seq hoL (fun _ => #[])⟩
  refine wpAny_bind (seqEpoch_at ho1 rfl ?_)
  refine wpAny_bind (wpAny_newTuple ?_ (by rw [List.toList_toArray]; omega))
  refine wpAny_bind (wpAny_newList ?_ (Nat.zero_le _))
  refine wpAny_holding ?_
  have k2 : ∀ b o, h1.get? b = some o → ((h1.push (seqObj "list" its.toArray 0)).update h1.objs.size (Obj.mapSeq fun _ => #[])).get? b = some o := fun b o z => by
    rw [Heap.get?_update_ne _ _ _ _ (Nat.ne_of_lt (Heap.lt_size z))]
    exact Heap.get?_push_of_some _ z
  have z2 : ((h1.push (seqObj "list" its.toArray 0)).update h1.objs.size (Obj.mapSeq fun _ => #[])).objs.size = h1.objs.size + 1 := by
    rw [Heap.size_update, Heap.size_push]
  generalize (h1.push (seqObj "list" its.toArray 0)).update h1.objs.size (Obj.mapSeq fun _ => #[]) = h2 at ho1 k2 z2 ⊢
  have hkS : ((h2.push (seqObj "tuple" its.toArray 0)).push (seqObj "list" #[] 0)).get? (h2.objs.size + 1) = some (seqObj "list" #[] 0) := by
    rw [show h2.objs.size + 1 = (h2.push (seqObj "tuple" its.toArray 0)).objs.size by rw [Heap.size_push]]
    exact Heap.get?_push_size _ rfl
  have k3 : ∀ b o, h2.get? b = some o → ((h2.push (seqObj "tuple" its.toArray 0)).push (seqObj "list" #[] 0)).get? b = some o := fun b o z => Heap.get?_push_of_some _ (Heap.get?_push_of_some _ z)
  show wpAny (model X.prog X.w) X.A.in1.in1 (ksk_rest h1.objs.size (.ref f) false its.toArray e1 (.ref (h2.push (seqObj "tuple" its.toArray 0)).objs.size)) _ _ { s with heap := (h2.push (seqObj "tuple" its.toArray 0)).push (seqObj "list" #[] 0) }
  rw [Heap.size_push]
  generalize (h2.push (seqObj "tuple" its.toArray 0)).push (seqObj "list" #[] 0) = h3 at hkS k3 ⊢
  have fk : FpOk X pins H (h2.objs.size + 1) := I1.fpOk (show h1.objs.size ≤ h2.objs.size + 1 by omega) (I1.hok.fresh (show h1.objs.size ≤ h2.objs.size + 1 by omega))
  have I3 : Inv X pins σ H { s with heap := h3 } := I1.kept (t' := s.toks) fun b o z => k3 _ _ (k2 _ _ z)
  have hka : h2.objs.size + 1 ≠ h1.objs.size := by omega
  have I4 : Inv X (pins ++ [(h2.objs.size + 1, seqObj "list" #[] 0), (h1.objs.size, seqObj "list" #[] e1)]) σ H { s with heap := h3 } := by
    refine I3.pins_of fun p hp => ?_
    rcases List.mem_append.mp hp with hp | hp
    · exact I3.pin p (List.mem_append_right _ hp)
    · rcases List.mem_cons.mp hp with rfl | hp
      · exact ⟨hkS, fk.1, fk.2.1, fk.2.2.1, fun v z => nomatch z⟩
      · rw [List.mem_singleton.mp hp]
        exact ⟨k3 _ _ ho1, fa.1, fa.2.1, fa.2.2.1, fun v z => nomatch z⟩
  refine key_loop F rfl (show Room n X.A.in1.in1 from (show Room (n + 1) X.A.in1 from Room.in1 hr).in1) pass0 hl rv hz hsp hka fa fk I4 fun s' keys e I5 rk => ?_
  obtain ⟨ltk, O, hlt⟩ := kord_of (prog := X.prog) (w := X.w) hK rk
  obtain ⟨nk, _⟩ := I5.pin (h2.objs.size + 1, seqObj "list" keys.toArray e) (by simp)
  obtain ⟨na, _⟩ := I5.pin (h1.objs.size, seqObj "list" #[] e1) (by simp)
  refine key_end O (by rw [← rk.length]; omega) (by omega) hka nk na fun hm h' out o1 o2 m1 m2 m3 m4 => ⟨_, rfl, wpAny_pure ⟨_, rfl, ?_⟩⟩
  obtain ⟨n1, m2⟩ := m2
  obtain ⟨n2, m4⟩ := m4
  -- back to values
  obtain ⟨L, pL, eL⟩ := perm_lift (fun z : (V × V) × Keyed => z.2) o2 ((ks.zip xs).zip (keys.zip its)) (by rw [List.map_snd_zip]; simp only [List.length_zip]; have := rk.length; omega)
  have hrel : ∀ z ∈ L, RelV z.1.1 z.2.1 ∧ RelV z.1.2 z.2.2 ∧ ∃ i : Nat, ks[i]? = some z.1.1 := by
    intro z hz'
    obtain ⟨i, hi⟩ := List.mem_iff_getElem?.mp (pL.mem_iff.mp hz')
    obtain ⟨h1', h2'⟩ := List.getElem?_zip_eq_some.mp hi
    obtain ⟨a1, a2⟩ := List.getElem?_zip_eq_some.mp h1'
    obtain ⟨b1, b2⟩ := List.getElem?_zip_eq_some.mp h2'
    obtain ⟨u, c1, c2⟩ := rk.get a1
    rw [b1] at c1
    cases c1
    obtain ⟨u', d1, d2⟩ := rv.get a2
    rw [b2] at d1
    cases d1
    exact ⟨c2, d2, i, a1⟩
  have I6 : Inv X pins σ H s' := I5.unpinned
  have I7 : Inv X pins σ (upd H (h2.objs.size + 1) (.lst [])) { s' with heap := hm } := I6.take (h' := hm) (t' := s'.toks) (fun b o hb z => m1 b o hb z) fk ⟨Nat.zero_le _, [], n1, .nil, m2⟩
  have fa' : FpOk X pins (upd H (h2.objs.size + 1) (.lst [])) h1.objs.size := ⟨by rw [upd_ne hka.symm]; exact fa.1, fa.2⟩
  have rv' : Vals ((L.map (·.1)).map (·.2)) (out.map (·.2)) := by
    rw [← eL, List.map_map, List.map_map]
    clear eL pL o1 o2 m4
    induction L with
    | nil => exact .nil
    | cons z L ih => exact .cons (hrel z (by simp)).2.1 (ih fun y hy => hrel y (by simp [hy]))
  have hlen : ((L.map (·.1)).map (·.2)).length ≤ sizeLine := by
    rw [List.length_map, List.length_map, pL.length_eq, List.length_zip, List.length_zip]
    omega
  have I8 : Inv X pins σ (upd (upd H (h2.objs.size + 1) (.lst [])) h1.objs.size (.lst ((L.map (·.1)).map (·.2)))) { s' with heap := h' } :=
    I7.take (h' := h') (t' := s'.toks) (fun b o hb z => m3 b o hb z) fa' ⟨hlen, out.map (·.2), n2, rv', m4⟩
  refine ⟨.ref h1.objs.size, _, I8, rfl, q (L.map (·.1)) h1.objs.size _ ?_ ?_ fa.1 (fun b o z => ?_) upd_same⟩
  · have := pL.map (·.1)
    rwa [List.map_fst_zip (by simp only [List.length_zip]; have := rk.length; omega)] at this
  · rw [List.pairwise_map]
    have o1' := o1
    rw [← eL] at o1'
    have o3 := List.pairwise_map.mp o1'
    refine List.Pairwise.imp_of_mem (fun {x y} hx hy h => ?_) o3
    obtain ⟨x1, _, i, hi⟩ := hrel x hx
    obtain ⟨y1, _, j, hj⟩ := hrel y hy
    rw [← hlt j i _ _ _ _ hj hi y1 x1]
    exact h
  · rw [upd_ne (fun z' => by rw [z', fa.1] at z; cases z), upd_ne (fun z' => by rw [z', fk.1] at z; cases z)]
    exact z
end
end Fm
/-! enumerate of a tuple -/
namespace Fm
open PySem PySem.Spec PyProof.Rows L2
section
variable {prog : Program} {w : World} {A : Around} {E : Value → Shared → Prop} {s : Shared}
theorem nx_tup_item {it t : Addr} {i : Nat} {items : Array Value} {x : Value} {Q : Value → Shared → Prop} (hit : s.heap.IsTupleIter it t i) (ht : s.heap.IsTuple t items) (hx : items[i]? = some x)
    (hQ : ∀ h', h'.IsTupleIter it t (i + 1) → Heap.SameBut it s.heap h' → Q x { s with heap := h' }) : wpAny (model prog w) A (Builtin.SmallTypes.nextOf (.ref it)) Q E s := by
  obtain ⟨o, ho, hc, hd⟩ := id hit
  obtain ⟨ol, hol, _, nl, hdl⟩ := ht
  unfold Builtin.SmallTypes.nextOf
  refine wpAny_bind (wpAny_callSpecial?_slot (name := Str.ofString "__next__") hit.typeIs PySem.F.slot_tuple_iterator_next
    (wpAny_call_entry PySem.F.slot_tuple_iterator_next hit.typeIs PySem.F.entry_tuple_iterator_next ?_ (PySem.F.args_tuple_iterator_next_1 _)))
  show wpAny (model prog w) _ (field (.ref it) 0 >>= _) _ _ s
  refine wpAny_bind (wpAny_field ho hd (x := .ref t) rfl ?_)
  show wpAny (model prog w) _ (if (Value.ref t == Value.none) = true then _ else _) _ _ s
  rw [if_neg (show ¬ ((Value.ref t == Value.none) = true) from Bool.false_ne_true)]
  show wpAny (model prog w) _ (field (.ref it) 1 >>= _) _ _ s
  refine wpAny_bind (wpAny_field ho hd (x := .int i 0) rfl ?_)
  show wpAny (model prog w) _ (seqItems? (.ref t) >>= _) _ _ s
  refine wpAny_bind (wpAny_seqItems hol hdl ?_)
  simp only [Int.toNat_natCast, hx]
  refine wpAny_bind (wpAny_setField ho hd (by simp) (wpAny_pure ⟨x, rfl, wpAny_pure (hQ _ ?_ (Heap.SameBut.update ..))⟩))
  refine ⟨_, Heap.get?_update_self _ ho (Obj.isFreed_of_fields (Obj.data_mapFields hd _)), (Obj.cls_mapFields ..).trans hc, ?_⟩
  rw [Obj.data_mapFields hd]
  simp [rawInt]
theorem nx_tup_end {it t : Addr} {i : Nat} {items : Array Value} {Q : Value → Shared → Prop} (hh : A.handled = none) (hit : s.heap.IsTupleIter it t i) (ht : s.heap.IsTuple t items) (hx : items[i]? = none)
    (hE : ∀ h' e, Heap.ExtBut it s.heap h' → (∃ o, h'.get? e = some o ∧ o.cls = .type "StopIteration") → E (.ref e) { s with heap := h' }) : wpAny (model prog w) A (Builtin.SmallTypes.nextOf (.ref it)) Q E s := by
  obtain ⟨o, ho, hc, hd⟩ := id hit
  obtain ⟨ol, hol, _, nl, hdl⟩ := ht
  unfold Builtin.SmallTypes.nextOf
  refine wpAny_bind (wpAny_callSpecial?_slot (name := Str.ofString "__next__") hit.typeIs PySem.F.slot_tuple_iterator_next
    (wpAny_call_entry PySem.F.slot_tuple_iterator_next hit.typeIs PySem.F.entry_tuple_iterator_next ?_ (PySem.F.args_tuple_iterator_next_1 _)))
  show wpAny (model prog w) _ (field (.ref it) 0 >>= _) _ _ s
  refine wpAny_bind (wpAny_field ho hd (x := .ref t) rfl ?_)
  show wpAny (model prog w) _ (if (Value.ref t == Value.none) = true then _ else _) _ _ s
  rw [if_neg (show ¬ ((Value.ref t == Value.none) = true) from Bool.false_ne_true)]
  show wpAny (model prog w) _ (field (.ref it) 1 >>= _) _ _ s
  refine wpAny_bind (wpAny_field ho hd (x := .int i 0) rfl ?_)
  show wpAny (model prog w) _ (seqItems? (.ref t) >>= _) _ _ s
  refine wpAny_bind (wpAny_seqItems hol hdl ?_)
  simp only [Int.toNat_natCast, hx]
  refine wpAny_bind (wpAny_rule (wpAny_bind (wpAny_setField ho hd (by simp) ?_)))
  show wpAny (model prog w) _ (newExc (.type "StopIteration") [] >>= _) _ _ _
  refine wpAny_bind ?_
  simp only [newExc, newTuple]
  refine wpAny_bind (wpAny_newObj_type ?_ (by size_fits))
  refine wpAny_bind (m := firstArgMember _ _) (wpAny_of_eq (a := Value.none) (by first | rfl | (simp only [firstArgMember]; rfl)) ?_)
  refine wpAny_newObj_type ?_ (by size_fits)
  simp only [raiseNew]
  refine wpAny_bind (wpAny_handled ?_)
  first | rw [show A.in1.handled = none from hh] | rw [hh]
  refine wpAny_bind (wpAny_pure (wpAny_throw ?_))
  exact hE _ _ (((Heap.SameBut.update ..).extBut.push _).push _) ⟨_, Heap.get?_push_size _ rfl, rfl⟩
end
theorem draws_tup {prog : Program} {w : World} {A : Around} (hh : A.handled = none) (it t : Addr) (hne : t ≠ it) (items : Array Value) :
    Draws prog w A it [it, t] items.size (fun i v => items[i]? = some v) (fun i h => h.IsTupleIter it t i ∧ h.IsTuple t items) where
  live := fun _ _ st => let ⟨o, ho, _⟩ := st.1; ⟨o, ho⟩
  frame := fun _ _ _ st hk => ⟨st.1.at fun o e => hk it (by simp) o e, let ⟨o, ho, r⟩ := st.2; ⟨o, hk t (by simp) o ho, r⟩⟩
  item := fun i s Q E hi st hQ => by
    refine nx_tup_item st.1 st.2 (x := items[i]) (by simp [hi]) fun h' hit' hs' => ?_
    exact hQ _ h' s.toks (by simp [hi]) ⟨hit', let ⟨o, ho, r⟩ := st.2; ⟨o, (hs'.2 t hne).trans ho, r⟩⟩ hs'
  done := fun s Q E st hE => nx_tup_end hh st.1 st.2 (by simp) hE
theorem enum_newT (l : Addr) (items : Array Value) (n : Nat) (dct : Option Addr) (sl : Array (Option Value)) :
    Meets (Builtin.«enumerate.__new__» ⟨[.type "enumerate", .ref l], []⟩) (fun _ R s => s.heap.get? l = some { cls := .type "tuple", dict := dct, data := .seq items n, slots := sl } ∧
      R (.ok (.ret (.ref (s.heap.push { cls := .type "tuple_iterator", data := .fields #[.ref l, .int 0 0] }).objs.size)))
        { s with heap := (s.heap.push { cls := .type "tuple_iterator", data := .fields #[.ref l, .int 0 0] }).push { cls := .type "enumerate", data := .fields #[.none, .bool false, .ref s.heap.objs.size, rawInt 0, .none, .none] } }) :=
  .of_wp fun prog w A R s h => by
    obtain ⟨hp, g, d, tk, os⟩ := s
    obtain ⟨hl, h⟩ := h
    have hsub := sub_enumerate
    have hL : Heap.IsTuple (Shared.heap ⟨hp, g, d, tk, os⟩) l items := ⟨_, hl, rfl, n, rfl⟩
    wp_walk using AutoSeq1.wpAny_loadPart' hl
    refine wpAny_stack_any fun st => wpAny_pure ?_
    split
    · rename_i c _ _ _ _ _
      cases (c == Value.type "enumerate")
      · wp_walk using AutoSeq1.wpAny_loadPart' hl, wpAny_pyIter_tuple hL
        exact ⟨_, rfl, h⟩
      · wp_walk using AutoSeq1.wpAny_loadPart' hl, wpAny_pyIter_tuple hL
        exact ⟨_, rfl, h⟩
    · wp_walk using AutoSeq1.wpAny_loadPart' hl, wpAny_pyIter_tuple hL
      exact ⟨_, rfl, h⟩
theorem call_enumT {prog : Program} {w : World} {A : Around} {E : Value → Shared → Prop} {s : Shared} {l : Addr} {items : Array Value} {Q : Value → Shared → Prop} (hL : s.heap.IsTuple l items)
    (h : ∀ h', IsEnum h' (s.heap.objs.size + 1) s.heap.objs.size 0 .none → h'.IsTupleIter s.heap.objs.size l 0 → h'.objs.size = s.heap.objs.size + 2 →
      (∀ b o, s.heap.get? b = some o → h'.get? b = some o) → Q (.ref (s.heap.objs.size + 1)) { s with heap := h' }) :
    wpAny (model prog w) A (call (.type "enumerate") [.ref l]) Q E s := by
  obtain ⟨⟨c, dct, dt, sl⟩, hl, hc, n, hd⟩ := hL
  simp only at hc hd
  subst hc hd
  refine callType_new PySem.F.called_enumerate (by decide) (PySem.F.typeCall_enumerate_1 _) (PySem.F.newCall_enumerate_1 _) (fun obj => PySem.F.args_object_init_2 obj _) PySem.F.entry_enumerate_new (enum_newT l items n dct sl) ⟨hl, ?_⟩
  have hz : (s.heap.push { cls := .type "tuple_iterator", data := .fields #[.ref l, .int 0 0] }).objs.size = s.heap.objs.size + 1 := Heap.size_push ..
  show _ ∧ _
  rw [hz]
  have he : IsEnum ((s.heap.push { cls := .type "tuple_iterator", data := .fields #[.ref l, .int 0 0] }).push { cls := .type "enumerate", data := .fields #[.none, .bool false, .ref s.heap.objs.size, rawInt 0, .none, .none] }) (s.heap.objs.size + 1) s.heap.objs.size 0 .none := by
    have := Heap.get?_push_size (s.heap.push { cls := .type "tuple_iterator", data := .fields #[.ref l, .int 0 0] })
      (o := { cls := .type "enumerate", data := .fields #[.none, .bool false, .ref s.heap.objs.size, rawInt 0, .none, .none] }) rfl
    rw [hz] at this
    exact this
  refine ⟨⟨_, he, rfl⟩, h _ he ⟨_, Heap.get?_push_of_some _ (Heap.get?_push_size _ rfl), rfl, rfl⟩ (by rw [Heap.size_push, hz]) fun b o x => Heap.get?_push_of_some _ (Heap.get?_push_of_some _ x)⟩
theorem enum_endT {prog : Program} {w : World} {A : Around} {E : Value → Shared → Prop} {s : Shared} {e it l : Addr} {i : Nat} {items : Array Value} {old : Value} {Q : Option Value → Shared → Prop} (hh : A.handled = none)
    (he : IsEnum s.heap e it i old) (hit : s.heap.IsTupleIter it l i) (hl : s.heap.IsTuple l items) (hx : items[i]? = none) (hQ : ∀ h', Heap.ExtBut it s.heap h' → Q none { s with heap := h' }) : wpAny (model prog w) A (pyNext (.ref e)) Q E s := by
  have hT : s.TypeIs (.ref e) "enumerate" := ⟨_, he, rfl⟩
  unfold pyNext
  refine wpAny_bind (wpAny_attempt (wpAny_callSpecial?_slot (name := Str.ofString "__next__") hT PySem.F.slot_enumerate_next
    (wpAny_call_entry PySem.F.slot_enumerate_next hT PySem.F.entry_enumerate_next ?_ (PySem.F.args_enumerate_next_1 _))))
  show wpAny (model prog w) _ (field (.ref e) 2 >>= _) _ _ _
  refine wpAny_bind (wpAny_field he rfl (x := .ref it) rfl ?_)
  refine wpAny_bind (nx_tup_end hh hit hl hx fun h' x he' hx' => ?_)
  obtain ⟨o, ho, hc⟩ := hx'
  refine wpAny_bind (wpAny_isInstance (T := "StopIteration") (b := true) ⟨o, ho, hc⟩ isSubtype_stop ?_)
  exact wpAny_pure (hQ _ he')
/-- the tuple at a, its items in new pairs -/
def IteT (K : PySem.W.Frag) (a : Addr) : It :=
  ⟨fun i H => ∃ (xs : List V) (x : V), SqT K H a xs ∧ xs[i]? = some x, fun i H v H' => ∃ T x, v = .ref T ∧ H T = none ∧ H' = upd H T (.tup [.int (i : Nat), x]) ∧ ∀ xs, SqT K H a xs → xs[i]? = some x, fun i H => ∃ xs : List V, SqT K H a xs ∧ xs.length ≤ i⟩
theorem turn_enumT {P : Program} {w : World} {K : PySem.W.Frag} {elts : List Expr} {kk : Nat} {tpos : Pos} (a e it : Addr) (hai : a ≠ it) (hae : a ≠ e) :
    Turn P w K (.Tuple elts kk tpos) (IteT K a) [e, it] e (fun i h => (∃ old, IsEnum h e it ((i : Nat) : Int) old) ∧ h.IsTupleIter it a i ∧ e ≠ it) where
  mem := by simp
  obj := fun i h st b hb => by
    obtain ⟨⟨old, he⟩, ⟨o, ho, hc, hd⟩, _⟩ := st
    have e' : b = e ∨ b = it := by simpa using hb
    rcases e' with z | z
    · rw [z]; exact ⟨_, he, fun v q => nomatch q⟩
    · rw [z]; exact ⟨o, ho, fun v q => by rw [hd] at q; cases q⟩
  keep := fun i h h' st k => let ⟨⟨old, he⟩, hi, hne⟩ := st; ⟨⟨old, k e (by simp) _ he⟩, hi.at fun o q => k it (by simp) o q, hne⟩
  item := by
    intro X hP hw hK hc i pins s σ H E I hf st hg
    subst hP hw hK
    obtain ⟨⟨old, he⟩, hit, hne⟩ := st
    obtain ⟨xs, x, hq, hx⟩ := hg
    obtain ⟨its, rv, p, hz⟩ := I.tuple hq
    obtain ⟨u, hu, ru⟩ := rv.get hx
    have hT0 : s.heap.IsTuple a its.toArray := p
    have hel : e < s.heap.objs.size := Heap.lt_size he
    have hil : it < s.heap.objs.size := by obtain ⟨_, q, _⟩ := hit; exact Heap.lt_size q
    have hiz : i < its.toArray.size := by
      rw [List.size_toArray]
      exact (List.getElem?_eq_some_iff.mp hu).1
    refine wpAny_pyNext_enum_itemD (draws_tup (show X.A.in1.handled = none from I.ok.hd hc) it a hai its.toArray) he ⟨hit, hT0⟩ hiz hne (by simp [hne, hae.symm]) fun x' h' tk hP' ho hst' hT hsz hk => ?_
    have ex : x' = u := by
      have : its.toArray[i]? = some x' := hP'
      rw [List.getElem?_toArray, hu] at this
      exact (Option.some.inj this).symm
    subst ex
    refine ⟨_, rfl, wpAny_letOwnedTupleGo_enum (s := { s with heap := h', toks := tk + 1 }) ho fun h'' he' sb => ?_⟩
    have hT2 : h''.get? s.heap.objs.size = some { cls := .type "tuple", data := .seq #[.int i tk, x'] } := (sb.2 _ (Nat.ne_of_gt hel)).trans hT
    have new : ObjOk X.prog X.w (upd H s.heap.objs.size (.tup [.int (i : Nat), x])) h'' s.heap.objs.size (.tup [.int (i : Nat), x]) :=
      ⟨by show 2 ≤ sizeLine; decide, [.int i tk, x'], .cons ⟨_, rfl⟩ (.cons ru .nil), ⟨_, hT2, rfl, _, rfl⟩⟩
    have I1 : Inv X pins σ (upd H s.heap.objs.size (.tup [.int (i : Nat), x])) { s with heap := h'', toks := tk + 1 } :=
      I.turnedNew (ch := [e, it]) (fun b ob hb q => (sb.2 b (fun z => hb (by simp [z]))).trans (hk b ob (fun z => hb (by simp [z])) (fun z => hb (by simp [z])) q)) hf (Nat.le_refl _) new
    refine ⟨.ref s.heap.objs.size, _, I1, rfl, ⟨_, x, rfl, I.hok.fresh (Nat.le_refl _), rfl, fun ys hy => by rw [I.tuple_inj hy hq]; exact hx⟩, ⟨⟨x', ?_⟩, hst'.1.at fun o q => (sb.2 it (Ne.symm hne)).trans q, hne⟩, fun b hb => ?_⟩
    · have e1 : ((i + 1 : Nat) : Int) = (i : Int) + 1 := by omega
      rw [e1]
      exact he'
    · have hb' : b < s.heap.objs.size := by
        have e' : b = e ∨ b = it := by simpa using hb
        rcases e' with z | z
        · rw [z]; exact hel
        · rw [z]; exact hil
      rw [upd_ne (Nat.ne_of_lt hb')]
      exact (hf b hb).1
  done := by
    intro X hP hw hK hc i pins s σ H E I hf st hg
    subst hP hw hK
    obtain ⟨⟨old, he⟩, hit, hne⟩ := st
    obtain ⟨xs, hq, hx⟩ := hg
    obtain ⟨its, rv, p, hz⟩ := I.tuple hq
    obtain ⟨f0, f1, f2, f3, f4, f5⟩ := hf it (by simp)
    have hl := rv.length
    have hT0 : s.heap.IsTuple a its.toArray := p
    exact enum_endT (I.ok.hd hc) he hit hT0 (by simp; omega) fun h' eb => ⟨rfl, I.turned (t' := s.toks) (fun b o hb q => eb b o hb q) f0 f1 f3 f4 f5⟩
  self := fun A i s Q E st h => let ⟨⟨_, he⟩, _⟩ := st; wpAny_pyIter_enum he h
def iEnumG (K : PySem.W.Frag) (ta : TA) : TI := fun σ H R => ta σ H fun vs H1 => ∃ a xs, vs = [.ref a] ∧ ((SqL K H1 a xs ∧ R (Ite K a) H1) ∨ (SqT K H1 a xs ∧ R (IteT K a) H1))
theorem bt_enumerate : bootBuiltins "enumerate" = some (.type "enumerate") := by decide +kernel
theorem pi_enumG {X : Cx} {e : Expr} {ta : TA} {p pos tpos : Pos} {elts : List Expr} {kk : Nat} (hg : Gl X "enumerate") (hm : X.mg "enumerate" = none) (ha : PA X [e] ta) (hs : starEach [e] X.env = [(false, eval e X.env)] := by rfl) :
    PI X (.Tuple elts kk tpos) (.Call (.Name "enumerate" p) [e] [] pos) (iEnumG X.K ta) := by
  refine ⟨fun pins s σ H R I h => ?_⟩
  refine Call_ (ld_blt I hg hm bt_enumerate (PyProof.Rows.callWith_type1 (thn (ha.run pos pins s σ H _ I h) fun us s1 ⟨vs, H1, I1, r1, q1⟩ => ?_) hs rfl))
  obtain ⟨a, xs, rfl, q⟩ := q1
  obtain rfl := Vals.ref1 r1
  have fp : ∀ b ∈ [s1.heap.objs.size + 1, s1.heap.objs.size], FpOk X pins H1 b := fun b hb => by
    have hle : s1.heap.objs.size ≤ b := by
      rcases (show b = s1.heap.objs.size + 1 ∨ b = s1.heap.objs.size by simpa using hb) with z | z <;> omega
    exact I1.fpOk hle (I1.hok.fresh hle)
  rcases q with ⟨hq, q⟩ | ⟨hq, q⟩
  · obtain ⟨its, rv, p', hz⟩ := I1.list hq
    refine call_enumerate_list p'.isList fun h' he hit hsz hk => wpAny_pyIter_enum he ?_
    have I2 : Inv X pins σ H1 { s1 with heap := h' } := I1.kept (t' := s1.toks) hk
    exact ⟨s1.heap.objs.size + 1, [s1.heap.objs.size + 1, s1.heap.objs.size], _, _, H1, rfl, I2, turn_enum a (s1.heap.objs.size + 1) s1.heap.objs.size, ⟨⟨.none, he⟩, hit, Nat.succ_ne_self _⟩, fp, q⟩
  · obtain ⟨its, rv, p', hz⟩ := I1.tuple hq
    have hT0 : s1.heap.IsTuple a its.toArray := p'
    have hal : a < s1.heap.objs.size := by
      obtain ⟨o, ho, _⟩ := hT0
      exact Heap.lt_size ho
    refine call_enumT hT0 fun h' he hit hsz hk => wpAny_pyIter_enum he ?_
    have I2 : Inv X pins σ H1 { s1 with heap := h' } := I1.kept (t' := s1.toks) hk
    exact ⟨s1.heap.objs.size + 1, [s1.heap.objs.size + 1, s1.heap.objs.size], _, _, H1, rfl, I2, turn_enumT a (s1.heap.objs.size + 1) s1.heap.objs.size (Nat.ne_of_lt hal) (Nat.ne_of_lt (Nat.lt_succ_of_lt hal)), ⟨⟨.none, he⟩, hit, Nat.succ_ne_self _⟩, fp, q⟩
/-- a loop over enumerate of a list or tuple that stays -/
theorem for_enumG {K : PySem.W.Frag} {a : Addr} {xs : List V} {g : TG} {tb : TS} {D : Ends} {σ : L2.St} {H : Hp} {R : Prop} (hS : SqL K H a xs ∨ SqT K H a xs) (Pv : Nat → L2.St → Hp → Prop) (h0 : Pv 0 σ H) (hk : ∀ i σ' H', Pv i σ' H' → Mv [] H H')
    (hs : ∀ i x T σ' H', xs[i]? = some x → Pv i σ' H' → H' T = none → g (.ref T) σ' (upd H' T (.tup [.int (i : Nat), x])) fun σ2 H2 => tb { D with nx := Pv (i + 1), ct := Pv (i + 1), bk := D.nx } σ2 H2) (hd : ∀ σ' H', Pv xs.length σ' H' → D.nx σ' H') :
    (SqL K H a xs ∧ ∃ W : Nat → Nat → L2.St → Hp → Prop, (∃ m, W 0 m σ H) ∧ ∀ i m σ H, W i m σ H →
      ((Ite K a).stop i H ∧ D.nx σ H) ∨ ((Ite K a).go i H ∧ ∃ N : L2.St → Hp → Prop, (∀ σ' H', N σ' H' → ∃ m', m' < m ∧ W (i + 1) m' σ' H') ∧ ∀ x H', (Ite K a).yld i H x H' → g x σ H' fun σ2 H2 => tb { D with nx := N, ct := N, bk := D.nx } σ2 H2)) ∨
    (SqT K H a xs ∧ ∃ W : Nat → Nat → L2.St → Hp → Prop, (∃ m, W 0 m σ H) ∧ ∀ i m σ H, W i m σ H →
      ((IteT K a).stop i H ∧ D.nx σ H) ∨ ((IteT K a).go i H ∧ ∃ N : L2.St → Hp → Prop, (∀ σ' H', N σ' H' → ∃ m', m' < m ∧ W (i + 1) m' σ' H') ∧ ∀ x H', (IteT K a).yld i H x H' → g x σ H' fun σ2 H2 => tb { D with nx := N, ct := N, bk := D.nx } σ2 H2)) := by
  rcases hS with hS | hS
  · refine .inl ⟨hS, fun i m σ H => m = xs.length - i ∧ i ≤ xs.length ∧ Pv i σ H, ⟨xs.length, by simp, Nat.zero_le _, h0⟩, ?_⟩
    rintro i m σ H ⟨rfl, hi, p⟩
    have q := (hk i σ H p).same.seq hS
    by_cases hlt : i < xs.length
    · refine .inr ⟨⟨xs, xs[i], q, by simp [hlt]⟩, Pv (i + 1), fun σ' H' p' => ⟨xs.length - (i + 1), by omega, rfl, hlt, p'⟩, fun x H' y => ?_⟩
      obtain ⟨T, x', rfl, hT, rfl, y⟩ := y
      exact hs i x' T σ _ (y xs q) p hT
    · have e : i = xs.length := by omega
      subst e
      exact .inl ⟨⟨xs, q, Nat.le_refl _⟩, hd σ H p⟩
  · refine .inr ⟨hS, fun i m σ H => m = xs.length - i ∧ i ≤ xs.length ∧ Pv i σ H, ⟨xs.length, by simp, Nat.zero_le _, h0⟩, ?_⟩
    rintro i m σ H ⟨rfl, hi, p⟩
    have q := (hk i σ H p).sqT hS
    by_cases hlt : i < xs.length
    · refine .inr ⟨⟨xs, xs[i], q, by simp [hlt]⟩, Pv (i + 1), fun σ' H' p' => ⟨xs.length - (i + 1), by omega, rfl, hlt, p'⟩, fun x H' y => ?_⟩
      obtain ⟨T, x', rfl, hT, rfl, y⟩ := y
      exact hs i x' T σ _ (y xs q) p hT
    · have e : i = xs.length := by omega
      subst e
      exact .inl ⟨⟨xs, q, Nat.le_refl _⟩, hd σ H p⟩
end Fm
namespace Fm
open PySem PySem.Spec PyProof.Rows L2 SlX
section
variable {X : Cx}
/-- dict(d) -/
def rDictD : List V → Hp → VK → Prop := fun xs H Q => ∃ (a : Addr) (kvs : List (L2.Key × V)), xs = [.ref a] ∧ H a = some (.dK kvs) ∧ ∀ p, H p = none → Q (.ref p) (upd H p (.dK kvs))
theorem call_dictD : CallR X (.type "dict") rDictD := by
  intro pins s σ H xs us Q I r h
  obtain ⟨a, kvs, rfl, ha, q⟩ := h
  obtain rfl := Vals.ref1 r
  obtain ⟨z, hd, vs, kv, hD⟩ := dk_of I.hok ha
  refine PySem.kt_call_dict hd hD (by rw [← kv.length]; exact z) fun h' hm hs => ?_
  have hk : ∀ b o, s.heap.get? b = some o → h'.get? b = some o := fun b o e => (hs.2 b (Nat.ne_of_lt (Heap.lt_size e))).trans (Heap.get?_push_of_some _ e)
  have hm' : (s.heap.objs.size == sysModules) = false := beq_eq_false_iff_ne.mpr (Nat.ne_of_gt I.big)
  exact ⟨.ref s.heap.objs.size, _, I.laid (t' := s.toks) hk (Nat.le_refl _) (show ObjOk X.prog X.w _ _ _ (.dK kvs) from ⟨z, hm', vs, kv, hm⟩), rfl, q _ (I.hok.fresh (Nat.le_refl _))⟩
/-- len(set(x)), x a list or tuple of ints -/
def tLenSetG (K : PySem.W.Frag) (ta : TE) : TE := fun σ H Q => ta σ H fun x H1 => ∃ (l : Addr) (ns : List Int), x = .ref l ∧ (SqL K H1 l (ns.map V.int) ∨ SqT K H1 l (ns.map V.int)) ∧ ns.length ≤ 4000 ∧
  ∀ ks : List Int, ks.Nodup → (∀ k, k ∈ ks ↔ k ∈ ns) → Q (.int ks.length) H1
theorem pe_lenSetG {a : Expr} {ta : TE} {p p2 q pos : Pos} (hc : X.calm = true) (hg : Gl X "len") (hm : X.mg "len" = none) (hg2 : Gl X "set") (hm2 : X.mg "set" = none) (ha : PE X a ta)
    (na : starEach [a] X.env = (false, eval a X.env) :: starEach [] X.env := by rfl) : PE X (.Call (.Name "len" p) [.Call (.Name "set" p2) [a] [] q] [] pos) (tLenSetG X.K ta) := by
  refine ⟨fun pins s σ H Q I h => ?_⟩
  refine Call_ (ld_blt I hg hm PySem.boot_len ?_)
  refine PyProof.Rows.callWith_builtin1 (PyProof.Rows.args_cons ?_ rfl) rfl rfl
  refine Call_ (ld_blt I hg2 hm2 PyProof.Rows.boot_set ?_)
  refine PyProof.Rows.callWith_type1 (PyProof.Rows.args_cons (thn (ha.run pins s σ H _ I h) fun v s1 ⟨x, H1, I1, r1, q1⟩ => PyProof.Rows.args_nil ?_) na) na rfl
  obtain ⟨l, ns, rfl, hq, hl, q1⟩ := q1
  cases r1
  have hb : ns.length + 1 < scanBound := Nat.lt_of_le_of_lt (Nat.succ_le_succ hl) (by decide)
  have fin : ∀ (h' : Heap) (tk c : Nat), SetR X.w h' s1.heap.objs.size (fun j => decide (j ∈ ns)) c → (∀ b o, s1.heap.get? b = some o → h'.get? b = some o) →
      wpAny (model X.prog X.w) X.A (call (.builtin "len") [.ref s1.heap.objs.size]) (EP X pins σ Q) X.xe { s1 with heap := h', toks := tk } := by
    intro h' tk c R hk
    have I2 : Inv X pins σ H1 { s1 with heap := h', toks := tk } := I1.kept hk
    obtain ⟨o, es, ep, t, ho, hex, hd, h4, h5, h6, h7, h8, h9, h10⟩ := id R
    have hle : (es.toList.map keyOf).length = es.size := by rw [List.length_map, Array.length_toList]
    have hbd : (es.size : Int) < 2 ^ 63 := by
      have : scanBound < 2 ^ 62 := by decide
      omega
    refine PySem.call_len_set ho hex hd h8 hbd ⟨.int es.size, H1, I2.tok _, ⟨_, rfl⟩, ?_⟩
    have := q1 (es.toList.map keyOf) h5 fun k => by rw [← h6 k]; simp
    rw [hle] at this
    exact this
  rcases hq with hq | hq
  · obtain ⟨its, r, pl, hz⟩ := I1.list hq
    refine set_of_list ns (I1.ok.hd hc) pl.isList (by simpa using r.ints) hb fun h' tk c R hk => ?_
    exact PyProof.Rows.args_nil (fin h' tk c R hk)
  · obtain ⟨its, r, pl, hz⟩ := I1.tuple hq
    refine call_set_tupI ns (I1.ok.hd hc) (show s1.heap.IsTuple l its.toArray from pl) (by simpa using r.ints) hb fun h' tk c R _ hk => ?_
    exact PyProof.Rows.args_nil (fin h' tk c R hk)
/-- o.f = value as a target -/
def gSl (K : PySem.W.Frag) (to : TE) (f : Str) : TG := fun y σ H Q => to σ H fun x H2 => ∃ a C dx p vs i, x = .ref a ∧ Slt H2 a C dx vs ∧ SCls K C ∧ Slot1 K C f p i ∧ Q σ (slH H2 a C dx (putS i y vs))
theorem pg_sl {o : Expr} {to : TE} {f : Str} {pos : Pos} (ho : PE X o to) (ha : ∀ v, assign (.Attribute o f pos) X.env v = (do
      let ov ← holding [v] (eval o X.env)
      standAt pos.atName
      holding [v, ov] (setAttr ov f v)
      release [v, ov] []) := by intro _; rfl) : PG X (.Attribute o f pos) (gSl X.K to f) := by
  refine ⟨fun pins s σ H v u Q I r h => ?_⟩
  rw [ha]
  refine wpAny_bind (wpAny_holding (thn (ho.run pins s σ H _ I h) fun ov s1 ⟨x, H1, I1, r1, a, C, dx, p, vs, i, ex, hs, hc, ht, q1⟩ => ?_))
  subst ex
  obtain rfl : ov = Value.ref a := r1
  refine wpAny_bind (wpAny_standAt (wpAny_bind (wpAny_holding (setslot_ok I1 hs hc ht r fun s2 I2 => ?_))))
  exact wpAny_release ⟨σ, _, I2, q1⟩
end
theorem bt_ValueError : bootBuiltins "ValueError" = some (.type "ValueError") := by decide +kernel
theorem bt_min : bootBuiltins "min" = some (.builtin "min") := by decide +kernel
theorem fnR_of {P : Program} {w : World} {K : PySem.W.Frag} {mg : Str → Option Value} {base : Heap} {CX : CXT} {k : Nat} {f : Addr} {fd : FuncData} {ps : List Str} {sp : Sp} (F : FnOk P w K mg base CX k f fd ps sp) (b : Binds K fd ps []) : FnR P w K mg base CX k f sp := by
  intro A outer s H us vs Q E hr e0 r h
  have hl : us.length = ps.length := by rw [← r.length]; exact F.len _ _ _ _ h
  have kin : K.In s.heap := e0.mod.kin.keeps fun b o e => (e0.bs b o e).1
  have b' := b s us kin (by rw [List.append_nil]; exact hl)
  rw [List.append_nil] at b'
  exact F.run A outer s H ⟨us, []⟩ us vs Q E hr e0 b' r h
section
variable {X : Cx} {CX : CXT} {k : Nat} {C g : Addr} {fd : FuncData} {ps : List Str} {sp : Sp} {E : L2.St → XK} {m : Str} {pos apos : Pos} {e o : Expr} {es : List Expr} {ta : TE} {t : TA}
/-- o.m(..) where what is raised is wished for at the slots -/
def tMethSlS (C : Addr) (sp : Sp) (E : L2.St → XK) (ta : TE) (t : TA) : TE := fun σ H Q => ta σ H fun x H1 => ∃ a dx vs, x = .ref a ∧ Slt H1 a C dx vs ∧ t σ H1 fun ws H2 => sp (x :: ws) H2 Q (E σ)
theorem pe_methSlS {pl : Sem Bool} (he : PE X o ta) (c : SCls X.K C) (hm : Meth X.K C m g) (F : FnOk X.prog X.w X.K X.mg X.base CX k g fd ps sp) (hr : Room k X.A) (hb : Binds X.K fd ps []) (hx : ∀ σ, PassesAt CX X σ (E σ)) (ha : PA X (e :: es) t)
    (hst : starEach (e :: es) X.env = (false, eval e X.env) :: starEach es X.env := by rfl) (hpl : (backTo pos (starEach es X.env)).any (·.1) = false := by rfl)
    (ht : eval (.Call (.Attribute o m apos) (e :: es) [] pos) X.env = (do
      let ov ← eval o X.env
      standAt apos.atName
      let (f, first) ← holding [ov] (getMethod ov m pl)
      callWith pos f first (backTo pos (starEach (e :: es) X.env)) (backToKw pos (keywordEach [] X.env))) := by rfl) :
    PE X (.Call (.Attribute o m apos) (e :: es) [] pos) (tMethSlS C sp E ta t) := by
  refine ⟨fun pins s σ H Q I h => ?_⟩
  refine PySem.W.methodCall_KW (pl := pl) (thn (he.run pins s σ H _ I h) fun u s1 ⟨x, H1, I1, rx, a, dx, vs, ex, hsl, q⟩ => ?_) ht
  subst ex
  obtain rfl : u = Value.ref a := rx
  refine getmethsl_ok I1 hsl c hm ?_
  refine PySem.W.callWith_K (first := [.ref a]) (h₀ := X.base) I.ok.mod.kin hm.kp (thn (ha.run pos pins s1 σ H1 _ I1 q) fun us s2 ⟨ws, H2, I2, r, q2⟩ => ⟨I2.kIn, ?_⟩) hst hpl
  exact run_fnS (us := .ref a :: us) (vs := .ref a :: ws) F hr hb (hx σ) I2 (.cons rfl r) q2
end
section
variable {X : Cx}
/-- sorted: a dict's text keys, texts, ints -/
def rSortDk : List V → Hp → VK → Prop := fun xs H Q => ∃ (a : Addr) (kvs : List (L2.Key × V)) (ks : List Str), xs = [.ref a] ∧ Rd H a (.dK kvs) ∧ kvs.map (·.1) = ks.map Sum.inr ∧ ks.length < 64 ∧ ∀ ys p, ys.Perm ks → sortedS ys = true → H p = none → Q (.ref p) (upd H p (.lst (ys.map V.str)))
def rSortA (K : PySem.W.Frag) : List V → Hp → VK → Prop := fun xs H Q => rSortDk xs H Q ∨ (rSortedS K xs H Q ∨ rSorted K xs H Q)
theorem cr_sortA (hc : X.calm = true) : CallR X (.builtin "sorted") (rSortA X.K) := CallR.or (call_sortedD hc) (CallR.or cr_sortedS cr_sorted)
def rDictP (K : PySem.W.Frag) : List V → Hp → VK → Prop := fun xs H Q => ∃ (a : Addr) (ps : List Addr) (kvs : List (L2.Key × V)), xs = [.ref a] ∧ SqL K H a (ps.map V.ref) ∧ Paired (fun p kv => SqT K H p [kV kv.1, kv.2]) ps kvs ∧ ∀ p, H p = none → Q (.ref p) (upd H p (.dK (mergeK [] kvs)))
def rDictG (K : PySem.W.Frag) : List V → Hp → VK → Prop := fun xs H Q => rDictP K xs H Q ∨ rDictD xs H Q
theorem call_dictG (hc : X.calm = true) : CallR X (.type "dict") (rDictG X.K) := CallR.or (call_dictP hc) call_dictD
def rListG (K : PySem.W.Frag) : List V → Hp → VK → Prop := fun xs H Q => rListOf K xs H Q ∨ rListD xs H Q
theorem call_listA (hc : X.calm = true) : CallR X (.type "list") (rListG X.K) := CallR.or call_listG (call_list_dK hc)
end
end Fm
namespace Fm
open PySem PySem.Spec PyProof.Rows L2
/-! the end: a law whose def asks for reprs -/
section
variable {P : Program} {w : World} {K : PySem.W.Frag} {mg mb : Str → Option Value} {k : Nat} {fa a : Addr} {fd : FuncData} {x : Str} {sp : Sp} {s : Shared} {vs : List Value} {ns : List Int}
/-- from a heap that knows nothing but, perhaps, the script -/
theorem from_heap (KX : K.In s.heap) (hg0 : s.heap.Ns mainGlobals mg) (hb : s.heap.Ns builtinsNs mb) (hbb : ∀ y : Str, y ≠ "__name__" → mb y = bootBuiltins y) (hlim : s.heap.NoLimit) (hg : s.gens = #[])
    (ha : s.heap.get? a = some { cls := .type "list", data := .seq vs.toArray }) (hr : Room k callerA) (F : ∀ base : Heap, K.In base → base.Ns mainGlobals mg → FnOkG P w K mg base CX0 k fa fd [x] sp)
    (hbind : ∀ (t : Shared) (u : Value), BindsTo t fd ⟨[u], []⟩ [(x, u)]) (H : Hp) (hO : Only H) (hok : HOk P w H s.heap) (hA : ∀ b, H b ≠ none → b = a) (hK : H a ≠ none → K.lookup a = none)
    (hsp : sp [.ref a] H (fun v _ => v = .bl true) fun _ _ _ => False) :
    codeAny (model P w) callerA (.call (.ref fa) ⟨[.ref a], []⟩) (fun r t => r = .ok (.ret (.bool true)) ∧ OldK s.heap t.heap ∧ t.os = s.os ∧ AllBare t.gens) s := by
  have free : ∀ {b : Addr} {o : Obj} {es : Array DictEntry} {ep : Nat}, s.heap.get? b = some o → o.data = .dict es ep → H b = none := by
    intro b o es ep e d
    cases q : H b with
    | none => rfl
    | some u =>
      have z := hA b (by rw [q]; exact Option.some_ne_none u)
      rw [z, ha] at e
      cases e
      exact nomatch d
  have ns : ∀ {b : Addr} {m : Str → Option Value}, s.heap.Ns b m → (hidT s.heap H).Ns b m := by
    rintro b m ⟨o, es, ep, e, d, r⟩
    exact ⟨o, es, ep, hidT_get e (free e d), d, r⟩
  have kin : K.In (hidT s.heap H) := by
    intro b o e
    refine hidT_get (KX b o e) ?_
    cases q : H b with
    | none => rfl
    | some u =>
      have z := hA b (by rw [q]; exact Option.some_ne_none u)
      rw [z] at q e
      rw [hK (by rw [q]; exact Option.some_ne_none u)] at e
      cases e
  have lim : (hidT s.heap H).NoLimit := by
    obtain ⟨mc, l1, l2⟩ := hlim
    exact ⟨mc, ns l1, l2⟩
  have env : Env0 P w K mg (hidT s.heap H) callerA [] s H :=
    ⟨rfl, ⟨kin, ns hg0, ⟨mb, ns hb, hbb⟩, lim⟩, fun b o e => of_hidT e, Nat.le_of_eq (hidT_size _ _), trivial, (fun b z => absurd (show b ∈ ([] : List Addr) from z) List.not_mem_nil), hok, .of_eq hg⟩
  have run := (F _ kin (ns hg0)).run callerA [] s H ⟨[.ref a], []⟩ [.ref a] [.ref a] _ _ rfl hr env (hbind s (.ref a)) (.cons rfl .nil) hsp
  refine codeAny_mono run fun r t h => ?_
  match r, h with
  | .error e, h => exact False.elim h
  | .ok (.ret u), h =>
    obtain ⟨v, H', os, bare, un, hok', r', q⟩ := h
    have q' : v = .bl true := q
    rw [q'] at r'
    obtain rfl : u = Value.bool true := r'
    refine ⟨rfl, OldK.of_keep fun b o e => ?_, os, bare⟩
    rcases hO b with z | ⟨ob, xs, z⟩
    · exact un.keep b o e z (fun y => absurd (show b ∈ ([] : List Addr) from y) List.not_mem_nil) (fun y => nomatch y)
    · obtain ⟨e1, _⟩ := hok b _ z
      obtain ⟨e2, _⟩ := hok' b _ (un.frzs b ob _ z)
      rw [e1] at e
      cases e
      exact e2
theorem law_callG (KX : K.In s.heap) (hg0 : s.heap.Ns mainGlobals mg) (hb : s.heap.Ns builtinsNs mb) (hbb : ∀ y : Str, y ≠ "__name__" → mb y = bootBuiltins y) (hlim : s.heap.NoLimit) (hg : s.gens = #[])
    (ha : s.heap.get? a = some { cls := .type "list", data := .seq vs.toArray }) (hi : IntsAre vs ns) (hl : ns.length ≤ sizeLine) (hr : Room k callerA)
    (F : ∀ base : Heap, K.In base → base.Ns mainGlobals mg → FnOkG P w K mg base CX0 k fa fd [x] sp) (hbind : ∀ (t : Shared) (u : Value), BindsTo t fd ⟨[u], []⟩ [(x, u)])
    (hsp : ∀ H : Hp, SqL K H a (ns.map V.int) → sp [.ref a] H (fun v _ => v = .bl true) fun _ _ _ => False) :
    codeAny (model P w) callerA (.call (.ref fa) ⟨[.ref a], []⟩) (fun r t => r = .ok (.ret (.bool true)) ∧ OldK s.heap t.heap ∧ t.os = s.os ∧ AllBare t.gens) s := by
  have rv := vals_ints hi
  have hlen : (ns.map V.int).length ≤ sizeLine := by
    rw [List.length_map]
    exact hl
  cases hk : K.lookup a with
  | some o =>
    have e := KX a o hk
    rw [ha] at e
    cases e
    refine from_heap KX hg0 hb hbb hlim hg ha hr F hbind (fun _ => none) (fun _ => .inl rfl) (fun b u z => nomatch z) (fun b z => absurd rfl z) (fun z => absurd rfl z) (hsp _ ?_)
    exact .inr ⟨_, vs.toArray, _, hk, rfl, rfl, rfl, by rw [List.size_toArray, hi.length]; exact hl, by simpa using rv⟩
  | none =>
    have at_ : ∀ b, (if b = a then some (HO.frz { cls := .type "list", data := .seq vs.toArray } (.lst (ns.map V.int))) else none) ≠ none → b = a := by
      intro b z
      by_cases e : b = a
      · exact e
      · rw [if_neg e] at z
        exact absurd rfl z
    refine from_heap KX hg0 hb hbb hlim hg ha hr F hbind (fun b => if b = a then some (.frz { cls := .type "list", data := .seq vs.toArray } (.lst (ns.map V.int))) else none) (fun b => ?_) (fun b u z => ?_) at_ (fun _ => hk)
      (hsp _ (.inl (.inr ⟨_, if_pos rfl⟩)))
    · by_cases e : b = a
      · exact .inr ⟨_, _, if_pos e⟩
      · exact .inl (if_neg e)
    · have e : b = a := at_ b (by
        have z' : (if b = a then some (HO.frz { cls := .type "list", data := .seq vs.toArray } (.lst (ns.map V.int))) else none) = some u := z
        rw [z']
        exact Option.some_ne_none u)
      subst e
      have z' := (if_pos rfl).symm.trans z
      cases z'
      exact ⟨ha, hlen, vs, _, rv, ha⟩
end
theorem walk_G {l : PySem.W.OpenLaw} {n k : Nat} {q : Program} {loose : List Str} {XP : (Str → Option Value) → Heap → Prop} {YP : World → Heap → Prop} {d : DefRec} {K : Params → PySem.W.Frag} {sp : PySem.W.Frag → Sp} {x : Str}
    (hn : l.most = some n) (hn2 : n ≤ sizeLine) (hdf : d.params.defaults = []) (hr : Room k callerA) (hY : ∀ (w : World) (h : Heap), YP w h → (K w.params).In h)
    (F : ∀ (w : World) (mg : Str → Option Value) (fa : Addr) (h : Heap), (K w.params).In h → h.Ns mainGlobals mg → mg d.name = some (.ref fa) →
      ∃ fd : FuncData, (∀ (t : Shared) (u : Value), BindsTo t fd ⟨[u], []⟩ [(x, u)]) ∧ ∀ base : Heap, (K w.params).In base → base.Ns mainGlobals mg → FnOkG l.prog w (K w.params) mg base CX0 k fa fd [x] (sp (K w.params)))
    (hsp : ∀ (K : PySem.W.Frag) (H : Hp) (a : Addr) (ns : List Int), ns.length ≤ n → SqL K H a (ns.map V.int) → sp K [.ref a] H (fun v _ => v = .bl true) fun _ _ _ => False) :
    PySem.W.WalkO q loose XP YP l.row.toRowW d [] (fun f vs => PySem.call f vs) := by
  refine Att.attach_call hn hdf fun w s₀ s₁ mg mb fa o pm cd doc a vs ns G Y ho hd hcd hmg hobj hints hlen hgens => ?_
  obtain ⟨fd, hb, hF⟩ := F w mg fa _ (hY w _ Y) G.T.g hmg
  exact law_callG (hY w _ Y) G.T.g G.T.b G.T.builtins G.T.nolimit hgens hobj hints (Nat.le_trans hlen hn2) hr hF hb fun H hS => hsp _ H a ns hlen hS
end Fm
/-! frames, plainly: values put in, counted -/
namespace Fm
open PySem PySem.Spec PyProof.Rows L2
namespace Tm
mutual
theorem put_put (f g : Int → Tm) : ∀ t : Tm, put g (put f t) = put (fun i => put g (f i)) t
  | .var _ => by simp [put]
  | .op _ ts => by simp [put, puts_puts f g ts]
theorem puts_puts (f g : Int → Tm) : ∀ ts : List Tm, puts g (puts f ts) = puts (fun i => put g (f i)) ts
  | [] => by simp [puts]
  | t :: ts => by simp [puts, put_put f g t, puts_puts f g ts]
end
mutual
theorem put_id : ∀ t : Tm, put .var t = t
  | .var _ => by simp [put]
  | .op _ ts => by simp [put, puts_id ts]
theorem puts_id : ∀ ts : List Tm, puts .var ts = ts
  | [] => by simp [puts]
  | t :: ts => by simp [puts, put_id t, puts_id ts]
end
mutual
theorem size_put (f : Int → Tm) : ∀ t : Tm, size (put f t) = size t + ((leaves t).map fun i => size (f i)).sum
  | .var _ => by simp [put, size, leaves]
  | .op _ ts => by
    simp only [put, size, leaves, sizes_puts f ts]
    omega
theorem sizes_puts (f : Int → Tm) : ∀ ts : List Tm, sizes (puts f ts) = sizes ts + ((leavesL ts).map fun i => size (f i)).sum
  | [] => by simp [puts, sizes, leavesL]
  | t :: ts => by
    simp only [puts, sizes, leavesL, size_put f t, sizes_puts f ts, List.map_append, List.sum_append]
    omega
end
mutual
theorem lv_le {P : Int → Prop} : ∀ t : Tm, ok P t → lv t ≤ 2 * size t + 1
  | .var _, _ => by simp [lv, size]
  | .op _ ts, h => by
    have := lvs_le ts h.2.2
    have := h.2.1
    simp only [lv, size]
    omega
theorem lvs_le {P : Int → Prop} : ∀ ts : List Tm, oks P ts → lvs ts ≤ 2 * sizes ts + ts.length
  | [], _ => by simp [lvs]
  | t :: ts, h => by
    have := lv_le t h.1
    have := lvs_le ts h.2
    simp only [lvs, sizes, List.length_cons]
    omega
end
theorem size_le {t : Tm} : ∀ {ts : List Tm}, t ∈ ts → size t ≤ sizes ts
  | u :: ts, h => by
    rcases List.mem_cons.mp h with rfl | h
    · simp only [sizes]; omega
    · have := size_le h
      simp only [sizes]; omega
theorem sizes_small {P : Int → Prop} : ∀ (n : Nat) (t : Tm), ok P t → dep t ≤ n → 2 * size t + 1 ≤ 3 ^ n := by
  intro n
  induction n with
  | zero =>
    intro t h hd
    cases t with
    | var i => simp [size]
    | op x ts => simp [dep] at hd
  | succ n ih =>
    intro t h hd
    have hp : 1 ≤ 3 ^ n := Nat.one_le_pow _ _ (by decide)
    cases t with
    | var i =>
      simp only [size, Nat.pow_succ]
      omega
    | op x ts =>
      have hs : ∀ us : List Tm, oks P us → deps us ≤ n → 2 * sizes us + us.length ≤ us.length * 3 ^ n := by
        intro us
        induction us with
        | nil => intro _ _; simp [sizes]
        | cons u us ih2 =>
          intro ho hdd
          have h1 := ih u ho.1 (by simp only [deps] at hdd; omega)
          have h2 := ih2 ho.2 (by simp only [deps] at hdd; omega)
          simp only [sizes, List.length_cons, Nat.add_mul, Nat.one_mul]
          omega
      have h1 := hs ts h.2.2 (by simp only [dep] at hd; omega)
      have h3 := h.2.1
      simp only [size, Nat.pow_succ]
      generalize 3 ^ n = m at *
      have : ts.length = 0 ∨ ts.length = 1 ∨ ts.length = 2 ∨ ts.length = 3 := by omega
      rcases this with e | e | e | e <;> rw [e] at h1 <;> omega
end Tm
/-- the value of a variable -/
def vat (vs : List Tm) (i : Int) : Tm := (vs[i.toNat]?).getD (.var i)
theorem vat_some {vs : List Tm} {i : Int} (h0 : 0 ≤ i) (h1 : i < vs.length) : vs[i.toNat]? = some (vat vs i) := by
  have h : i.toNat < vs.length := by omega
  unfold vat
  rw [List.getElem?_eq_getElem h]
  rfl
theorem vat_mem {vs : List Tm} {i : Int} (h0 : 0 ≤ i) (h1 : i < vs.length) : vat vs i ∈ vs := List.mem_of_getElem? (vat_some h0 h1)
/-- the term of a variable behind changes -/
def chAt (chs : List (Int × Tm)) (i : Nat) : Tm := ((chs.find? fun c => c.1 == (i : Int)).map (·.2)).getD (.var i)
def chT (n : Nat) (chs : List (Int × Tm)) : List Tm := (List.range n).map (chAt chs)
/-- the values behind changes that are made at once -/
def chg (vs : List Tm) (chs : List (Int × Tm)) : List Tm := (chT vs.length chs).map (Tm.put (vat vs))
theorem chT_len (n : Nat) (chs : List (Int × Tm)) : (chT n chs).length = n := by unfold chT; rw [List.length_map, List.length_range]
theorem chg_len (vs : List Tm) (chs : List (Int × Tm)) : (chg vs chs).length = vs.length := by unfold chg; rw [List.length_map, chT_len]
theorem chT_get {n : Nat} {chs : List (Int × Tm)} {i : Nat} (h : i < n) : (chT n chs)[i]? = some (chAt chs i) := by
  unfold chT
  rw [List.getElem?_map, List.getElem?_range h]
  rfl
theorem chAt_snoc {chs : List (Int × Tm)} {c : Int × Tm} (h : c.1 ∉ chs.map (·.1)) (i : Nat) : chAt (chs ++ [c]) i = if c.1 = (i : Int) then c.2 else chAt chs i := by
  unfold chAt
  rw [List.find?_append]
  by_cases e : c.1 = (i : Int)
  · have : chs.find? (fun c => c.1 == (i : Int)) = none := by
      rw [List.find?_eq_none]
      intro x hx
      intro z
      apply h
      rw [e, ← eq_of_beq z]
      exact List.mem_map.mpr ⟨x, hx, rfl⟩
    rw [this, if_pos e]
    simp [e]
  · rw [if_neg e]
    have : ([c] : List (Int × Tm)).find? (fun c => c.1 == (i : Int)) = none := by
      rw [List.find?_eq_none]
      intro x hx z
      rw [List.mem_singleton.mp hx] at z
      exact e (eq_of_beq z)
    rw [this]
    simp
theorem chT_snoc {n : Nat} {chs : List (Int × Tm)} {c : Int × Tm} (h : c.1 ∉ chs.map (·.1)) (h0 : 0 ≤ c.1) : chT n (chs ++ [c]) = (chT n chs).set c.1.toNat c.2 := by
  apply List.ext_getElem?
  intro i
  by_cases hi : i < n
  · rw [chT_get hi, chAt_snoc h]
    by_cases e : c.1 = (i : Int)
    · rw [if_pos e]
      have : c.1.toNat = i := by omega
      rw [this, List.getElem?_set_self (by rw [chT_len]; exact hi)]
    · rw [if_neg e, List.getElem?_set_ne (by omega), chT_get hi]
  · rw [List.getElem?_eq_none (by rw [chT_len]; omega), List.getElem?_eq_none (by rw [List.length_set, chT_len]; omega)]
theorem chT_nil (n : Nat) : chT n [] = (List.range n).map fun i => .var (i : Int) := by
  unfold chT chAt
  simp
theorem chg_nil (vs : List Tm) : chg vs [] = vs := by
  unfold chg
  rw [chT_nil, List.map_map]
  apply List.ext_getElem?
  intro i
  rw [List.getElem?_map]
  by_cases hi : i < vs.length
  · rw [List.getElem?_range hi]
    have := vat_some (vs := vs) (i := (i : Int)) (by omega) (by omega)
    rw [Int.toNat_natCast] at this
    rw [this]
    simp [Tm.put]
  · rw [List.getElem?_eq_none (by rw [List.length_range]; omega), List.getElem?_eq_none (by omega)]
    rfl
/-- terms of changes: over the variables, not too deep -/
structure ChDp (many : Int) (dc : Nat) (chs : List (Int × Tm)) : Prop where
  ok : ∀ c ∈ chs, c.2.ok fun i => 0 ≤ i ∧ i < many
  dp : ∀ c ∈ chs, c.2.dep ≤ dc
theorem chAt_or (chs : List (Int × Tm)) (i : Nat) : chAt chs i = .var i ∨ ∃ c ∈ chs, c.2 = chAt chs i := by
  unfold chAt
  cases e : chs.find? fun c => c.1 == (i : Int) with
  | none => exact .inl rfl
  | some c => exact .inr ⟨c, List.mem_of_find?_eq_some e, rfl⟩
theorem chT_ok {many : Int} {dc : Nat} {chs : List (Int × Tm)} (h : ChDp many dc chs) {n : Nat} (hn : (n : Int) = many) : Tm.oks (fun i => 0 ≤ i ∧ i < many) (chT n chs) ∧ Tm.deps (chT n chs) ≤ dc := by
  have key : ∀ t ∈ chT n chs, t.ok (fun i => 0 ≤ i ∧ i < many) ∧ t.dep ≤ dc := fun t ht => by
    obtain ⟨i, hi, rfl⟩ := List.mem_map.mp ht
    have hi' := List.mem_range.mp hi
    rcases chAt_or chs i with e | ⟨c, hc, e⟩
    · rw [e]
      exact ⟨⟨by omega, by omega⟩, by simp [Tm.dep]⟩
    · rw [← e]
      exact ⟨h.ok c hc, h.dp c hc⟩
  exact ⟨Tm.oks_iff.mpr fun t ht => (key t ht).1, Tm.deps_le.mpr fun t ht => (key t ht).2⟩
theorem chg_ok {many : Int} {dc d : Nat} {chs : List (Int × Tm)} {P : Int → Prop} {vs : List Tm} (h : ChDp many dc chs) (hl : (vs.length : Int) = many) (ho : Tm.oks P vs) (hd : Tm.deps vs ≤ d) : Tm.oks P (chg vs chs) ∧ Tm.deps (chg vs chs) ≤ dc + d := by
  obtain ⟨h1, h2⟩ := chT_ok h hl
  have hv : ∀ i : Int, 0 ≤ i ∧ i < many → (vat vs i).ok P ∧ (vat vs i).dep ≤ d := fun i hi => by
    have hm := vat_mem (vs := vs) hi.1 (by omega)
    exact ⟨Tm.oks_iff.mp ho _ hm, Tm.deps_le.mp hd _ hm⟩
  unfold chg
  rw [← Tm.puts_map]
  refine ⟨Tm.oks_puts (fun i hi => (hv i hi).1) _ h1, ?_⟩
  have := Tm.deps_puts (fun i hi => (hv i hi).2) _ h1
  omega
theorem chg_sizes (vs : List Tm) (chs : List (Int × Tm)) : Tm.sizes (chg vs chs) = Tm.sizes (chT vs.length chs) + ((Tm.leavesL (chT vs.length chs)).map fun i => (vat vs i).size).sum := by
  unfold chg
  rw [← Tm.puts_map, Tm.sizes_puts]
/-- with terms put in -/
theorem chg_sub {many : Int} {dc : Nat} {chs : List (Int × Tm)} {vs : List Tm} (s : Int → Tm) (h : ChDp many dc chs) (hl : (vs.length : Int) = many) : chg (vs.map (Tm.put s)) chs = (chg vs chs).map (Tm.put s) := by
  obtain ⟨h1, _⟩ := chT_ok h hl
  unfold chg
  rw [List.length_map, List.map_map]
  refine List.map_congr_left fun t ht => ?_
  show t.put _ = (t.put _).put s
  rw [Tm.put_put]
  refine Tm.put_congr t fun i hi => ?_
  have hi' := Tm.ok_leaves t (Tm.oks_iff.mp h1 t ht) i hi
  unfold vat
  rw [List.getElem?_map, List.getElem?_eq_getElem (show i.toNat < vs.length by omega)]
  rfl
end Fm
/-! tuples whose object is known to have no dict of its own: dict(t) of pairs -/
namespace Fm
open PySem PySem.Spec PyProof.Rows L2
/-- a tuple without a dict of its own -/
def PlT (H : Hp) (a : Addr) (xs : List V) : Prop := ∃ o : Obj, H a = some (.frz o (.tup xs)) ∧ o.dict = none
theorem PlT.sq {K : PySem.W.Frag} {H : Hp} {a : Addr} {xs : List V} (h : PlT H a xs) : SqT K H a xs := let ⟨o, e, _⟩ := h; .inl (.inr ⟨o, e⟩)
theorem PlT.mv {S : List Addr} {H H' : Hp} {a : Addr} {xs : List V} (h : PlT H a xs) (m : Mv S H H') (hS : ∀ q ∈ S, ∀ o ys, H q ≠ some (.frz o (.tup ys))) : PlT H' a xs :=
  let ⟨o, e, d⟩ := h
  ⟨o, m.keep a _ (fun z => hS a z o xs e) e, d⟩
section
variable {X : Cx}
def rTupF (K : PySem.W.Frag) : List V → Hp → VK → Prop := fun xs H Q => ∃ p ys, xs = [.ref p] ∧ SqL K H p ys ∧ ∀ l o, H l = none → o.dict = none → Q (.ref l) (upd H l (.frz o (.tup ys)))
theorem call_tupF : CallR X (.type "tuple") (rTupF X.K) := by
  intro pins s σ H xs us Q I r h
  obtain ⟨p, ys, rfl, hq, q⟩ := h
  obtain ⟨u, rfl, rx⟩ := vals1 r
  cases rx
  obtain ⟨its, r', pl, hz⟩ := I.list hq
  have hlen := r'.length
  refine call_tuple_list pl.isList (fun h' kp => ?_) (by simp only [List.size_toArray] <;> omega)
  have I1 : Inv X pins σ H { s with heap := h' } := I.kept (t' := s.toks) kp
  have I2 : Inv X pins σ (upd H h'.objs.size (.frz { cls := .type "tuple", data := .seq its.toArray } (.tup ys))) { s with heap := h'.push { cls := .type "tuple", data := .seq its.toArray } } :=
    I1.laid (t' := s.toks) (fun b o e => Heap.get?_push_of_some _ e) (Nat.le_refl _) (show ObjOk X.prog X.w _ _ _ (.frz _ (.tup ys)) from ⟨Heap.get?_push_size _ rfl, hz, its, r', IsTup.new _ _⟩)
  exact ⟨.ref h'.objs.size, _, I2, rfl, q _ _ (I1.hok.fresh (Nat.le_refl _)) rfl⟩
def tTupF (t : TA) : TE := fun σ H Q => t σ H fun xs H1 => xs.length ≤ sizeLine ∧ ∀ p o, H1 p = none → o.dict = none → Q (.ref p) (upd H1 p (.frz o (.tup xs)))
theorem pe_tupF {es : List Expr} {t : TA} {x1 : Nat} {pos : Pos} (h : PA X es t) : PE X (.Tuple es x1 pos) (tTupF t) := by
  refine ⟨fun pins s σ H Q I hq => ?_⟩
  refine wpAny_Tuple_spliced (thn (h.run pos pins s σ H _ I hq) fun us s1 ⟨xs, H1, I1, r, z, q⟩ => ⟨by rw [← r.length]; exact z, ?_⟩)
  have hf : H1 s1.heap.objs.size = none := I1.hok.fresh (Nat.le_refl _)
  refine ⟨.ref s1.heap.objs.size, upd H1 s1.heap.objs.size (.frz { cls := .type "tuple", data := .seq us.toArray } (.tup xs)), I1.laid (t' := s1.toks) (fun b u e => Heap.get?_push_of_some _ e) (Nat.le_refl _) ?_, rfl, q _ _ hf rfl⟩
  exact ⟨Heap.get?_push_size _ rfl, z, us, r, ⟨_, Heap.get?_push_size _ rfl, rfl, _, rfl⟩⟩
theorem pairs_ofV {pins : List (Addr × Obj)} {σ : L2.St} {H : Hp} {s : Shared} (I : Inv X pins σ H s) : ∀ {ps : List Addr} {kvs : List (L2.Key × V)}, Paired (fun p kv => SqT X.K H p [kV kv.1, kv.2]) ps kvs →
    ∃ (prs : List (L2.Key × Value)) (uvs : List (Value × Value)), KV kvs prs ∧ prs.length = ps.length ∧ uvs.length = ps.length ∧ ∀ (j : Nat) (u v : Value), uvs[j]? = some (u, v) → ∃ (b : Addr) (k : L2.Key), ps[j]? = some b ∧ prs[j]? = some (k, v) ∧ IsTup s.heap b #[u, v] ∧ keyIs k u = true
  | _, _, .nil => ⟨[], [], .nil, rfl, rfl, fun j u v e => by simp at e⟩
  | _, _, .cons (a := p) (b := kv) h t => by
    obtain ⟨prs, uvs, r, hl, hl2, hp⟩ := pairs_ofV I t
    obtain ⟨its, rv, ht, _⟩ := I.tuple h
    obtain ⟨u, y, ei, ru, ry⟩ := vals2 rv
    subst ei
    refine ⟨(kv.1, y) :: prs, (u, y) :: uvs, .cons ⟨rfl, ry⟩ r, by rw [List.length_cons, List.length_cons, hl], by rw [List.length_cons, List.length_cons, hl2], fun j u' v' e => ?_⟩
    cases j with
    | zero =>
      have e' : (u, y) = (u', v') := Option.some.inj e
      cases e'
      exact ⟨p, kv.1, rfl, rfl, ht, kV_is (P := X.prog) (w := X.w) ru⟩
    | succ j =>
      obtain ⟨b, k, e1, e2, e3, e4⟩ := hp j u' v' (by simpa using e)
      exact ⟨b, k, by simpa using e1, by simpa using e2, e3, e4⟩
/-- dict(t) of a tuple of pairs -/
def rDictT (K : PySem.W.Frag) : List V → Hp → VK → Prop := fun xs H Q => ∃ (a : Addr) (ps : List Addr) (kvs : List (L2.Key × V)), xs = [.ref a] ∧ PlT H a (ps.map V.ref) ∧ Paired (fun p kv => SqT K H p [kV kv.1, kv.2]) ps kvs ∧ ∀ p, H p = none → Q (.ref p) (upd H p (.dK (mergeK [] kvs)))
theorem call_dictT (hcalm : X.calm = true) : CallR X (.type "dict") (rDictT X.K) := by
  intro pins s σ H xs us Q I r q
  obtain ⟨a, ps, kvs, rfl, ⟨o, ha, hod⟩, hp, q⟩ := q
  obtain ⟨u, rfl, rx⟩ := vals1 r
  cases rx
  obtain ⟨ho, hz, its, rv, o', ho', hc, n, hdat⟩ := (show ObjOk X.prog X.w H s.heap a (.frz o (.tup (ps.map V.ref))) from I.hok a _ ha)
  rw [ho] at ho'
  cases ho'
  have ei := refs_at rv
  subst ei
  rw [List.length_map] at hz
  obtain ⟨prs, uvs, rel, hl, hl2, hpr⟩ := pairs_ofV I hp
  have hPS : PlainSeq "tuple" s.heap a (ps.map Value.ref).toArray := ⟨o, n, ho, hc, hod, hdat⟩
  have hPI : PairItems s.heap (ps.map Value.ref).toArray (fun j => ps.getD j 0) uvs := by
    refine ⟨by simp [hl2], fun j k v e => ?_⟩
    obtain ⟨b, k', e1, e2, e3, e4⟩ := hpr j k v e
    have eb : ps.getD j 0 = b := by rw [List.getD_eq_getElem?_getD, e1]; rfl
    refine ⟨?_, ?_⟩
    · show _ = some (Value.ref (ps.getD j 0))
      rw [eb]
      simp [e1]
    · show PairAt s.heap (ps.getD j 0) k v
      rw [eb]
      exact .inl e3
  have hPH : PairsHave (mixKind X.prog X.w) uvs.length (PairRel uvs) prs := by
    refine ⟨by omega, fun i key v hR => ?_⟩
    obtain ⟨b, k, e1, e2, e3, e4⟩ := hpr i key v hR
    exact ⟨k, e2, e4⟩
  refine PySem.call_dict_pairs (knd := mixKind X.prog X.w) (kvs := prs) (PairArg.tuple a (ps.map Value.ref).toArray (fun j => ps.getD j 0) uvs) (I.ok.hd hcalm) ⟨hPS, hPI⟩ hPH (by omega) fun h' tk hd' k => ?_
  have hm : (s.heap.objs.size == sysModules) = false := beq_eq_false_iff_ne.mpr (Nat.ne_of_gt I.big)
  have hlen : (mergeK [] kvs).length ≤ sizeLine := by
    refine Nat.le_trans (length_mergeK kvs []) ?_
    rw [List.length_nil, Nat.zero_add, rel.length, hl]
    exact hz
  exact ⟨.ref s.heap.objs.size, upd H s.heap.objs.size (.dK (mergeK [] kvs)), I.laid (t' := tk) (fun b o e => k b o List.not_mem_nil e) (Nat.le_refl _) (show ObjOk X.prog X.w _ _ _ (.dK (mergeK [] kvs)) from ⟨hlen, hm, merged [] prs, KV.merge rel .nil, hd'⟩), rfl, q _ (I.hok.fresh (Nat.le_refl _))⟩
end
end Fm
namespace Fm
open PySem PySem.Spec PyProof.Rows L2 SlX
structure DefAt (K : PySem.W.Frag) (mg : Str → Option Value) (x : Str) (st : Stmt) (ps : List Str) where
  f : Addr
  fd : FuncData
  F : Fun K x x st f fd
  g : mg x = some (.ref f)
  b : Binds K fd ps []
def topS (i : Nat) : Stmt := PySem.Challenge.pw_framemoves_k29_whole_instances.main.body.getD i (.Pass ⟨0, 0, 0, 0⟩)
abbrev s_put : Stmt := topS 9
abbrev N_put : List Str := ["term", "values", "part"]
abbrev P_put : List Str := ["term", "values"]
theorem sc_put : FnScope N_put P_put (defScope s_put) := ⟨rfl, rfl, rfl, by decide +kernel, rfl, by decide +kernel, by decide +kernel⟩
abbrev s_put_all : Stmt := topS 10
abbrev N_put_all : List Str := ["terms", "values", "term"]
abbrev P_put_all : List Str := ["terms", "values"]
theorem sc_put_all : FnScope N_put_all P_put_all (defScope s_put_all) := ⟨rfl, rfl, rfl, by decide +kernel, rfl, by decide +kernel, by decide +kernel⟩
abbrev s_size : Stmt := topS 11
abbrev N_size : List Str := ["terms", "found", "waiting", "term"]
abbrev P_size : List Str := ["terms"]
theorem sc_size : FnScope N_size P_size (defScope s_size) := ⟨rfl, rfl, rfl, by decide +kernel, rfl, by decide +kernel, by decide +kernel⟩
abbrev s_leaves : Stmt := topS 12
abbrev N_leaves : List Str := ["terms", "found", "waiting", "term"]
abbrev P_leaves : List Str := ["terms"]
theorem sc_leaves : FnScope N_leaves P_leaves (defScope s_leaves) := ⟨rfl, rfl, rfl, by decide +kernel, rfl, by decide +kernel, by decide +kernel⟩
abbrev s_size_put : Stmt := topS 16
abbrev N_size_put : List Str := ["terms", "values", "sizes", "value", "unknown"]
abbrev P_size_put : List Str := ["terms", "values"]
theorem sc_size_put : FnScope N_size_put P_size_put (defScope s_size_put) := ⟨rfl, rfl, rfl, by decide +kernel, rfl, by decide +kernel, by decide +kernel⟩
abbrev s_changed : Stmt := topS 17
abbrev N_changed : List Str := ["values", "changes", "terms", "variable", "term"]
abbrev P_changed : List Str := ["values", "changes"]
theorem sc_changed : FnScope N_changed P_changed (defScope s_changed) := ⟨rfl, rfl, rfl, by decide +kernel, rfl, by decide +kernel, by decide +kernel⟩
abbrev s_after_set : Stmt := topS 18
abbrev N_after_set : List Str := ["code", "frame", "place", "values", "statement"]
abbrev P_after_set : List Str := ["code", "frame"]
theorem sc_after_set : FnScope N_after_set P_after_set (defScope s_after_set) := ⟨rfl, rfl, rfl, by decide +kernel, rfl, by decide +kernel, by decide +kernel⟩
abbrev s_onward : Stmt := topS 19
abbrev N_onward : List Str := ["code", "frame", "goal"]
abbrev P_onward : List Str := ["code", "frame"]
theorem sc_onward : FnScope N_onward P_onward (defScope s_onward) := ⟨rfl, rfl, rfl, by decide +kernel, rfl, by decide +kernel, by decide +kernel⟩
abbrev s_head : Stmt := topS 20
abbrev N_head : List Str := ["code", "frame", "statement"]
abbrev P_head : List Str := ["code", "frame"]
theorem sc_head : FnScope N_head P_head (defScope s_head) := ⟨rfl, rfl, rfl, by decide +kernel, rfl, by decide +kernel, by decide +kernel⟩
abbrev s_answered : Stmt := topS 21
abbrev N_answered : List Str := ["code", "frame", "outcome", "fresh", "statement", "one", "variables", "goal", "values", "at", "variable"]
abbrev P_answered : List Str := ["code", "frame", "outcome", "fresh"]
theorem sc_answered : FnScope N_answered P_answered (defScope s_answered) := ⟨rfl, rfl, rfl, by decide +kernel, rfl, by decide +kernel, by decide +kernel⟩
abbrev s_is_integer : Stmt := topS 26
abbrev N_is_integer : List Str := ["thing"]
abbrev P_is_integer : List Str := ["thing"]
theorem sc_is_integer : FnScope N_is_integer P_is_integer (defScope s_is_integer) := ⟨rfl, rfl, rfl, by decide +kernel, rfl, by decide +kernel, by decide +kernel⟩
abbrev s_is_name : Stmt := topS 27
abbrev N_is_name : List Str := ["thing", "sign"]
abbrev P_is_name : List Str := ["thing"]
theorem sc_is_name : FnScope N_is_name P_is_name (defScope s_is_name) := ⟨rfl, rfl, rfl, by decide +kernel, rfl, by decide +kernel, by decide +kernel⟩
abbrev s_is_outcome : Stmt := topS 28
abbrev N_is_outcome : List Str := ["thing"]
abbrev P_is_outcome : List Str := ["thing"]
theorem sc_is_outcome : FnScope N_is_outcome P_is_outcome (defScope s_is_outcome) := ⟨rfl, rfl, rfl, by decide +kernel, rfl, by decide +kernel, by decide +kernel⟩
abbrev s_is_term : Stmt := topS 29
abbrev N_is_term : List Str := ["thing", "waiting", "one"]
abbrev P_is_term : List Str := ["thing"]
theorem sc_is_term : FnScope N_is_term P_is_term (defScope s_is_term) := ⟨rfl, rfl, rfl, by decide +kernel, rfl, by decide +kernel, by decide +kernel⟩
abbrev s_is_term_over : Stmt := topS 30
abbrev N_is_term_over : List Str := ["many", "thing", "waiting", "one"]
abbrev P_is_term_over : List Str := ["many", "thing"]
theorem sc_is_term_over : FnScope N_is_term_over P_is_term_over (defScope s_is_term_over) := ⟨rfl, rfl, rfl, by decide +kernel, rfl, by decide +kernel, by decide +kernel⟩
abbrev s_is_within : Stmt := topS 35
abbrev N_is_within : List Str := ["thing", "most"]
abbrev P_is_within : List Str := ["thing", "most"]
theorem sc_is_within : FnScope N_is_within P_is_within (defScope s_is_within) := ⟨rfl, rfl, rfl, by decide +kernel, rfl, by decide +kernel, by decide +kernel⟩
abbrev s_are_outcomes : Stmt := topS 36
abbrev N_are_outcomes : List Str := ["thing", "outcome"]
abbrev P_are_outcomes : List Str := ["thing"]
theorem sc_are_outcomes : FnScope N_are_outcomes P_are_outcomes (defScope s_are_outcomes) := ⟨rfl, rfl, rfl, by decide +kernel, rfl, by decide +kernel, by decide +kernel⟩
abbrev s_is_act : Stmt := topS 37
abbrev N_is_act : List Str := ["thing"]
abbrev P_is_act : List Str := ["thing"]
theorem sc_is_act : FnScope N_is_act P_is_act (defScope s_is_act) := ⟨rfl, rfl, rfl, by decide +kernel, rfl, by decide +kernel, by decide +kernel⟩
abbrev s_are_different : Stmt := topS 43
abbrev N_are_different : List Str := ["many", "thing", "one"]
abbrev P_are_different : List Str := ["many", "thing"]
theorem sc_are_different : FnScope N_are_different P_are_different (defScope s_are_different) := ⟨rfl, rfl, rfl, by decide +kernel, rfl, by decide +kernel, by decide +kernel⟩
abbrev s_are_terms_over : Stmt := topS 44
abbrev N_are_terms_over : List Str := ["many", "thing", "term"]
abbrev P_are_terms_over : List Str := ["many", "thing"]
theorem sc_are_terms_over : FnScope N_are_terms_over P_are_terms_over (defScope s_are_terms_over) := ⟨rfl, rfl, rfl, by decide +kernel, rfl, by decide +kernel, by decide +kernel⟩
abbrev s_is_place : Stmt := topS 45
abbrev N_is_place : List Str := ["places", "thing"]
abbrev P_is_place : List Str := ["places", "thing"]
theorem sc_is_place : FnScope N_is_place P_is_place (defScope s_is_place) := ⟨rfl, rfl, rfl, by decide +kernel, rfl, by decide +kernel, by decide +kernel⟩
abbrev s_is_pair : Stmt := topS 46
abbrev N_is_pair : List Str := ["thing"]
abbrev P_is_pair : List Str := ["thing"]
theorem sc_is_pair : FnScope N_is_pair P_is_pair (defScope s_is_pair) := ⟨rfl, rfl, rfl, by decide +kernel, rfl, by decide +kernel, by decide +kernel⟩
abbrev s_is_set : Stmt := topS 47
abbrev N_is_set : List Str := ["variables", "places", "thing", "change"]
abbrev P_is_set : List Str := ["variables", "places", "thing"]
theorem sc_is_set : FnScope N_is_set P_is_set (defScope s_is_set) := ⟨rfl, rfl, rfl, by decide +kernel, rfl, by decide +kernel, by decide +kernel⟩
abbrev s_is_way : Stmt := topS 48
abbrev N_is_way : List Str := ["world", "variables", "places", "act", "thing"]
abbrev P_is_way : List Str := ["world", "variables", "places", "act", "thing"]
theorem sc_is_way : FnScope N_is_way P_is_way (defScope s_is_way) := ⟨rfl, rfl, rfl, by decide +kernel, rfl, by decide +kernel, by decide +kernel⟩
abbrev s_is_ask : Stmt := topS 49
abbrev N_is_ask : List Str := ["world", "variables", "places", "thing", "word", "act", "terms", "ways", "way"]
abbrev P_is_ask : List Str := ["world", "variables", "places", "thing"]
theorem sc_is_ask : FnScope N_is_ask P_is_ask (defScope s_is_ask) := ⟨rfl, rfl, rfl, by decide +kernel, rfl, by decide +kernel, by decide +kernel⟩
abbrev s_is_end : Stmt := topS 50
abbrev N_is_end : List Str := ["variables", "thing"]
abbrev P_is_end : List Str := ["variables", "thing"]
theorem sc_is_end : FnScope N_is_end P_is_end (defScope s_is_end) := ⟨rfl, rfl, rfl, by decide +kernel, rfl, by decide +kernel, by decide +kernel⟩
abbrev s_is_statement : Stmt := topS 51
abbrev N_is_statement : List Str := ["world", "variables", "places", "thing"]
abbrev P_is_statement : List Str := ["world", "variables", "places", "thing"]
theorem sc_is_statement : FnScope N_is_statement P_is_statement (defScope s_is_statement) := ⟨rfl, rfl, rfl, by decide +kernel, rfl, by decide +kernel, by decide +kernel⟩
abbrev s_ordered : Stmt := topS 52
abbrev N_ordered : List Str := ["statement"]
abbrev P_ordered : List Str := ["statement"]
theorem sc_ordered : FnScope N_ordered P_ordered (defScope s_ordered) := ⟨rfl, rfl, rfl, by decide +kernel, rfl, by decide +kernel, by decide +kernel⟩
abbrev s_first_of : Stmt := topS 53
abbrev N_first_of : List Str := ["row"]
abbrev P_first_of : List Str := ["row"]
theorem sc_first_of : FnScope N_first_of P_first_of (defScope s_first_of) := ⟨rfl, rfl, rfl, by decide +kernel, rfl, by decide +kernel, by decide +kernel⟩
abbrev s__law_bag : Stmt := topS 56
abbrev N__law_bag : List Str := ["_law_script", "_law_cell"]
abbrev P__law_bag : List Str := ["_law_script"]
theorem sc__law_bag : FnScope N__law_bag P__law_bag (defScope s__law_bag) := ⟨rfl, rfl, rfl, by decide +kernel, rfl, by decide +kernel, by decide +kernel⟩
abbrev s__law_take : Stmt := topS 57
abbrev N__law_take : List Str := ["_law_bag_here", "_law_many", "_law_cell", "_law_mixed_here", "_law_value", "_law_begin", "_law_second"]
abbrev P__law_take : List Str := ["_law_bag_here", "_law_many"]
theorem sc__law_take : FnScope N__law_take P__law_take (defScope s__law_take) := ⟨rfl, rfl, rfl, by decide +kernel, rfl, by decide +kernel, by decide +kernel⟩
abbrev s__law_alike : Stmt := topS 58
abbrev N__law_alike : List Str := ["_law_found", "_law_due"]
abbrev P__law_alike : List Str := ["_law_found", "_law_due"]
theorem sc__law_alike : FnScope N__law_alike P__law_alike (defScope s__law_alike) := ⟨rfl, rfl, rfl, by decide +kernel, rfl, by decide +kernel, by decide +kernel⟩
abbrev s__law_mixed : Stmt := topS 59
abbrev N__law_mixed : List Str := ["_law_bag_here", "_law_things", "_law_found", "_law_thing"]
abbrev P__law_mixed : List Str := ["_law_bag_here", "_law_things"]
theorem sc__law_mixed : FnScope N__law_mixed P__law_mixed (defScope s__law_mixed) := ⟨rfl, rfl, rfl, by decide +kernel, rfl, by decide +kernel, by decide +kernel⟩
abbrev s__law_names : Stmt := topS 60
abbrev N__law_names : List Str := ["_law_bag_here", "_law_many", "_law_letters", "_law_words", "_law_way", "_law_turn", "_law_base", "_law_at", "_law_k"]
abbrev P__law_names : List Str := ["_law_bag_here", "_law_many"]
theorem sc__law_names : FnScope N__law_names P__law_names (defScope s__law_names) := ⟨rfl, rfl, rfl, by decide +kernel, rfl, by decide +kernel, by decide +kernel⟩
abbrev s__law_term : Stmt := topS 61
abbrev N__law_term : List Str := ["_law_bag_here", "_law_names_here", "_law_many", "_law_deep", "_law_way", "_law_name", "_law_parts", "_law_k"]
abbrev P__law_term : List Str := ["_law_bag_here", "_law_names_here", "_law_many", "_law_deep"]
theorem sc__law_term : FnScope N__law_term P__law_term (defScope s__law_term) := ⟨rfl, rfl, rfl, by decide +kernel, rfl, by decide +kernel, by decide +kernel⟩
abbrev s__law_put : Stmt := topS 62
abbrev N__law_put : List Str := ["_law_term_here", "_law_values", "_law_part"]
abbrev P__law_put : List Str := ["_law_term_here", "_law_values"]
theorem sc__law_put : FnScope N__law_put P__law_put (defScope s__law_put) := ⟨rfl, rfl, rfl, by decide +kernel, rfl, by decide +kernel, by decide +kernel⟩
abbrev s__law_leaves : Stmt := topS 63
abbrev N__law_leaves : List Str := ["_law_terms", "_law_found", "_law_term_here"]
abbrev P__law_leaves : List Str := ["_law_terms"]
theorem sc__law_leaves : FnScope N__law_leaves P__law_leaves (defScope s__law_leaves) := ⟨rfl, rfl, rfl, by decide +kernel, rfl, by decide +kernel, by decide +kernel⟩
abbrev s__law_size : Stmt := topS 64
abbrev N__law_size : List Str := ["_law_terms", "_law_term_here"]
abbrev P__law_size : List Str := ["_law_terms"]
theorem sc__law_size : FnScope N__law_size P__law_size (defScope s__law_size) := ⟨rfl, rfl, rfl, by decide +kernel, rfl, by decide +kernel, by decide +kernel⟩
abbrev s__law_acts : Stmt := topS 65
abbrev N__law_acts : List Str := ["_law_bag_here", "_law_many", "_law_names_here", "_law_words", "_law_acts_here", "_law_name", "_law_outcomes", "_law_word"]
abbrev P__law_acts : List Str := ["_law_bag_here", "_law_many"]
theorem sc__law_acts : FnScope N__law_acts P__law_acts (defScope s__law_acts) := ⟨rfl, rfl, rfl, by decide +kernel, rfl, by decide +kernel, by decide +kernel⟩
abbrev s__law_world_of : Stmt := topS 66
abbrev N__law_world_of : List Str := ["_law_bag_here", "_law_acts_here", "_law_rows", "_law_name"]
abbrev P__law_world_of : List Str := ["_law_bag_here", "_law_acts_here"]
theorem sc__law_world_of : FnScope N__law_world_of P__law_world_of (defScope s__law_world_of) := ⟨rfl, rfl, rfl, by decide +kernel, rfl, by decide +kernel, by decide +kernel⟩
abbrev s__law_goal : Stmt := topS 67
abbrev N__law_goal : List Str := ["_law_bag_here", "_law_at", "_law_places"]
abbrev P__law_goal : List Str := ["_law_bag_here", "_law_at", "_law_places"]
theorem sc__law_goal : FnScope N__law_goal P__law_goal (defScope s__law_goal) := ⟨rfl, rfl, rfl, by decide +kernel, rfl, by decide +kernel, by decide +kernel⟩
abbrev s__law_ask : Stmt := topS 68
abbrev N__law_ask : List Str := ["_law_bag_here", "_law_acts_here", "_law_operations", "_law_many", "_law_at", "_law_places", "_law_act", "_law_terms", "_law_ways", "_law_outcome", "_law_taken", "_law_k"]
abbrev P__law_ask : List Str := ["_law_bag_here", "_law_acts_here", "_law_operations", "_law_many", "_law_at", "_law_places"]
theorem sc__law_ask : FnScope N__law_ask P__law_ask (defScope s__law_ask) := ⟨rfl, rfl, rfl, by decide +kernel, rfl, by decide +kernel, by decide +kernel⟩
abbrev s__law_line : Stmt := topS 69
abbrev N__law_line : List Str := ["_law_bag_here", "_law_acts_here", "_law_operations", "_law_many", "_law_at", "_law_places", "_law_way", "_law_told", "_law_taken", "_law_changes", "_law_one", "_law_k"]
abbrev P__law_line : List Str := ["_law_bag_here", "_law_acts_here", "_law_operations", "_law_many", "_law_at", "_law_places"]
theorem sc__law_line : FnScope N__law_line P__law_line (defScope s__law_line) := ⟨rfl, rfl, rfl, by decide +kernel, rfl, by decide +kernel, by decide +kernel⟩
abbrev s__law_code : Stmt := topS 70
abbrev N__law_code : List Str := ["_law_bag_here", "_law_acts_here", "_law_places", "_law_many", "_law_operations", "_law_rows", "_law_at"]
abbrev P__law_code : List Str := ["_law_bag_here", "_law_acts_here", "_law_places", "_law_many"]
theorem sc__law_code : FnScope N__law_code P__law_code (defScope s__law_code) := ⟨rfl, rfl, rfl, by decide +kernel, rfl, by decide +kernel, by decide +kernel⟩
abbrev s__law_code_of : Stmt := topS 71
abbrev N__law_code_of : List Str := ["_law_bag_here", "_law_world", "_law_code_here", "_law_rows", "_law_row"]
abbrev P__law_code_of : List Str := ["_law_bag_here", "_law_world", "_law_code_here"]
theorem sc__law_code_of : FnScope N__law_code_of P__law_code_of (defScope s__law_code_of) := ⟨rfl, rfl, rfl, by decide +kernel, rfl, by decide +kernel, by decide +kernel⟩
abbrev s__law_showing : Stmt := topS 72
abbrev N__law_showing : List Str := ["_law_code_here", "_law_place", "_law_turn"]
abbrev P__law_showing : List Str := ["_law_code_here", "_law_place"]
theorem sc__law_showing : FnScope N__law_showing P__law_showing (defScope s__law_showing) := ⟨rfl, rfl, rfl, by decide +kernel, rfl, by decide +kernel, by decide +kernel⟩
abbrev s__law_grown : Stmt := topS 73
abbrev N__law_grown : List Str := ["_law_terms", "_law_values", "_law_one"]
abbrev P__law_grown : List Str := ["_law_terms", "_law_values"]
theorem sc__law_grown : FnScope N__law_grown P__law_grown (defScope s__law_grown) := ⟨rfl, rfl, rfl, by decide +kernel, rfl, by decide +kernel, by decide +kernel⟩
abbrev s__law_changed : Stmt := topS 74
abbrev N__law_changed : List Str := ["_law_values", "_law_changes", "_law_known", "_law_terms", "_law_at", "_law_term_here"]
abbrev P__law_changed : List Str := ["_law_values", "_law_changes"]
theorem sc__law_changed : FnScope N__law_changed P__law_changed (defScope s__law_changed) := ⟨rfl, rfl, rfl, by decide +kernel, rfl, by decide +kernel, by decide +kernel⟩
abbrev s__law_onward : Stmt := topS 75
abbrev N__law_onward : List Str := ["_law_code_here", "_law_frame", "_law_goal_here", "_law_row", "_law_values"]
abbrev P__law_onward : List Str := ["_law_code_here", "_law_frame"]
theorem sc__law_onward : FnScope N__law_onward P__law_onward (defScope s__law_onward) := ⟨rfl, rfl, rfl, by decide +kernel, rfl, by decide +kernel, by decide +kernel⟩
abbrev s__law_head : Stmt := topS 76
abbrev N__law_head : List Str := ["_law_code_here", "_law_frame", "_law_later", "_law_row", "_law_term_here"]
abbrev P__law_head : List Str := ["_law_code_here", "_law_frame"]
theorem sc__law_head : FnScope N__law_head P__law_head (defScope s__law_head) := ⟨rfl, rfl, rfl, by decide +kernel, rfl, by decide +kernel, by decide +kernel⟩
abbrev s__law_filled : Stmt := topS 77
abbrev N__law_filled : List Str := ["_law_term_here", "_law_terms", "_law_part"]
abbrev P__law_filled : List Str := ["_law_term_here", "_law_terms"]
theorem sc__law_filled : FnScope N__law_filled P__law_filled (defScope s__law_filled) := ⟨rfl, rfl, rfl, by decide +kernel, rfl, by decide +kernel, by decide +kernel⟩
abbrev s__law_is_small : Stmt := topS 78
abbrev N__law_is_small : List Str := ["_law_code_here", "_law_frame", "_law_second", "_law_heads"]
abbrev P__law_is_small : List Str := ["_law_code_here", "_law_frame", "_law_second"]
theorem sc__law_is_small : FnScope N__law_is_small P__law_is_small (defScope s__law_is_small) := ⟨rfl, rfl, rfl, by decide +kernel, rfl, by decide +kernel, by decide +kernel⟩
abbrev s__law_right : Stmt := topS 79
abbrev N__law_right : List Str := ["_law_bag_here", "_law_told", "_law_code_here", "_law_frame", "_law_second", "_law_terms", "_law_step", "_law_one", "_law_other", "_law_mine", "_law_its", "_law_row", "_law_outcome", "_law_fresh", "_law_value", "_law_term_here"]
abbrev P__law_right : List Str := ["_law_bag_here", "_law_told", "_law_code_here", "_law_frame", "_law_second", "_law_terms"]
theorem sc__law_right : FnScope N__law_right P__law_right (defScope s__law_right) := ⟨rfl, rfl, rfl, by decide +kernel, rfl, by decide +kernel, by decide +kernel⟩
abbrev s_law : Stmt := topS 80
abbrev N_law : List Str := ["_law_script", "_law_bag_here", "_law_turn", "_law_acts_here", "_law_world", "_law_code_here", "_law_told", "_law_operations", "_law_k", "_law_terms", "_law_values", "_law_place", "_law_second", "_law_j", "_law_value"]
abbrev P_law : List Str := ["_law_script"]
theorem sc_law : FnScope N_law P_law (defScope s_law) := ⟨rfl, rfl, rfl, by decide +kernel, rfl, by decide +kernel, by decide +kernel⟩
abbrev s_World___init__ : Stmt := inClass (topS 38) 1
abbrev N_World___init__ : List Str := ["self", "acts", "name"]
abbrev P_World___init__ : List Str := ["self", "acts"]
theorem sc_World___init__ : FnScope N_World___init__ P_World___init__ (defScope s_World___init__) := ⟨rfl, rfl, rfl, by decide +kernel, rfl, by decide +kernel, by decide +kernel⟩
abbrev s_World_acts : Stmt := inClass (topS 38) 2
abbrev N_World_acts : List Str := ["self"]
abbrev P_World_acts : List Str := ["self"]
theorem sc_World_acts : FnScope N_World_acts P_World_acts (defScope s_World_acts) := ⟨rfl, rfl, rfl, by decide +kernel, rfl, by decide +kernel, by decide +kernel⟩
abbrev s_World_arguments : Stmt := inClass (topS 38) 3
abbrev N_World_arguments : List Str := ["self", "act"]
abbrev P_World_arguments : List Str := ["self", "act"]
theorem sc_World_arguments : FnScope N_World_arguments P_World_arguments (defScope s_World_arguments) := ⟨rfl, rfl, rfl, by decide +kernel, rfl, by decide +kernel, by decide +kernel⟩
abbrev s_World_outcomes : Stmt := inClass (topS 38) 4
abbrev N_World_outcomes : List Str := ["self", "act"]
abbrev P_World_outcomes : List Str := ["self", "act"]
theorem sc_World_outcomes : FnScope N_World_outcomes P_World_outcomes (defScope s_World_outcomes) := ⟨rfl, rfl, rfl, by decide +kernel, rfl, by decide +kernel, by decide +kernel⟩
abbrev s_World_brings : Stmt := inClass (topS 38) 5
abbrev N_World_brings : List Str := ["self", "act", "outcome"]
abbrev P_World_brings : List Str := ["self", "act", "outcome"]
theorem sc_World_brings : FnScope N_World_brings P_World_brings (defScope s_World_brings) := ⟨rfl, rfl, rfl, by decide +kernel, rfl, by decide +kernel, by decide +kernel⟩
abbrev s_World___eq__ : Stmt := inClass (topS 38) 6
abbrev N_World___eq__ : List Str := ["self", "other"]
abbrev P_World___eq__ : List Str := ["self", "other"]
theorem sc_World___eq__ : FnScope N_World___eq__ P_World___eq__ (defScope s_World___eq__) := ⟨rfl, rfl, rfl, by decide +kernel, rfl, by decide +kernel, by decide +kernel⟩
abbrev s_Code___init__ : Stmt := inClass (topS 54) 1
abbrev N_Code___init__ : List Str := ["self", "world", "variables", "given", "statements", "fits", "at", "statement"]
abbrev P_Code___init__ : List Str := ["self", "world", "variables", "given", "statements"]
theorem sc_Code___init__ : FnScope N_Code___init__ P_Code___init__ (defScope s_Code___init__) := ⟨rfl, rfl, rfl, by decide +kernel, rfl, by decide +kernel, by decide +kernel⟩
abbrev s_Code_world : Stmt := inClass (topS 54) 2
abbrev N_Code_world : List Str := ["self"]
abbrev P_Code_world : List Str := ["self"]
theorem sc_Code_world : FnScope N_Code_world P_Code_world (defScope s_Code_world) := ⟨rfl, rfl, rfl, by decide +kernel, rfl, by decide +kernel, by decide +kernel⟩
abbrev s_Code_variables : Stmt := inClass (topS 54) 3
abbrev N_Code_variables : List Str := ["self"]
abbrev P_Code_variables : List Str := ["self"]
theorem sc_Code_variables : FnScope N_Code_variables P_Code_variables (defScope s_Code_variables) := ⟨rfl, rfl, rfl, by decide +kernel, rfl, by decide +kernel, by decide +kernel⟩
abbrev s_Code_given : Stmt := inClass (topS 54) 4
abbrev N_Code_given : List Str := ["self"]
abbrev P_Code_given : List Str := ["self"]
theorem sc_Code_given : FnScope N_Code_given P_Code_given (defScope s_Code_given) := ⟨rfl, rfl, rfl, by decide +kernel, rfl, by decide +kernel, by decide +kernel⟩
abbrev s_Code___len__ : Stmt := inClass (topS 54) 5
abbrev N_Code___len__ : List Str := ["self"]
abbrev P_Code___len__ : List Str := ["self"]
theorem sc_Code___len__ : FnScope N_Code___len__ P_Code___len__ (defScope s_Code___len__) := ⟨rfl, rfl, rfl, by decide +kernel, rfl, by decide +kernel, by decide +kernel⟩
abbrev s_Code_statement : Stmt := inClass (topS 54) 6
abbrev N_Code_statement : List Str := ["self", "place"]
abbrev P_Code_statement : List Str := ["self", "place"]
theorem sc_Code_statement : FnScope N_Code_statement P_Code_statement (defScope s_Code_statement) := ⟨rfl, rfl, rfl, by decide +kernel, rfl, by decide +kernel, by decide +kernel⟩
abbrev s_Code_statements : Stmt := inClass (topS 54) 7
abbrev N_Code_statements : List Str := ["self"]
abbrev P_Code_statements : List Str := ["self"]
theorem sc_Code_statements : FnScope N_Code_statements P_Code_statements (defScope s_Code_statements) := ⟨rfl, rfl, rfl, by decide +kernel, rfl, by decide +kernel, by decide +kernel⟩
abbrev s_Code_first : Stmt := inClass (topS 54) 8
abbrev N_Code_first : List Str := ["self"]
abbrev P_Code_first : List Str := ["self"]
theorem sc_Code_first : FnScope N_Code_first P_Code_first (defScope s_Code_first) := ⟨rfl, rfl, rfl, by decide +kernel, rfl, by decide +kernel, by decide +kernel⟩
abbrev s_Code_showing : Stmt := inClass (topS 54) 9
abbrev N_Code_showing : List Str := ["self", "place", "been", "statement"]
abbrev P_Code_showing : List Str := ["self", "place"]
theorem sc_Code_showing : FnScope N_Code_showing P_Code_showing (defScope s_Code_showing) := ⟨rfl, rfl, rfl, by decide +kernel, rfl, by decide +kernel, by decide +kernel⟩
abbrev s_Code_parts : Stmt := inClass (topS 54) 10
abbrev N_Code_parts : List Str := ["self"]
abbrev P_Code_parts : List Str := ["self"]
theorem sc_Code_parts : FnScope N_Code_parts P_Code_parts (defScope s_Code_parts) := ⟨rfl, rfl, rfl, by decide +kernel, rfl, by decide +kernel, by decide +kernel⟩
abbrev s_Code___eq__ : Stmt := inClass (topS 54) 11
abbrev N_Code___eq__ : List Str := ["self", "other"]
abbrev P_Code___eq__ : List Str := ["self", "other"]
theorem sc_Code___eq__ : FnScope N_Code___eq__ P_Code___eq__ (defScope s_Code___eq__) := ⟨rfl, rfl, rfl, by decide +kernel, rfl, by decide +kernel, by decide +kernel⟩
structure TX (K : PySem.W.Frag) (mg : Str → Option Value) where
  d_put : DefAt K mg "put" s_put P_put
  d_put_all : DefAt K mg "put_all" s_put_all P_put_all
  d_size : DefAt K mg "size" s_size P_size
  d_leaves : DefAt K mg "leaves" s_leaves P_leaves
  d_size_put : DefAt K mg "size_put" s_size_put P_size_put
  d_changed : DefAt K mg "changed" s_changed P_changed
  d_after_set : DefAt K mg "after_set" s_after_set P_after_set
  d_onward : DefAt K mg "onward" s_onward P_onward
  d_head : DefAt K mg "head" s_head P_head
  d_answered : DefAt K mg "answered" s_answered P_answered
  d_is_integer : DefAt K mg "is_integer" s_is_integer P_is_integer
  d_is_name : DefAt K mg "is_name" s_is_name P_is_name
  d_is_outcome : DefAt K mg "is_outcome" s_is_outcome P_is_outcome
  d_is_term : DefAt K mg "is_term" s_is_term P_is_term
  d_is_term_over : DefAt K mg "is_term_over" s_is_term_over P_is_term_over
  d_is_within : DefAt K mg "is_within" s_is_within P_is_within
  d_are_outcomes : DefAt K mg "are_outcomes" s_are_outcomes P_are_outcomes
  d_is_act : DefAt K mg "is_act" s_is_act P_is_act
  d_are_different : DefAt K mg "are_different" s_are_different P_are_different
  d_are_terms_over : DefAt K mg "are_terms_over" s_are_terms_over P_are_terms_over
  d_is_place : DefAt K mg "is_place" s_is_place P_is_place
  d_is_pair : DefAt K mg "is_pair" s_is_pair P_is_pair
  d_is_set : DefAt K mg "is_set" s_is_set P_is_set
  d_is_way : DefAt K mg "is_way" s_is_way P_is_way
  d_is_ask : DefAt K mg "is_ask" s_is_ask P_is_ask
  d_is_end : DefAt K mg "is_end" s_is_end P_is_end
  d_is_statement : DefAt K mg "is_statement" s_is_statement P_is_statement
  d_ordered : DefAt K mg "ordered" s_ordered P_ordered
  d_first_of : DefAt K mg "first_of" s_first_of P_first_of
  d__law_bag : DefAt K mg "_law_bag" s__law_bag P__law_bag
  d__law_take : DefAt K mg "_law_take" s__law_take P__law_take
  d__law_alike : DefAt K mg "_law_alike" s__law_alike P__law_alike
  d__law_mixed : DefAt K mg "_law_mixed" s__law_mixed P__law_mixed
  d__law_names : DefAt K mg "_law_names" s__law_names P__law_names
  d__law_term : DefAt K mg "_law_term" s__law_term P__law_term
  d__law_put : DefAt K mg "_law_put" s__law_put P__law_put
  d__law_leaves : DefAt K mg "_law_leaves" s__law_leaves P__law_leaves
  d__law_size : DefAt K mg "_law_size" s__law_size P__law_size
  d__law_acts : DefAt K mg "_law_acts" s__law_acts P__law_acts
  d__law_world_of : DefAt K mg "_law_world_of" s__law_world_of P__law_world_of
  d__law_goal : DefAt K mg "_law_goal" s__law_goal P__law_goal
  d__law_ask : DefAt K mg "_law_ask" s__law_ask P__law_ask
  d__law_line : DefAt K mg "_law_line" s__law_line P__law_line
  d__law_code : DefAt K mg "_law_code" s__law_code P__law_code
  d__law_code_of : DefAt K mg "_law_code_of" s__law_code_of P__law_code_of
  d__law_showing : DefAt K mg "_law_showing" s__law_showing P__law_showing
  d__law_grown : DefAt K mg "_law_grown" s__law_grown P__law_grown
  d__law_changed : DefAt K mg "_law_changed" s__law_changed P__law_changed
  d__law_onward : DefAt K mg "_law_onward" s__law_onward P__law_onward
  d__law_head : DefAt K mg "_law_head" s__law_head P__law_head
  d__law_filled : DefAt K mg "_law_filled" s__law_filled P__law_filled
  d__law_is_small : DefAt K mg "_law_is_small" s__law_is_small P__law_is_small
  d__law_right : DefAt K mg "_law_right" s__law_right P__law_right
  d_law : DefAt K mg "law" s_law P_law
  C_World : Addr
  g_World : mg "World" = some (.ref C_World)
  k_World : PySem.W.keepIn K (.ref C_World) = true
  c_World : SCls K C_World
  mk_World : PySem.W.makesIn K C_World = true
  is_World : SIsi K C_World
  p_World_its_acts : Addr
  sl_World_its_acts : Slot1 K C_World "its_acts" p_World_its_acts 0
  d_World___init__ : MethAt K C_World "__init__" "World.__init__" s_World___init__ P_World___init__
  d_World_acts : MethAt K C_World "acts" "World.acts" s_World_acts P_World_acts
  d_World_arguments : MethAt K C_World "arguments" "World.arguments" s_World_arguments P_World_arguments
  d_World_outcomes : MethAt K C_World "outcomes" "World.outcomes" s_World_outcomes P_World_outcomes
  d_World_brings : MethAt K C_World "brings" "World.brings" s_World_brings P_World_brings
  d_World___eq__ : MethAt K C_World "__eq__" "World.__eq__" s_World___eq__ P_World___eq__
  C_Code : Addr
  g_Code : mg "Code" = some (.ref C_Code)
  k_Code : PySem.W.keepIn K (.ref C_Code) = true
  c_Code : SCls K C_Code
  mk_Code : PySem.W.makesIn K C_Code = true
  is_Code : SIsi K C_Code
  p_Code_its_given : Addr
  sl_Code_its_given : Slot1 K C_Code "its_given" p_Code_its_given 0
  p_Code_its_statements : Addr
  sl_Code_its_statements : Slot1 K C_Code "its_statements" p_Code_its_statements 1
  p_Code_its_variables : Addr
  sl_Code_its_variables : Slot1 K C_Code "its_variables" p_Code_its_variables 2
  p_Code_its_world : Addr
  sl_Code_its_world : Slot1 K C_Code "its_world" p_Code_its_world 3
  d_Code___init__ : MethAt K C_Code "__init__" "Code.__init__" s_Code___init__ P_Code___init__
  d_Code___len__ : MethAt K C_Code "__len__" "Code.__len__" s_Code___len__ P_Code___len__
  d_Code_statement : MethAt K C_Code "statement" "Code.statement" s_Code_statement P_Code_statement
  d_Code_statements : MethAt K C_Code "statements" "Code.statements" s_Code_statements P_Code_statements
  d_Code_first : MethAt K C_Code "first" "Code.first" s_Code_first P_Code_first
  d_Code_showing : MethAt K C_Code "showing" "Code.showing" s_Code_showing P_Code_showing
  d_Code_parts : MethAt K C_Code "parts" "Code.parts" s_Code_parts P_Code_parts
  d_Code___eq__ : MethAt K C_Code "__eq__" "Code.__eq__" s_Code___eq__ P_Code___eq__
  b_ValueError : mg "ValueError" = none
  b_abs : mg "abs" = none
  b_all : mg "all" = none
  b_bool : mg "bool" = none
  b_dict : mg "dict" = none
  b_enumerate : mg "enumerate" = none
  b_int : mg "int" = none
  b_isinstance : mg "isinstance" = none
  b_len : mg "len" = none
  b_list : mg "list" = none
  b_min : mg "min" = none
  b_range : mg "range" = none
  b_repr : mg "repr" = none
  b_set : mg "set" = none
  b_sorted : mg "sorted" = none
  b_str : mg "str" = none
  b_sum : mg "sum" = none
  b_tuple : mg "tuple" = none
  v_MOST_OPERATIONS : Value
  c_MOST_OPERATIONS : mg "MOST_OPERATIONS" = some v_MOST_OPERATIONS
  r_MOST_OPERATIONS : RelV (.int 200) v_MOST_OPERATIONS
  a_SILENT : Addr
  c_SILENT : mg "SILENT" = some (.ref a_SILENT)
  q_SILENT : ∀ H : Hp, SqT K H a_SILENT [.str "silent"]
  v_LETTERS : Value
  c_LETTERS : mg "LETTERS" = some v_LETTERS
  r_LETTERS : RelV (.str "abcdefghijklmnopqrstuvwxyz") v_LETTERS
  v_MOST_LETTERS : Value
  c_MOST_LETTERS : mg "MOST_LETTERS" = some v_MOST_LETTERS
  r_MOST_LETTERS : RelV (.int 8) v_MOST_LETTERS
  v_MOST_PARTS : Value
  c_MOST_PARTS : mg "MOST_PARTS" = some v_MOST_PARTS
  r_MOST_PARTS : RelV (.int 3) v_MOST_PARTS
  v_MOST_ARGUMENTS : Value
  c_MOST_ARGUMENTS : mg "MOST_ARGUMENTS" = some v_MOST_ARGUMENTS
  r_MOST_ARGUMENTS : RelV (.int 2) v_MOST_ARGUMENTS
  v_MOST_OUTCOMES : Value
  c_MOST_OUTCOMES : mg "MOST_OUTCOMES" = some v_MOST_OUTCOMES
  r_MOST_OUTCOMES : RelV (.int 6) v_MOST_OUTCOMES
  v_MOST_BROUGHT : Value
  c_MOST_BROUGHT : mg "MOST_BROUGHT" = some v_MOST_BROUGHT
  r_MOST_BROUGHT : RelV (.int 2) v_MOST_BROUGHT
  a_NIL : Addr
  c_NIL : mg "NIL" = some (.ref a_NIL)
  q_NIL : ∀ H : Hp, SqT K H a_NIL [.str "nil"]
  v_MOST_VARIABLES : Value
  c_MOST_VARIABLES : mg "MOST_VARIABLES" = some v_MOST_VARIABLES
  r_MOST_VARIABLES : RelV (.int 24) v_MOST_VARIABLES
  v_MOST_TOLD : Value
  c_MOST_TOLD : mg "MOST_TOLD" = some v_MOST_TOLD
  r_MOST_TOLD : RelV (.int 2) v_MOST_TOLD
structure TY (P : Program) (K : PySem.W.Frag) (mg : Str → Option Value) where
  C_MoveError : Addr
  x_MoveError : ExN K mg "MoveError" C_MoveError
  C_Wrong : Addr
  x_Wrong : ExT P K mg "Wrong" "place" C_Wrong
  C_BadAct : Addr
  x_BadAct : ExT P K mg "BadAct" "name" C_BadAct
  C_BadPlace : Addr
  x_BadPlace : ExT P K mg "BadPlace" "at" C_BadPlace
  C_TooMany : Addr
  x_TooMany : ExT P K mg "TooMany" "limit" C_TooMany
  C_NoPlace : Addr
  x_NoPlace : ExT P K mg "NoPlace" "place" C_NoPlace
  C_Unfit : Addr
  x_Unfit : ExN K mg "Unfit" C_Unfit
end Fm
namespace Fm
open PySem PySem.Spec PyProof.Rows L2
section
variable {P : Program} {w : World} {K : PySem.W.Frag} {mg : Str → Option Value} {base : Heap}
def sp_bag (K : PySem.W.Frag) : Sp := fun vs H Q _ => ∃ (a : Addr) (ns : List Int), vs = [.ref a] ∧ SqL K H a (ns.map V.int) ∧ ns.length ≤ 63 ∧ ∀ H' p, Mv [] H H' → H p = none → Bag H' p → Q (.ref p) H'
theorem cut63 (xs : List V) (h : xs.length ≤ 63) : cutV xs none (some 63) = xs := by
  unfold cutV
  rw [HT.sIx_none, show HT.sIx xs.length xs.length (some 63) = min 63 xs.length from HT.sIx_nat xs.length xs.length 63, List.drop_zero, List.take_of_length_le (by omega)]
theorem ok__law_bag (T : TX K mg) {k : Nat} : FnOk P w K mg base CX0 (k + 1) T.d__law_bag.f T.d__law_bag.fd P__law_bag (sp_bag K) := by
  refine T.d__law_bag.F.ok sc__law_bag (fun vs H Q E h => ?_) (fun cdv A outer s H vs Q E hr h => ?_)
  · obtain ⟨a, ns, rfl, _⟩ := h
    rfl
  · obtain ⟨a, ns, rfl, hS, hl, q⟩ := h
    refine ⟨_, (pss_one (ps_ret (pe_lst (pa_cons pe_int (pa_cons pe_int (pa_cons pe_int (pa_cons (pe_lc (own := [("_law_cell", 1)]) (g := gName 1) (by rfl) sc__law_bag.nd (pi_seq (pe_slice (r := rSlG K) sl_G (pv 0) po_none (po_some pe_int))) (blkOk_by (own := [("_law_cell", 1)]) (N := N__law_bag) (sc := defScope s__law_bag) (by decide +kernel)) (fun _ _ _ _ _ => pg_name (i := 1) sc__law_bag.nd rfl (Or.inl rfl)) (fun _ _ _ _ _ => pts_nil) (fun _ _ _ _ _ => (pe_callB call_abs (by rfl) T.b_abs bt_abs (pa_cons (pv 1) pa_nil)))) pa_nil))))))), ?_⟩
    refine ⟨.ref a, rfl, 63, rfl, Or.inl ⟨a, _, rfl, hS, fun c nc => ⟨c, rfl, Or.inl ⟨⟨_, .inl (.inl upd_same)⟩, fun D nD => ?_⟩⟩⟩⟩
    have hlen : (ns.map V.int).length ≤ 63 := by rw [List.length_map]; exact hl
    rw [cut63 _ hlen] at nD ⊢
    refine lc_list (K := K) (a := c) (xs := ns.map V.int) (fun i H3 => ∃ ms : List Int, H3 c = some (.lst (ns.map V.int)) ∧ H3 D = some (.lst (ms.map V.int)) ∧ ms.length = i ∧ (∀ n ∈ ms, 0 ≤ n) ∧ Mv [] H H3)
      ⟨[], ?_, upd_same, rfl, by simp, ?_⟩ (fun i H3 _ h3 => ?_) (fun i x H3 hx h3 => ?_) (fun H3 h3 => ?_)
    · rw [upd_ne (ne_of_none upd_same nD), upd_same]
    · exact (Mv.new nc).trans (.new nD)
    · obtain ⟨ms, h1, _⟩ := h3
      exact .inl (.inl h1)
    · obtain ⟨ms, h1, h2, h4, h5, h6⟩ := h3
      obtain ⟨n, hn, rfl⟩ : ∃ n ∈ ns, x = .int n := by
        have := List.mem_of_getElem? hx
        obtain ⟨n, hn, e⟩ := List.mem_map.mp this
        exact ⟨n, hn, e.symm⟩
      have hDc : c ≠ D := ne_of_none upd_same nD
      refine ⟨rfl, .int n, rfl, n, rfl, _, h2, ?_, ms ++ [if n < 0 then -n else n], ?_, ?_, ?_, ?_, ?_⟩
      · rw [List.length_map]
        have := (List.getElem?_eq_some_iff.mp hx).1
        rw [List.length_map] at this
        exact small1000 (by omega)
      · rw [upd_ne hDc]
        exact h1
      · rw [upd_same, List.map_append]
        rfl
      · simp [h4]
      · intro z hz
        rcases List.mem_append.mp hz with hz | hz
        · exact h5 z hz
        · rw [List.mem_singleton.mp hz]
          split <;> omega
      · exact h6.wr ((Mv.new nc).free nD)
    · obtain ⟨ms, h1, h2, h4, h5, h6⟩ := h3
      refine ⟨(by decide : 4 ≤ sizeLine), fun p np => q _ p (h6.trans (.new np)) (h6.free np) ⟨D, 0, 1234567891, 0, ms, upd_same, ?_, ?_, h5, by decide, by decide, by decide⟩⟩
      · rw [upd_ne (ne_of_none h2 np)]
        exact h2
      · rw [h4, List.length_map]
        exact hl

/-- a number from 0 to n - 1 is drawn -/
def sp_take : Sp := fun vs H Q _ => ∃ (b : Addr) (n : Int), vs = [.ref b, .int n] ∧ Bag H b ∧ 0 < n ∧ n ≤ 1000000 ∧ ∀ (i : Int) H', 0 ≤ i → i < n → Dr b H H' → Q (.int i) H'
theorem Bag.set {H : Hp} {b c : Addr} {ns : List Int} {s m k : Int} {xs : List V} (hb : H b = some (.lst xs)) (hc : H c = some (.lst (ns.map V.int))) (hcb : c ≠ b)
    (hl : ns.length ≤ 63) (hn : ∀ n ∈ ns, 0 ≤ n) (h1 : 0 ≤ s) (h2 : 0 ≤ k) (h3 : 0 ≤ m) : BagC (upd H b (.lst [.int s, .int m, .int k, .ref c])) b c :=
  ⟨s, m, k, ns, upd_same, by rw [upd_ne hcb]; exact hc, hl, hn, h1, h2, h3⟩
theorem rd_set {p : Addr} {xs ys : List V} {k : Int} {j : Nat} {v : V} {H : Hp} {Q : Hp → Prop} (hp : H p = some (.lst xs)) (hj : ixN xs.length k = some j) (hy : xs.set j v = ys)
    (h : ∀ H', H' p = some (.lst ys) → Mv [p] H H' → (∀ a, a ≠ p → H' a = H a) → Q H') : rSetL (.ref p) (.int k) v H Q := by
  refine ⟨p, xs, k, j, rfl, rfl, hp, hj, ?_⟩
  rw [hy]
  exact h _ upd_same (.set hp (by simp)) fun a ha => upd_ne ha
theorem ok__law_take (T : TX K mg) {k : Nat} : FnOk P w K mg base CX0 (k + 1) T.d__law_take.f T.d__law_take.fd P__law_take sp_take := by
  refine T.d__law_take.F.ok sc__law_take (fun vs H Q E h => ?_) (fun cdv A outer s H vs Q E hr h => ?_)
  · obtain ⟨a, ns, rfl, _⟩ := h
    rfl
  · obtain ⟨b, n, rfl, hB, h0, h1, q⟩ := h
    have hu64 := hr.units
    refine ⟨_, (Evl.pss_cut (ps_if (pt_cmpR (r := rEqG K) (op_eqG hu64) (pe_ix (r := rIx K) ix_seq (pv 0) pe_int (fun _ _ => rfl)) pe_int (nomark _)) (pss_cons (ps_set (i := 2) sc__law_take.nd rfl (Or.inl rfl) pe_int) (Evl.pss_cut (ps_if (pt_cmpR op_lt (pe_ix (r := rIx K) ix_seq (pv 0) pe_int (fun _ _ => rfl)) (pe_callB (r := rLenG K) call_lenG (by rfl) T.b_len bt_len (pa_cons (pe_ix (r := rIx K) ix_seq (pv 0) pe_int (fun _ _ => rfl)) pa_nil)) (nomark _)) (pss_one (ps_set (i := 2) sc__law_take.nd rfl (Or.inl rfl) (pe_ix (r := rIx K) ix_seq (pe_ix (r := rIx K) ix_seq (pv 0) pe_int (fun _ _ => rfl)) (pe_ix (r := rIx K) ix_seq (pv 0) pe_int (fun _ _ => rfl)) (fun _ _ => rfl)))) pss_nil) (pss_cons (ps_augS (pv 0) pe_int get_G pe_int ip_add set_list) (Evl.pss_cut (ps_if (pt_cmpR op_ge (pv 2) pe_int (nomark _)) (pss_one (ps_asg (pv 2) (pg_sub (pv 0) pe_int set_list))) pss_nil) (pss_cons (ps_set (i := 3) sc__law_take.nd rfl (Or.inl rfl) (pe_op (r := rAddG K) op_addG (pe_op (r := rAddG K) op_addG (pe_op op_mulG (pe_ix (r := rIx K) ix_seq (pv 0) pe_int (fun _ _ => rfl)) pe_int) (pe_op op_mod (pe_callTy call_int1 (by rfl) T.b_int bt_int (pa_cons (pv 2) pa_nil)) pe_int)) (pe_op op_mulG pe_int (pe_ix (r := rIx K) ix_seq (pv 0) pe_int (fun _ _ => rfl))))) (pss_one (ps_asg (pe_op op_mod (pe_callTy call_int1 (by rfl) T.b_int bt_int (pa_cons (pv 3) pa_nil)) pe_int) (pg_sub (pv 0) pe_int set_list)))))))) pss_nil) (pss_cons (ps_if (pt_cmpR op_gt (pe_ix (r := rIx K) ix_seq (pv 0) pe_int (fun _ _ => rfl)) pe_int (nomark _)) (pss_cons (ps_set (i := 4) sc__law_take.nd rfl (Or.inl rfl) (pe_op op_mod (pe_callTy call_int1 (by rfl) T.b_int bt_int (pa_cons (pe_ix (r := rIx K) ix_seq (pv 0) pe_int (fun _ _ => rfl)) pa_nil)) (pv 1))) (pss_cons (ps_asg (pe_op op_fdivW (pe_ix (r := rIx K) ix_seq (pv 0) pe_int (fun _ _ => rfl)) (pv 1)) (pg_sub (pv 0) pe_int set_list)) (pss_one (ps_ret (pv 4))))) pss_nil) (pss_cons (ps_set (i := 5) sc__law_take.nd rfl (Or.inl rfl) (pe_op op_mod (pe_callTy call_int1 (by rfl) T.b_int bt_int (pa_cons (pe_op op_mulG (pe_op (r := rAddG K) op_addG (pe_ix (r := rIx K) ix_seq (pv 0) pe_int (fun _ _ => rfl)) pe_int) pe_int) pa_nil)) pe_int)) (pss_cons (ps_set (i := 6) sc__law_take.nd rfl (Or.inl rfl) (pe_op op_mod (pe_callTy call_int1 (by rfl) T.b_int bt_int (pa_cons (pe_op op_mulG (pe_op op_mod (pe_callTy call_int1 (by rfl) T.b_int bt_int (pa_cons (pe_op op_mulG (pv 5) (pv 5)) pa_nil)) pe_int) pe_int) pa_nil)) pe_int)) (pss_cons (ps_if (pt_cmpR op_gt (pv 1) pe_int (nomark _)) (pss_one (ps_ret (pe_op op_mod (pe_callTy call_int1 (by rfl) T.b_int bt_int (pa_cons (pe_op (r := rAddG K) op_addG (pe_op op_mulG (pv 6) pe_int) (pv 5)) pa_nil)) (pv 1)))) pss_nil) (pss_one (ps_ret (pe_op op_mod (pe_callTy call_int1 (by rfl) T.b_int bt_int (pa_cons (pe_op op_fdivW (pv 6) pe_int) pa_nil)) (pv 1))))))))), ?_⟩
    obtain ⟨c, hB⟩ := hB
    have hBC := hB
    obtain ⟨z, m, j, ns, eb, ec, hl, hn, hz, hj, hm⟩ := hB
    have hcb : c ≠ b := Bag.ne (xs := [.int z, .int m, .int j]) eb ec
    have sq : ∀ {H : Hp} {xs : List V}, H b = some (.lst xs) → SqL K H b xs := fun h => .inl (.inl h)
    -- behind the first if
    refine ⟨fun σ H1 => ∃ y2 y3 y4 y5 y6, σ = [some (.ref b), some (.int n), y2, y3, y4, y5, y6] ∧ Dr b H H1 ∧ BagC H1 b c, ?_, fun σ H1 hM => ?_⟩
    · refine ⟨.ref b, rfl, Or.inl ⟨b, _, 0, .int z, rfl, rfl, sq eb, rfl, Or.inl ⟨rfl, _, rfl, ite2 (fun e => ?_) (fun e => ?_)⟩⟩⟩
      · -- cell = 0; the next cell
        refine ⟨fun σ H1 => ∃ x : Int, 0 ≤ x ∧ σ = [some (.ref b), some (.int n), some (.int x), none, none, none, none] ∧ H1 = H, ?_, fun σ H1 hM => ?_⟩
        · refine ⟨.ref b, rfl, Or.inl ⟨b, _, 2, .int j, rfl, rfl, sq eb, rfl, .ref b, rfl, Or.inl ⟨b, _, 3, .ref c, rfl, rfl, sq eb, rfl, Or.inl ⟨c, _, rfl, .inl (.inl (.inl ec)), j, _, rfl, rfl, _, rfl, ite2 (fun e => ?_) (fun e => ?_)⟩⟩⟩⟩
          · have e' : j < (ns.map V.int).length := of_decide_eq_true e
            obtain ⟨i, rfl⟩ := Int.eq_ofNat_of_zero_le hj
            have hi : i < ns.length := by
              rw [List.length_map] at e'
              omega
            have gi : (ns.map V.int)[i]? = some (.int ns[i]) := by
              rw [List.getElem?_map, List.getElem?_eq_getElem hi]
              rfl
            refine ⟨.ref b, rfl, Or.inl ⟨b, _, 3, .ref c, rfl, rfl, sq eb, rfl, .ref b, rfl, Or.inl ⟨b, _, 2, .int (i : Int), rfl, rfl, sq eb, rfl, Or.inl ⟨c, _, _, .int ns[i], rfl, rfl, .inl (.inl ec), atI_nat gi, ?_⟩⟩⟩⟩
            exact ⟨ns[i], hn _ (List.getElem_mem hi), rfl, rfl⟩
          · exact ⟨0, Int.le_refl _, rfl, rfl⟩
        · obtain ⟨x, hx, rfl, rfl⟩ := hM
          -- bag[2] += 1
          refine ⟨.ref b, rfl, b, _, 2, .int j, rfl, rfl, sq eb, rfl, j, 1, rfl, rfl, rd_set eb rfl rfl fun H2 eb2 m1 k1 => ?_⟩
          have ec2 : H2 c = some (.lst (ns.map V.int)) := by rw [k1 c hcb]; exact ec
          -- a great cell is kept
          refine ⟨fun σ H3 => ∃ z' : Int, 0 ≤ z' ∧ σ = [some (.ref b), some (.int n), some (.int x), none, none, none, none] ∧ H3 b = some (.lst [.int z', .int m, .int (j + 1), .ref c]) ∧ H3 c = some (.lst (ns.map V.int)) ∧ Mv [b] H2 H3, ?_, fun σ H3 hM => ?_⟩
          · refine ⟨.int x, rfl, x, _, rfl, rfl, _, rfl, ite2 (fun e => ?_) (fun e => ?_)⟩
            · refine ⟨.int x, rfl, .ref b, rfl, b, _, 0, 0, rfl, rfl, eb2, rfl, x, hx, rfl, upd_same, ?_, .set eb2 (by simp)⟩
              rw [upd_ne hcb]
              exact ec2
            · exact ⟨z, hz, rfl, eb2, ec2, .refl⟩
          · obtain ⟨z', hz', rfl, eb3, ec3, m3⟩ := hM
            refine ⟨.ref b, rfl, Or.inl ⟨b, _, 1, .int m, rfl, rfl, sq eb3, rfl, Or.inl ⟨m, 48271, rfl, rfl, .inr ⟨by decide, by decide⟩, .int x, rfl, Or.inl ⟨x, rfl, x, _, rfl, rfl, (by decide : (0 : Int) < _), ?_⟩⟩⟩⟩
            refine Or.inl ⟨_, _, rfl, rfl, .ref b, rfl, Or.inl ⟨b, _, 2, .int (j + 1), rfl, rfl, sq eb3, rfl, Or.inl ⟨7919, j + 1, rfl, rfl, .inl ⟨by decide, by decide⟩, Or.inl ⟨_, _, rfl, rfl, ?_⟩⟩⟩⟩
            refine ⟨_, rfl, Or.inl ⟨_, rfl, _, _, rfl, rfl, (by decide : (0 : Int) < _), .ref b, rfl, b, _, 1, 1, rfl, rfl, eb3, rfl, _, _, _, _, _, rfl, ?_, ?_⟩⟩
            · exact .mkc ((m1.trans m3).trans (.set eb3 (by simp))) hBC (Bag.set eb3 ec3 hcb hl hn hz' (by omega) (Int.emod_nonneg _ (by decide)))
            · exact Bag.set eb3 ec3 hcb hl hn hz' (by omega) (Int.emod_nonneg _ (by decide))
      · exact ⟨_, _, _, _, _, rfl, .refl, z, m, j, ns, eb, ec, hl, hn, hz, hj, hm⟩
    · obtain ⟨y2, y3, y4, y5, y6, rfl, hD, hB⟩ := hM
      have hBC1 := hB
      obtain ⟨z, m, j, ns, eb, ec, hl, hn, hz, hj, hm⟩ := hB
      have hcb : c ≠ b := Bag.ne (xs := [.int z, .int m, .int j]) eb ec
      refine ⟨.ref b, rfl, Or.inl ⟨b, _, 0, .int z, rfl, rfl, sq eb, rfl, z, 0, rfl, rfl, _, rfl, ite2 (fun e => ?_) (fun e => ?_)⟩⟩
      · -- value = int(bag[0]) % many; bag[0] = bag[0] // many; return value
        refine ⟨.ref b, rfl, Or.inl ⟨b, _, 0, .int z, rfl, rfl, sq eb, rfl, Or.inl ⟨z, rfl, .int n, rfl, z, n, rfl, rfl, h0, ?_⟩⟩⟩
        refine ⟨.ref b, rfl, Or.inl ⟨b, _, 0, .int z, rfl, rfl, sq eb, rfl, .int n, rfl, z, n, rfl, rfl, ?_, ?_⟩⟩
        · exact wide_div (b := 64) h0 (by omega) (by decide) (by decide)
        · refine ⟨.ref b, rfl, b, _, 0, 0, rfl, rfl, eb, rfl, ?_⟩
          refine ⟨.int (z % n), rfl, q _ _ (Int.emod_nonneg z (by omega)) (Int.emod_lt_of_pos z h0) (hD.trans (.mkc (.set eb (by simp)) hBC1 ?_))⟩
          exact Bag.set eb ec hcb hl hn (Int.ediv_nonneg hz (by omega)) hj hm
      · refine ⟨.ref b, rfl, Or.inl ⟨b, _, 1, .int m, rfl, rfl, sq eb, rfl, Or.inl ⟨m, 1, rfl, rfl, Or.inl ⟨_, _, rfl, rfl, .inr ⟨by decide, by decide⟩, Or.inl ⟨_, rfl, _, _, rfl, rfl, (by decide : (0 : Int) < _), ?_⟩⟩⟩⟩⟩
        have hx0 : 0 ≤ (m + 1) * 39373 % 1000000007 := Int.emod_nonneg _ (by decide)
        have hx1 : (m + 1) * 39373 % 1000000007 < 1000000007 := Int.emod_lt_of_pos _ (by decide)
        refine ⟨_, rfl, _, rfl, Or.inl ⟨(m + 1) * 39373 % 1000000007, (m + 1) * 39373 % 1000000007, rfl, rfl, .inl ⟨by omega, by omega⟩, Or.inl ⟨_, rfl, _, _, rfl, rfl, (by decide : (0 : Int) < _), Or.inl ⟨_, _, rfl, rfl, .inr ⟨by decide, by decide⟩, Or.inl ⟨_, rfl, _, _, rfl, rfl, (by decide : (0 : Int) < _), ?_⟩⟩⟩⟩⟩
        refine ⟨.int n, rfl, n, _, rfl, rfl, _, rfl, ite2 (fun e => ?_) (fun e => ?_)⟩
        · exact absurd (of_decide_eq_true e) (by omega)
        · refine ⟨_, rfl, _, 7, rfl, rfl, ⟨by decide, by decide⟩, Or.inl ⟨_, rfl, .int n, rfl, _, n, rfl, rfl, h0, ?_⟩⟩
          exact q _ _ (Int.emod_nonneg _ (by omega)) (Int.emod_lt_of_pos _ h0) hD
end
end Fm
namespace Fm
open PySem PySem.Spec PyProof.Rows L2
/-- a new list of names -/
def sp_names : Sp := fun vs H Q _ => ∃ (b : Addr) (n : Nat), vs = [.ref b, .int n] ∧ Bag H b ∧ 0 < n ∧ n ≤ 12 ∧
  ∀ (p : Addr) (xs : List Str) H', xs.length = n → (∀ x ∈ xs, Nm x) → H p = none → H' p = some (.lst (xs.map V.str)) → Dr b H H' → Q (.ref p) H'
theorem rd_split {X : Cx} {a b : Str} {H : Hp} {Q : VK} (P : List Str → Bool) (hP : P (Txt.split a b) = true)
    (h : ∀ p ws H', P ws = true → H p = none → H' p = some (.lst (ws.map V.str)) → Mv [] H H' → Q (.ref p) H') : rNewStrs (Txt.split a b) H Q :=
  fun p np => h p _ _ hP np upd_same (.new np)
theorem str_len_append (x y : Str) : (x ++ y).length = x.length + y.length := by first | exact strLen_append x y | (show (x.cps ++ y.cps).size = _; simp [Str.length])
theorem str_cps_append (x y : Str) : (x ++ y).cps.toList = x.cps.toList ++ y.cps.toList := by
  show (x.cps ++ y.cps).toList = _
  simp
theorem join_chars : ∀ l : List Nat, Txt.join "" (l.map fun c => (⟨#[c]⟩ : Str)) = ⟨l.toArray⟩
  | [] => by decide +kernel
  | [c] => by
    show Builtin.Str.glued _ _ = _
    rw [StrLaws.glued_eq_join]
    rfl
  | c :: d :: l => by
    have ih := join_chars (d :: l)
    show Builtin.Str.glued _ _ = _
    have ih' : Builtin.Str.glued "" ((d :: l).map fun c => (⟨#[c]⟩ : Str)) = ⟨(d :: l).toArray⟩ := ih
    rw [StrLaws.glued_eq_join] at ih' ⊢
    show (⟨#[c]⟩ : Str) ++ "" ++ Str.join "" ((d :: l).map fun c => (⟨#[c]⟩ : Str)) = _
    rw [ih']
    show (⟨(#[c] ++ #[]) ++ (d :: l).toArray⟩ : Str) = _
    simp
theorem cutS_to (z : Str) (i : Nat) (h : i ≤ z.length) : (cutS z none (some (i : Int))).cps.toList = z.cps.toList.take i := by
  unfold cutS
  rw [HT.sIx_none, HT.sIx_nat, Nat.min_eq_left h]
  simp
theorem cutS_from (z : Str) (i : Nat) (h : i ≤ z.length) : (cutS z (some (i : Int)) none).cps.toList = z.cps.toList.drop i := by
  unfold cutS
  rw [HT.sIx_none, HT.sIx_nat, Nat.min_eq_left h]
  have e : z.cps.toList.length = z.length := by simp [Str.length]
  show ((z.cps.toList.drop i).take (z.length - i)).toArray.toList = _
  rw [List.take_of_length_le (by rw [List.length_drop, e]; exact Nat.le_refl _)]
theorem len_cps (z : Str) : z.cps.toList.length = z.length := by simp [Str.length]
theorem sum_ones : ∀ cs : List Nat, ((cs.map fun c => (⟨#[c]⟩ : Str)).map (·.length)).sum = cs.length
  | [] => rfl
  | c :: cs => by
    have := sum_ones cs
    simp only [List.map_cons, List.sum_cons, List.length_cons, this]
    show 1 + cs.length = _
    omega
theorem cutV_from {xs : List V} {i : Int} (h0 : 0 ≤ i) (h : i ≤ xs.length) : cutV xs (some i) none = xs.drop i.toNat := by
  obtain ⟨j, rfl⟩ := Int.eq_ofNat_of_zero_le h0
  unfold cutV
  rw [HT.sIx_none, HT.sIx_nat, Nat.min_eq_left (by omega), List.take_of_length_le (by rw [List.length_drop]; exact Nat.le_refl _)]
  rfl
theorem cutV_to {xs : List V} {i : Int} (h0 : 0 ≤ i) : cutV xs none (some i) = xs.take i.toNat := by
  obtain ⟨j, rfl⟩ := Int.eq_ofNat_of_zero_le h0
  unfold cutV
  rw [HT.sIx_none, HT.sIx_nat, List.drop_zero]
  show xs.take (min j xs.length - 0) = xs.take j
  rw [Nat.sub_zero]
  by_cases e : j ≤ xs.length
  · rw [Nat.min_eq_left e]
  · rw [Nat.min_eq_right (by omega), List.take_of_length_le (Nat.le_refl _), List.take_of_length_le (by omega)]
theorem rd_letter {K : PySem.W.Frag} {z : Str} {j : Int} {H : Hp} {Q : VK} (hz : (decide (z.length = 26) && z.cps.toList.all fun c => decide (97 ≤ c) && decide (c ≤ 122)) = true) (h0 : 0 ≤ j) (h1 : j < 26)
    (h : ∀ c : Nat, 97 ≤ c → c ≤ 122 → z.cps.toList[j.toNat]? = some c → Q (.str ⟨#[c]⟩) H) : rIx K (.str z) (.int j) H Q := by
  simp only [Bool.and_eq_true, decide_eq_true_eq, List.all_eq_true] at hz
  obtain ⟨hl, ha⟩ := hz
  obtain ⟨i, rfl⟩ := Int.eq_ofNat_of_zero_le h0
  have hi : i < z.cps.toList.length := by rw [len_cps, hl]; omega
  have e := List.getElem?_eq_getElem hi
  have hc := ha _ (List.getElem_mem hi)
  exact Or.inr (Or.inr ⟨z, i, _, rfl, rfl, by rw [hl]; decide, atI_nat e, h _ hc.1 hc.2 e⟩)
section
variable {P : Program} {w : World} {K : PySem.W.Frag} {mg : Str → Option Value} {base : Heap}
theorem ok__law_names (T : TX K mg) {k : Nat} : FnOk P w K mg base CX0 (k + 2) T.d__law_names.f T.d__law_names.fd P__law_names sp_names := by
  have G__law_take : FnOk P w K mg base CX0 (k + 1) T.d__law_take.f T.d__law_take.fd P__law_take sp_take := ok__law_take T
  refine T.d__law_names.F.ok sc__law_names (fun vs H Q E h => ?_) (fun cdv A outer s H vs Q E hr h => ?_)
  · obtain ⟨b, n, rfl, _⟩ := h
    rfl
  · obtain ⟨b, n, rfl, hB, h0, h1, q⟩ := h
    have hu64 := hr.units
    refine ⟨_, (pss_cons (ps_set (i := 2) sc__law_names.nd rfl (Or.inr rfl) pe_str) (pss_cons (ps_set (i := 3) sc__law_names.nd rfl (Or.inl rfl) pe_str) (pss_cons (ps_set (i := 3) sc__law_names.nd rfl (Or.inl rfl) (pe_bm PySem.F.plainAttrs_str PySem.F.slot_str_split PySem.F.type_str_split mt_split (pe_op (r := rAddG K) op_addG (pv 3) pe_str) (pa_cons pe_str pa_nil))) (pss_cons (ps_asg (pe_tup (pa_cons (pe_call G__law_take (hr.mono (by omega)) rfl T.d__law_take.g T.d__law_take.F.kp T.d__law_take.b .nil pass0 (pa_cons (pv 0) (pa_cons pe_int pa_nil))) (pa_cons (pe_call G__law_take (hr.mono (by omega)) rfl T.d__law_take.g T.d__law_take.F.kp T.d__law_take.b .nil pass0 (pa_cons (pv 0) (pa_cons pe_int pa_nil))) pa_nil))) (pg_tup rfl (pgs_cons (pg_name (i := 4) sc__law_names.nd rfl (Or.inl rfl)) (pgs_cons (pg_name (i := 5) sc__law_names.nd rfl (Or.inr rfl)) pgs_nil)))) (pss_cons (ps_set (i := 6) sc__law_names.nd rfl (Or.inr rfl) (pe_bm PySem.F.plainAttrs_str PySem.F.slot_str_join PySem.F.type_str_join mt_join pe_str (pa_cons (pe_lc (own := [("_law_k", 8)]) (g := gName 8) (by rfl) sc__law_names.nd (pi_range1 (by rfl) T.b_range (pa_cons (pe_op (r := rAddG K) op_addG pe_int (pe_call G__law_take (hr.mono (by omega)) rfl T.d__law_take.g T.d__law_take.F.kp T.d__law_take.b .nil pass0 (pa_cons (pv 0) (pa_cons pe_int pa_nil)))) pa_nil)) (blkOk_by (own := [("_law_k", 8)]) (N := N__law_names) (sc := defScope s__law_names) (by decide +kernel)) (fun _ _ _ _ _ => pg_name (i := 8) sc__law_names.nd rfl (Or.inl rfl)) (fun _ _ _ _ _ => pts_nil) (fun _ _ _ _ _ => (pe_ix (r := rIx K) ix_seq (pv 2) (pe_call G__law_take (hr.mono (by omega)) rfl T.d__law_take.g T.d__law_take.F.kp T.d__law_take.b .nil pass0 (pa_cons (pv 0) (pa_cons pe_int pa_nil))) (fun _ _ => rfl)))) pa_nil))) (pss_cons (ps_set (i := 7) sc__law_names.nd rfl (Or.inr rfl) (pe_call G__law_take (hr.mono (by omega)) rfl T.d__law_take.g T.d__law_take.F.kp T.d__law_take.b .nil pass0 (pa_cons (pv 0) (pa_cons (pe_op (r := rAddG K) op_addG (pe_callB (r := rLenG K) call_lenG (by rfl) T.b_len bt_len (pa_cons (pv 6) pa_nil)) pe_int) pa_nil)))) (pss_cons (ps_if (pt_cmpR (r := rEqG K) (op_eqG hu64) (pv 4) pe_int (nomark _)) (pss_one (ps_ret (pe_slice (r := rSlG K) sl_G (pe_op (r := rAddG K) op_addG (pe_slice (r := rSlG K) sl_G (pv 3) (po_some (pv 5)) po_none) (pe_slice (r := rSlG K) sl_G (pv 3) po_none (po_some (pv 5)))) po_none (po_some (pv 1))))) pss_nil) (pss_cons (ps_if (pt_cmpR (r := rEqG K) (op_eqG hu64) (pv 4) pe_int (nomark _)) (pss_one (ps_ret (pe_lc (own := [("_law_k", 8)]) (g := gName 8) (by rfl) sc__law_names.nd (pi_range1 (by rfl) T.b_range (pa_cons (pv 1) pa_nil)) (blkOk_by (own := [("_law_k", 8)]) (N := N__law_names) (sc := defScope s__law_names) (by decide +kernel)) (fun _ _ _ _ _ => pg_name (i := 8) sc__law_names.nd rfl (Or.inl rfl)) (fun _ _ _ _ _ => pts_nil) (fun _ _ _ _ _ => (pe_ix (r := rIx K) ix_seq (pv 2) (pe_op op_mod (pe_callTy call_int1 (by rfl) T.b_int bt_int (pa_cons (pe_op (r := rAddG K) op_addG (pv 5) (pe_op op_mulG pe_int (pv 8))) pa_nil)) pe_int) (fun _ _ => rfl)))))) pss_nil) (pss_one (ps_ret (pe_lc (own := [("_law_k", 8)]) (g := gName 8) (by rfl) sc__law_names.nd (pi_range1 (by rfl) T.b_range (pa_cons (pv 1) pa_nil)) (blkOk_by (own := [("_law_k", 8)]) (N := N__law_names) (sc := defScope s__law_names) (by decide +kernel)) (fun _ _ _ _ _ => pg_name (i := 8) sc__law_names.nd rfl (Or.inl rfl)) (fun _ _ _ _ _ => pts_nil) (fun _ _ _ _ _ => (pe_op (r := rAddG K) op_addG (pe_op (r := rAddG K) op_addG (pe_slice (r := rSlG K) sl_G (pv 6) po_none (po_some (pv 7))) (pe_ix (r := rIx K) ix_seq (pv 2) (pe_op op_mod (pe_callTy call_int1 (by rfl) T.b_int bt_int (pa_cons (pe_op (r := rAddG K) op_addG (pv 5) (pe_op op_mulG pe_int (pv 8))) pa_nil)) pe_int) (fun _ _ => rfl))) (pe_slice (r := rSlG K) sl_G (pv 6) (po_some (pv 7)) po_none)))))))))))))), ?_⟩
    refine ⟨_, rfl, Or.inr (Or.inl ⟨_, _, rfl, rfl, by decide +kernel, rfl, _, _, rfl, rfl, by decide +kernel, by decide +kernel, ?_⟩)⟩
    refine rd_split (X := (cxOf CX0 P w K mg base N__law_names "_law_names" (defScope s__law_names) T.d__law_names.f cdv A outer s H E)) (fun ws => decide (ws.length = 20) && ws.all fun x => decide (Nm x)) (by decide +kernel) fun wp ws H1 hws nwp ewp m1 => ?_
    simp only [Bool.and_eq_true, decide_eq_true_eq, List.all_eq_true] at hws
    obtain ⟨hw20, hwN⟩ := hws
    -- way, turn
    refine ⟨.ref b, rfl, b, 4, rfl, hB.mv m1, by decide, by decide, fun way H2 hw0 hw1 d2 => ⟨.ref b, rfl, b, 20, rfl, d2.bag (hB.mv m1), by decide, by decide, fun turn H3 ht0 ht1 d3 => ?_⟩⟩
    refine ⟨(by decide : 2 ≤ sizeLine), fun p np => ⟨p, _, rfl, .inl (.inl upd_same), rfl, _, _, rfl, _, _, rfl, rfl, ?_⟩⟩
    have d14 := (d2.trans d3).trans (Dr.new (o := .tup [.int way, .int turn]) np)
    have hB4 := d14.bag (hB.mv m1)
    generalize upd H3 p (.tup [.int way, .int turn]) = H4 at d14 hB4 ⊢
    have hwb : wp ≠ b := (hB.fneq nwp)
    have ew4 : H4 wp = some (.lst (ws.map V.str)) := d14.get hwb ewp
    -- base = ''.join([..])
    refine ⟨rfl, .ref b, rfl, b, 7, rfl, hB4, by decide, by decide, fun l H5 hl0 hl1 d5 => Or.inl ⟨1, l, rfl, rfl, 1 + l, rfl, by omega, by omega, fun D nD => ?_⟩⟩
    have hB5 := d5.bag hB4
    refine lc_range (lo := 0) (n := (1 + l).toNat) (fun i H6 => ∃ cs : List Nat, H6 D = some (.lst (cs.map fun c => V.str ⟨#[c]⟩)) ∧ cs.length = i ∧ (∀ c ∈ cs, 97 ≤ c ∧ c ≤ 122) ∧ Dr b H5 H6)
      ⟨[], upd_same, rfl, by simp, Dr.new nD⟩ (fun i H6 hi h6 => ?_) (fun H6 h6 => ?_)
    · obtain ⟨cs, e6, l6, c6, d6⟩ := h6
      refine ⟨rfl, _, rfl, .ref b, rfl, b, 26, rfl, d6.bag hB5, by decide, by decide, fun j H7 hj0 hj1 d7 => rd_letter (by decide +kernel) hj0 hj1 fun c hc0 hc1 _ => ?_⟩
      refine ⟨_, d7.get (hB5.fneq nD) e6, ?_, cs ++ [c], ?_, by simp [l6], ?_, (d6.trans d7).wr nD⟩
      · rw [List.length_map, l6]
        exact small1000 (by omega)
      · rw [upd_same, List.map_append]
        rfl
      · intro z hz
        rcases List.mem_append.mp hz with hz | hz
        · exact c6 z hz
        · rw [List.mem_singleton.mp hz]
          exact ⟨hc0, hc1⟩
    · obtain ⟨cs, e6, l6, c6, d6⟩ := h6
      have hmap : cs.map (fun c => V.str ⟨#[c]⟩) = (cs.map fun c => (⟨#[c]⟩ : Str)).map V.str := by rw [List.map_map]; rfl
      refine ⟨_, D, _, rfl, rfl, .inl (.inl (.inl (by rw [← hmap]; exact e6))), ?_, ?_⟩
      · rw [sum_ones, List.length_map, l6, show ("" : Str).length = 0 from by decide]
        omega
      · rw [join_chars]
        obtain ⟨B, hB0, hBl, hBc⟩ : ∃ B : Str, B = ⟨cs.toArray⟩ ∧ B.length = (1 + l).toNat ∧ ∀ c ∈ B.cps.toList, 97 ≤ c ∧ c ≤ 122 := ⟨_, rfl, by rw [← l6]; rfl, by simpa using c6⟩
        rw [← hB0]
        have hB6 := d6.bag hB5
        -- at
        refine ⟨.ref b, rfl, .str B, rfl, Or.inr (Or.inl ⟨B, rfl, Nat.le_of_lt (small1000 (by omega)), Or.inl ⟨_, 1, rfl, rfl, b, _, rfl, hB6, by omega, by omega, fun pl H7 hp0 hp1 d7 => ?_⟩⟩)⟩
        have d17 := (d14.trans d5).trans (d6.trans d7)
        have ew7 : H7 wp = some (.lst (ws.map V.str)) := d17.get hwb ewp
        have dH7 : Dr b H H7 := (Dr.of m1).trans d17
        have hB7 : Bag H7 b := dH7.bag hB
        have lenL : ∀ c : Nat, (⟨#[c]⟩ : Str).length = 1 := fun _ => rfl
        have fresh : ∀ {p H'}, Mv [] H7 H' → H' p = none → H p = none := fun m e => dH7.free hB (m.free e)
        refine ⟨.int way, rfl, Or.inl ⟨rfl, _, rfl, ite2 (fun e => ?_) (fun e => ?_)⟩⟩
        · -- the words, turned
          refine ⟨.ref wp, rfl, .int turn, rfl, turn, rfl, Or.inl ⟨wp, _, rfl, .inl (.inl ew7), fun p1 np1 => ?_⟩⟩
          have n1 : wp ≠ p1 := ne_of_none ew7 np1
          refine ⟨.ref wp, rfl, .int turn, rfl, turn, rfl, Or.inl ⟨wp, _, rfl, .inl (.inl (by rw [upd_ne n1]; exact ew7)), fun p2 np2 => ?_⟩⟩
          have n2 : p1 ≠ p2 := ne_of_none upd_same np2
          rw [cutV_from ht0 (by rw [List.length_map]; omega), cutV_to ht0] at *
          refine Or.inr (Or.inr (Or.inr ⟨p1, p2, _, _, rfl, rfl, by rw [upd_ne n2, upd_same], upd_same, ?_, fun p3 np3 => ?_⟩))
          · rw [List.length_drop, List.length_take, List.length_map]
            exact Nat.le_of_lt (small1000 (by omega))
          · refine ⟨.int n, rfl, (n : Int), rfl, Or.inl ⟨p3, _, rfl, .inl (.inl upd_same), fun p4 np4 => ?_⟩⟩
            refine q p4 ((ws.drop turn.toNat ++ ws.take turn.toNat).take n) _ ?_ (fun x hx => ?_) (fresh (((Mv.new (S := []) np1).trans (Mv.new np2)).trans (Mv.new np3)) np4) ?_ (dH7.trans (Dr.of (((Mv.new np1).trans (Mv.new np2)).trans ((Mv.new np3).trans (Mv.new np4)))))
            · rw [List.length_take, List.length_append, List.length_drop, List.length_take]
              omega
            · have h := List.mem_of_mem_take hx
              rcases List.mem_append.mp h with h | h
              · exact hwN x (List.mem_of_mem_drop h)
              · exact hwN x (List.mem_of_mem_take h)
            · rw [upd_same, cutV_to (by omega), List.map_take, List.map_append, List.map_drop, List.map_take]
              rfl
        · refine ⟨.int way, rfl, Or.inl ⟨rfl, _, rfl, ite2 (fun e => ?_) (fun e => ?_)⟩⟩
          · refine ⟨.int n, rfl, (n : Int), rfl, by omega, by omega, fun D8 nD8 => ?_⟩
            refine lc_range (lo := 0) (n := (n : Int).toNat) (fun i H8 => ∃ xs : List Str, H8 D8 = some (.lst (xs.map V.str)) ∧ xs.length = i ∧ (∀ x ∈ xs, Nm x) ∧ Mv [] H7 H8)
              ⟨[], upd_same, rfl, by simp, .new nD8⟩ (fun i H8 hi h8 => ?_) (fun H8 h8 => ?_)
            · obtain ⟨xs, e8, l8, c8, m8⟩ := h8
              refine ⟨rfl, _, rfl, .int turn, rfl, _, rfl, Or.inl ⟨3, _, rfl, rfl, .inl ⟨by decide, by decide⟩, Or.inl ⟨turn, _, rfl, rfl, Or.inl ⟨_, rfl, _, _, rfl, rfl, (by decide : (0 : Int) < _), ?_⟩⟩⟩⟩
              refine rd_letter (by decide +kernel) (Int.emod_nonneg _ (by decide)) (Int.emod_lt_of_pos _ (by decide)) fun c hc0 hc1 _ => ?_
              refine ⟨_, e8, ?_, xs ++ [⟨#[c]⟩], ?_, by simp [l8], ?_, m8.wr nD8⟩
              · rw [List.length_map, l8]
                exact small1000 (by omega)
              · rw [upd_same, List.map_append]
                rfl
              · intro z hz
                rcases List.mem_append.mp hz with hz | hz
                · exact c8 z hz
                · rw [List.mem_singleton.mp hz]
                  exact ⟨by rw [lenL]; decide, by rw [lenL]; decide, by simpa using ⟨hc0, hc1⟩⟩
            · obtain ⟨xs, e8, l8, c8, m8⟩ := h8
              exact q D8 xs H8 (by omega) c8 (dH7.free hB nD8) e8 (dH7.trans (Dr.of m8))
          · refine ⟨.int n, rfl, (n : Int), rfl, by omega, by omega, fun D8 nD8 => ?_⟩
            obtain ⟨at', rfl⟩ := Int.eq_ofNat_of_zero_le hp0
            have hat : at' ≤ B.length := by omega
            refine lc_range (lo := 0) (n := (n : Int).toNat) (fun i H8 => ∃ xs : List Str, H8 D8 = some (.lst (xs.map V.str)) ∧ xs.length = i ∧ (∀ x ∈ xs, Nm x) ∧ Mv [] H7 H8)
              ⟨[], upd_same, rfl, by simp, .new nD8⟩ (fun i H8 hi h8 => ?_) (fun H8 h8 => ?_)
            · obtain ⟨xs, e8, l8, c8, m8⟩ := h8
              have hsz : B.length ≤ sizeLine := Nat.le_of_lt (small1000 (by omega))
              have l1 : (cutS B none (some (at' : Int))).length = at' := by rw [← len_cps, cutS_to B at' hat, List.length_take, len_cps]; omega
              have l2 : (cutS B (some (at' : Int)) none).length = B.length - at' := by rw [← len_cps, cutS_from B at' hat, List.length_drop, len_cps]
              refine ⟨rfl, .str B, rfl, _, rfl, _, rfl, Or.inr (Or.inr ⟨B, rfl, hsz, _, rfl, .int turn, rfl, _, rfl, Or.inl ⟨3, _, rfl, rfl, .inl ⟨by decide, by decide⟩, Or.inl ⟨turn, _, rfl, rfl, Or.inl ⟨_, rfl, _, _, rfl, rfl, (by decide : (0 : Int) < _), ?_⟩⟩⟩⟩)⟩
              refine rd_letter (by decide +kernel) (Int.emod_nonneg _ (by decide)) (Int.emod_lt_of_pos _ (by decide)) fun c hc0 hc1 _ => ?_
              refine Or.inr (Or.inl ⟨_, _, rfl, rfl, by rw [l1, lenL]; exact Nat.le_of_lt (small1000 (by omega)), .str B, rfl, _, rfl, _, rfl, Or.inr (Or.inr ⟨B, rfl, hsz, Or.inr (Or.inl ⟨_, _, rfl, rfl, ?_, ?_⟩)⟩)⟩)
              · rw [str_len_append, l1, l2, lenL]
                exact Nat.le_of_lt (small1000 (by omega))
              · refine ⟨_, e8, ?_, xs ++ [cutS B none (some (at' : Int)) ++ ⟨#[c]⟩ ++ cutS B (some (at' : Int)) none], ?_, by simp [l8], ?_, m8.wr nD8⟩
                · rw [List.length_map, l8]
                  exact small1000 (by omega)
                · rw [upd_same, List.map_append]
                  rfl
                · intro z hz
                  rcases List.mem_append.mp hz with hz | hz
                  · exact c8 z hz
                  · rw [List.mem_singleton.mp hz]
                    refine ⟨?_, ?_, fun d hd => ?_⟩
                    · rw [str_len_append, str_len_append, l1, l2, lenL]
                      omega
                    · rw [str_len_append, str_len_append, l1, l2, lenL]
                      omega
                    · rw [str_cps_append, str_cps_append, cutS_to B at' hat, cutS_from B at' hat] at hd
                      rcases List.mem_append.mp hd with hd | hd
                      · rcases List.mem_append.mp hd with hd | hd
                        · exact hBc d (List.mem_of_mem_take hd)
                        · have : d = c := by simpa using hd
                          rw [this]
                          exact ⟨hc0, hc1⟩
                      · exact hBc d (List.mem_of_mem_drop hd)
            · obtain ⟨xs, e8, l8, c8, m8⟩ := h8
              exact q D8 xs H8 (by omega) c8 (dH7.free hB nD8) e8 (dH7.trans (Dr.of m8))
end
end Fm
namespace Fm
open PySem PySem.Spec PyProof.Rows L2
def sp_term (K : PySem.W.Frag) (d : Nat) : Sp := fun vs H Q _ => ∃ (b nm : Addr) (xs : List Str) (many deep : Int), vs = [.ref b, .ref nm, .int many, .int deep] ∧ Bag H b ∧
  H nm = some (.lst (xs.map V.str)) ∧ nm ≠ b ∧ xs ≠ [] ∧ xs.length ≤ 1000 ∧ (∀ x ∈ xs, Nm x) ∧ 0 ≤ many ∧ many ≤ 1000000 ∧ deep.toNat < d ∧
  ∀ v (t : Tm) H', t.ok (fun i => 0 ≤ i ∧ i < many) → t.dep ≤ max deep.toNat 1 → (0 < many → t.dep ≤ deep.toNat) → Im K H' v t.d → Dr b H H' → Q v H'
local macro_rules | `(tactic| walk_at "nn") => `(tactic| dsimp only [tC, tNil, tCons, tCB, tCall, gName, tSeq, tAsg, tPar, tDrop, tRet])
section
variable {P : Program} {w : World} {K : PySem.W.Frag} {mg : Str → Option Value} {base : Heap}
theorem ok__law_term (T : TX K mg) : ∀ d : Nat, FnOk P w K mg base CX0 (d + 2) T.d__law_term.f T.d__law_term.fd P__law_term (sp_term K d)
  | 0 => ⟨fun vs H Q E h => by obtain ⟨_, _, _, _, _, _, _, _, _, _, _, _, _, _, h, _⟩ := h; omega, fun _ _ _ _ _ _ _ _ _ _ _ _ _ h => by obtain ⟨_, _, _, _, _, _, _, _, _, _, _, _, _, _, h, _⟩ := h; omega⟩
  | d + 1 => by
    have G__law_term := ok__law_term T d
    have G__law_take : FnOk P w K mg base CX0 1 T.d__law_take.f T.d__law_take.fd P__law_take sp_take := ok__law_take T
    refine T.d__law_term.F.ok sc__law_term (fun vs H Q E h => ?_) (fun cdv A outer s H vs Q E hr h => ?_)
    · obtain ⟨b, nm, xs, many, deep, rfl, _⟩ := h
      rfl
    · obtain ⟨b, nm, xs, many, deep, rfl, hB, hN, hnb, hx0, hx1, hxN, hm0, hm1, hd, q⟩ := h
      have hu64 := hr.units
      have hlen : 0 < xs.length := List.length_pos_iff.mpr hx0
      refine ⟨_, (pss_cons (ps_set (i := 4) sc__law_term.nd rfl (Or.inl rfl) (pe_call G__law_take (hr.mono (by omega)) rfl T.d__law_take.g T.d__law_take.F.kp T.d__law_take.b .nil pass0 (pa_cons (pv 0) (pa_cons pe_int pa_nil)))) (pss_cons (ps_if (PW.pt (pw_and (pt_cmpR op_gt (pv 2) pe_int (nomark _)) (pw_and1 (PW.pt (pw_or (pt_cmpR op_lt (pv 3) pe_int (nomark _)) (pw_or1 (pt_cmpR (r := rEqG K) (op_eqG hu64) (pv 4) pe_int (nomark _)))))))) (pss_one (ps_ret (pe_call G__law_take (hr.mono (by omega)) rfl T.d__law_take.g T.d__law_take.F.kp T.d__law_take.b .nil pass0 (pa_cons (pv 0) (pa_cons (pv 2) pa_nil))))) pss_nil) (pss_cons (ps_par (i := 5) (j := 6) rfl sc__law_term.nd rfl rfl (by decide) rfl rfl (pa_cons (pe_ix (r := rIx K) ix_seq (pv 1) (pe_call G__law_take (hr.mono (by omega)) rfl T.d__law_take.g T.d__law_take.F.kp T.d__law_take.b .nil pass0 (pa_cons (pv 0) (pa_cons (pe_callB (r := rLenG K) call_lenG (by rfl) T.b_len bt_len (pa_cons (pv 1) pa_nil)) pa_nil))) (fun _ _ => rfl)) (pa_cons (pe_call G__law_take (hr.mono (by omega)) rfl T.d__law_take.g T.d__law_take.F.kp T.d__law_take.b .nil pass0 (pa_cons (pv 0) (pa_cons pe_int pa_nil))) pa_nil)) rfl) (pss_cons (ps_if (PW.pt (pw_or (PW.pt (pw_and (pt_cmpR op_le (pv 3) pe_int (nomark _)) (pw_and1 (pt_cmpR (r := rEqG K) (op_eqG hu64) (pv 2) pe_int (nomark _))))) (pw_or1 (pt_cmpR (r := rEqG K) (op_eqG hu64) (pv 4) pe_int (nomark _))))) (pss_one (ps_ret (pe_tup (pa_cons (pv 5) pa_nil)))) pss_nil) (pss_one (ps_ret (pe_op (r := rAddG K) op_addG (pe_tup (pa_cons (pv 5) pa_nil)) (pe_callTy (r := rTupOf K) call_tupG (by rfl) T.b_tuple bt_tuple (pa_cons (pe_lc (own := [("_law_k", 7)]) (g := gName 7) (by rfl) sc__law_term.nd (pi_range1 (by rfl) T.b_range (pa_cons (pv 6) pa_nil)) (blkOk_by (own := [("_law_k", 7)]) (N := N__law_term) (sc := defScope s__law_term) (by decide +kernel)) (fun _ _ _ _ _ => pg_name (i := 7) sc__law_term.nd rfl (Or.inl rfl)) (fun _ _ _ _ _ => pts_nil) (fun _ _ _ _ _ => (pe_call G__law_term (hr.mono (by omega)) rfl T.d__law_term.g T.d__law_term.F.kp T.d__law_term.b .nil pass0 (pa_cons (pv 0) (pa_cons (pv 1) (pa_cons (pv 2) (pa_cons (pe_op op_sub (pv 3) pe_int) pa_nil))))))) pa_nil))))))))), ?_⟩
      -- way
      refine ⟨.ref b, rfl, b, 4, rfl, hB, by decide, by decide, fun way H1 hw0 hw1 d1 => ?_⟩
      have hB1 := d1.bag hB
      have hN1 := d1.get hnb hN
      dsimp only [gName, tSeq, tPar]
      refine st_if (tb_and (tb_test (tv_I (tv_var rfl) tv_c)) (tb_or (tb_test (tv_I (tv_var rfl) tv_c)) (tb_test (tv_eqI (tv_var rfl) tv_c)))) ?_ ?_
      · -- an unknown
        intro e
        simp only [Bool.and_eq_true, decide_eq_true_eq] at e
        refine ⟨.ref b, rfl, .int many, rfl, b, many, rfl, hB1, e.1, hm1, fun i H2 hi0 hi1 d2 => ?_⟩
        exact q _ (.var i) H2 ⟨hi0, hi1⟩ (by simp [Tm.dep]) (fun _ => by simp [Tm.dep]) (Im.int i) (d1.trans d2)
      · intro e
        have e1 : ¬ (0 < many ∧ deep < 1) := fun z => by simp [z.1, z.2] at e
        -- name, parts
        refine ⟨.ref nm, rfl, .ref b, rfl, .ref nm, rfl, ?_⟩
        walk_at "nn"
        refine rd_len (.inl (.inl (.inl hN1))) ?_
        refine ⟨b, _, rfl, hB1, by rw [List.length_map]; omega, by rw [List.length_map]; omega, fun ni H2 hn0 hn1 d2 => ?_⟩
        rw [List.length_map] at hn1
        have hni : ni.toNat < xs.length := by omega
        have hB2 := d2.bag hB1
        have hN2 := d2.get hnb hN1
        refine rd_ixL (.inl (.inl hN2)) hn0 (v := .str xs[ni.toNat]) (by rw [List.getElem?_map, List.getElem?_eq_getElem hni]; rfl) ?_
        obtain ⟨nx, hnx, hNm⟩ : ∃ nx, nx = xs[ni.toNat] ∧ Nm nx := ⟨_, rfl, hxN _ (List.getElem_mem hni)⟩
        rw [← hnx]
        refine ⟨.ref b, rfl, b, 4, rfl, hB2, by decide, by decide, fun parts H3 hp0 hp1 d3 => ⟨_, _, rfl, ?_⟩⟩
        have hB3 := d3.bag hB2
        have hN3 := d3.get hnb hN2
        have d13 := (d1.trans d2).trans d3
        refine st_if (tb_or (tb_and (tb_test (tv_I (tv_var rfl) tv_c)) (tb_test (tv_eqI (tv_var rfl) tv_c))) (tb_test (tv_eqI (tv_var rfl) tv_c))) ?_ ?_
        · -- a constant
          intro e
          refine ⟨_, rfl, (by decide : 1 ≤ sizeLine), fun p np => ?_⟩
          refine q _ (.op nx []) _ ⟨hNm, by simp, trivial⟩ (by simp [Tm.dep, Tm.deps]; omega) (fun z => ?_) (Im.tup (.inl (.inl upd_same)) (Ims.cons (Im.str nx) Ims.nil)) (d13.trans (Dr.new np))
          simp only [Tm.dep, Tm.deps]
          omega
        · intro e
          have e2 : ¬ (deep ≤ 1 ∧ many = 0) := fun z => by simp [z.1, z.2] at e
          have hdeep : 1 ≤ deep := by omega
          refine ⟨_, rfl, (by decide : 1 ≤ sizeLine), fun p np => ?_⟩
          have d4 := d13.trans (Dr.new (o := .tup [.str nx]) np)
          have e4 : SqT K (upd H3 p (.tup [.str nx])) p [.str nx] := .inl (.inl upd_same)
          have hB4 := d4.bag hB
          have hN4 := d4.get hnb hN
          generalize upd H3 p (.tup [.str nx]) = H4 at d4 e4 hB4 hN4 ⊢
          refine ⟨.int parts, rfl, parts, rfl, by omega, by omega, fun D nD => ?_⟩
          refine lc_range (lo := 0) (n := parts.toNat) (fun i H5 => ∃ (vs : List V) (ts : List Tm), H5 D = some (.lst vs) ∧ Ims K H5 vs (Tm.ds ts) ∧ ts.length = i ∧ Tm.oks (fun i => 0 ≤ i ∧ i < many) ts ∧ Tm.deps ts ≤ max (deep - 1).toNat 1 ∧ (0 < many → Tm.deps ts ≤ (deep - 1).toNat) ∧ Dr b H4 H5)
            ⟨[], [], upd_same, Ims.nil, rfl, trivial, by simp [Tm.deps], fun _ => by simp [Tm.deps], Dr.new nD⟩ (fun i H5 hi h5 => ?_) (fun H5 h5 => ?_)
          · obtain ⟨vs, ts, e5, i5, l5, o5, p5, r5, d5⟩ := h5
            have hB5 := d5.bag hB4
            have hN5 := d5.get hnb hN4
            refine ⟨rfl, .ref b, rfl, .ref nm, rfl, .int many, rfl, .int deep, rfl, deep, 1, rfl, rfl, b, nm, xs, many, deep - 1, rfl, hB5, hN5, hnb, hx0, hx1, hxN, hm0, hm1, by omega, fun v t H6 ho hd1 hd2 him d6 => ?_⟩
            refine ⟨_, d6.get (hB4.fneq nD) e5, ?_, vs ++ [v], ts ++ [t], upd_same, ?_, by simp [l5], ?_, ?_, fun z => ?_, (d5.trans d6).wr nD⟩
            · rw [i5.length, Tm.ds_map, List.length_map, l5]
              exact small1000 (by omega)
            · rw [show Tm.ds (ts ++ [t]) = Tm.ds ts ++ [t.d] by simp [Tm.ds_map]]
              exact ((i5.mv d6.mv).append (Ims.cons him Ims.nil)).mv (Mv.set (S := [D]) (d6.get (hB4.fneq nD) e5) (by simp))
            · rw [Tm.oks_iff] at o5 ⊢
              intro y hy
              rcases List.mem_append.mp hy with hy | hy
              · exact o5 y hy
              · rw [List.mem_singleton.mp hy]
                exact ho
            · rw [Tm.deps_le] at p5 ⊢
              intro y hy
              rcases List.mem_append.mp hy with hy | hy
              · exact p5 y hy
              · rw [List.mem_singleton.mp hy]
                exact hd1
            · have r5' := r5 z
              have hd2' := hd2 z
              rw [Tm.deps_le] at r5' ⊢
              intro y hy
              rcases List.mem_append.mp hy with hy | hy
              · exact r5' y hy
              · rw [List.mem_singleton.mp hy]
                exact hd2'
          · obtain ⟨vs, ts, e5, i5, l5, o5, p5, r5, d5⟩ := h5
            walk_at "nn"
            refine rd_tupOf (.inl (.inl e5)) fun p6 H6 m6 e6 => ?_
            refine rd_cat (m6.sqT (d5.mv.sqT e4)) e6 ?_ fun p7 H7 m7 e7 => ?_
            · rw [i5.length, Tm.ds_map, List.length_map, l5]
              exact Nat.le_of_lt (small1000 (by simp; omega))
            · refine q _ (.op nx ts) H7 ⟨hNm, by omega, o5⟩ ?_ (fun z => ?_) (Im.tup e7 ?_) (d4.trans (d5.trans (Dr.of (m6.trans m7))))
              · simp only [Tm.dep]
                omega
              · have := r5 z
                simp only [Tm.dep]
                omega
              · exact Ims.cons (Im.str nx) ((i5.mv m6).mv m7)
end
end Fm
namespace Fm
open PySem PySem.Spec PyProof.Rows L2
local macro_rules | `(tactic| walk_at "nn") => `(tactic| dsimp only [tC, tNil, tCons, tCB, tCall, gName, tSeq, tAsg, tPar, tDrop, tRet])
local macro_rules | `(tactic| walk_at "nc") => `(tactic| dsimp only [tC, tNil, tCons, tCB])
theorem hu65_of {k : Nat} {A : Around} (h : Room k A) : A.units + 65 < cLine := by
  have := h.un
  omega
/-- a test of one thing -/
def sp_kind (K : PySem.W.Frag) (f : Th → Bool) : Sp := fun vs H Q _ => ∃ (v : V) (t : Th) (b : Addr), vs = [v] ∧ Is K b H v t ∧ ∀ H', Mv [] H H' → Q (.bl (f t)) H'
section
variable {P : Program} {w : World} {K : PySem.W.Frag} {mg : Str → Option Value} {base : Heap}
theorem ok_is_integer (T : TX K mg) {k : Nat} : FnOk P w K mg base CX0 (k + 1) T.d_is_integer.f T.d_is_integer.fd P_is_integer (sp_kind K isWhole) := by
  refine T.d_is_integer.F.ok sc_is_integer (fun vs H Q E h => ?_) (fun cdv A outer s H vs Q E hr h => ?_)
  · obtain ⟨_, _, _, rfl, _⟩ := h
    rfl
  · obtain ⟨v, t, b, rfl, hv, q⟩ := h
    refine ⟨_, (pss_one (ps_ret (pe_and (pe_callB (r := rIsi K) call_isi (by rfl) T.b_isinstance bt_isinstance (pa_cons (pv 0) (pa_cons (pe_ty T.b_int bt_int) pa_nil))) (pe_one (pe_not (pe_callB (r := rIsi K) call_isi (by rfl) T.b_isinstance bt_isinstance (pa_cons (pv 0) (pa_cons (pe_ty T.b_bool bt_bool) pa_nil)))))))), ?_⟩
    refine ⟨v, rfl, ?_⟩
    walk_at "nn"
    refine rd_isi hv (kit_int t) ?_
    refine ⟨_, rfl, ?_⟩
    cases t with
    | int j =>
      refine ⟨v, rfl, ?_⟩
      walk_at "nc"
      exact rd_isi hv (kit_bool (.int j)) ⟨_, rfl, q H .refl⟩
    | bl c =>
      refine ⟨v, rfl, ?_⟩
      walk_at "nc"
      exact rd_isi hv (kit_bool (.bl c)) ⟨_, rfl, q H .refl⟩
    | non => exact q H .refl
    | str x => exact q H .refl
    | tup ts => exact q H .refl
    | lst => exact q H .refl
    | dct => exact q H .refl
theorem ok_is_name (T : TX K mg) {k : Nat} : FnOk P w K mg base CX0 (k + 1) T.d_is_name.f T.d_is_name.fd P_is_name (sp_kind K isNamed) := by
  refine T.d_is_name.F.ok sc_is_name (fun vs H Q E h => ?_) (fun cdv A outer s H vs Q E hr h => ?_)
  · obtain ⟨_, _, _, rfl, _⟩ := h
    rfl
  · obtain ⟨v, t, b, rfl, hv, q⟩ := h
    have hu65 := hu65_of hr
    refine ⟨_, (pss_cons (ps_if (PW.pt (pw_or (pt_not (pt_val (pe_callB (r := rIsi K) call_isi (by rfl) T.b_isinstance bt_isinstance (pa_cons (pv 0) (pa_cons (pe_ty T.b_str bt_str) pa_nil))))) (pw_or1 (pt_not (pt_chain op_le op_le pe_int (pe_callB (r := rLenG K) call_lenG (by rfl) T.b_len bt_len (pa_cons (pv 0) pa_nil)) (pe_glob rfl T.c_MOST_LETTERS T.r_MOST_LETTERS)))))) (pss_one (ps_ret pe_bl)) pss_nil) (pss_one (ps_ret (pe_callB (r := rAll K) (cr_all rfl) (by rfl) T.b_all bt_all (pa_cons (pe_lc (own := [("sign", 1)]) (g := gName 1) (by rfl) sc_is_name.nd (pi_str (pv 0)) (blkOk_by (own := [("sign", 1)]) (N := N_is_name) (sc := defScope s_is_name) (by decide +kernel)) (fun _ _ _ _ _ => pg_name (i := 1) sc_is_name.nd rfl (Or.inl rfl)) (fun _ _ _ _ _ => pts_nil) (fun _ _ _ _ _ => (pe_cmpR (r := rInG K) (op_inG hu65) (pv 1) (pe_glob rfl T.c_LETTERS T.r_LETTERS) rfl))) pa_nil))))), ?_⟩
    refine ⟨v, rfl, ?_⟩
    walk_at "nn"
    refine rd_isi hv (kit_str t) ?_
    refine ⟨_, rfl, ?_⟩
    cases t with
    | int j => exact q H .refl
    | bl c => exact q H .refl
    | non => exact q H .refl
    | tup ts => exact q H .refl
    | lst => exact q H .refl
    | dct => exact q H .refl
    | str x =>
      obtain ⟨rfl, hlen⟩ := hv
      refine ⟨.str x, rfl, ?_⟩
      walk_at "nc"
      refine Or.inr (Or.inl ⟨x, rfl, Nat.le_of_lt (small1000 (by omega)), 1, _, rfl, rfl, _, rfl, ite2 (fun e1 => ?_) (fun e1 => ?_)⟩)
      · refine ⟨_, 8, rfl, rfl, _, rfl, ite2 (fun e2 => ?_) (fun e2 => ?_)⟩
        · have e : isNamed (.str x) = false := by
            simp only [isNamed, nmd]
            have : ¬ x.length ≤ 8 := by simp at e2; omega
            rw [decide_eq_false this]
            simp
          rw [e] at q
          exact q H .refl
        · have h1 : 1 ≤ x.length := by simp at e1; omega
          have h2 : x.length ≤ 8 := by simp at e2; omega
          refine ⟨.str x, rfl, x, rfl, fun D nD => ?_⟩
          have hsz : x.cps.toList.length = x.cps.size := by simp
          have hsl : x.cps.size = x.length := rfl
          refine lc_it walk_str (fun i H1 => H1 D = some (.lst (((x.cps.toList.take i).map fun c => decide (c ∈ lettersS.cps.toList)).map V.bl)) ∧ Mv [] H H1) ⟨upd_same, .new nD⟩ (fun _ _ _ _ => trivial) (fun i y H1 H2 hi h1 hy => ?_) (fun H1 h1 => ?_)
          · obtain ⟨e1, m1⟩ := h1
            obtain ⟨rfl, c, hc, rfl⟩ := hy
            have hc' : x.cps.toList[i]? = some c := by simpa using hc
            refine ⟨rfl, .str ⟨#[c]⟩, rfl, Or.inr ⟨c, _, rfl, rfl, _, e1, ?_, ?_, m1.wr nD⟩⟩
            · rw [List.length_map, List.length_map, List.length_take]
              exact small1000 (by omega)
            · rw [upd_same, List.take_add_one, hc']
              simp
              rfl
          · obtain ⟨e1, m1⟩ := h1
            rw [← hsz, List.take_length] at e1
            refine ⟨D, _, rfl, .inl (.inl e1), ?_⟩
            have e : isNamed (.str x) = ((x.cps.toList.map fun c => decide (c ∈ lettersS.cps.toList)).all id) := by
              simp only [isNamed, nmd]
              rw [decide_eq_true h1, decide_eq_true h2, List.all_map]
              rfl
            rw [← e]
            exact q H1 m1
      · have e : isNamed (.str x) = false := by
          simp only [isNamed, nmd]
          have : ¬ 1 ≤ x.length := by simp at e1; omega
          rw [decide_eq_false this]
          simp
        rw [e] at q
        exact ⟨_, rfl, q H .refl⟩
end
end Fm
namespace Fm
open PySem PySem.Spec PyProof.Rows L2
local macro_rules | `(tactic| walk_at "nn") => `(tactic| dsimp only [tC, tNil, tCons, tCB, tCall, gName, tSeq, tAsg, tPar, tDrop, tRet])
local macro_rules | `(tactic| walk_at "nc") => `(tactic| dsimp only [tC, tNil, tCons, tCB])
theorem isTerms_append (ts us : List Th) : isTerms (ts ++ us) = (isTerms ts && isTerms us) := by
  rw [isTerms_all, isTerms_all, isTerms_all, List.all_append]
theorem Th.cnt_pos (t : Th) : 1 ≤ t.cnt := by cases t <;> simp [Th.cnt]
theorem Th.cnts_len : ∀ ts : List Th, ts.length ≤ Th.cnts ts
  | [] => Nat.zero_le _
  | t :: ts => by
    have := Th.cnts_len ts
    have := t.cnt_pos
    simp only [Th.cnts, List.length_cons]
    omega
def sp_isTerm (K : PySem.W.Frag) : Sp := fun vs H Q _ => ∃ (v : V) (t : Th) (b : Addr), vs = [v] ∧ Is K b H v t ∧ t.cnt ≤ 90000 ∧ ∀ H', Mv [] H H' → Q (.bl (isTerm t)) H'
section
variable {P : Program} {w : World} {K : PySem.W.Frag} {mg : Str → Option Value} {base : Heap}
theorem ok_is_term (T : TX K mg) {k : Nat} : FnOk P w K mg base CX0 (k + 2) T.d_is_term.f T.d_is_term.fd P_is_term (sp_isTerm K) := by
  have G_is_integer : FnOk P w K mg base CX0 1 T.d_is_integer.f T.d_is_integer.fd P_is_integer (sp_kind K isWhole) := ok_is_integer T
  have G_is_name : FnOk P w K mg base CX0 1 T.d_is_name.f T.d_is_name.fd P_is_name (sp_kind K isNamed) := ok_is_name T
  refine T.d_is_term.F.ok sc_is_term (fun vs H Q E h => ?_) (fun cdv A outer s H vs Q E hr h => ?_)
  · obtain ⟨_, _, _, rfl, _⟩ := h
    rfl
  · obtain ⟨v, t, b, rfl, hv, hcn, q⟩ := h
    have hu65 := hu65_of hr
    refine ⟨_, (pss_cons (ps_set (i := 1) sc_is_term.nd rfl (Or.inl rfl) (pe_lst (pa_cons (pv 0) pa_nil))) (pss_cons (ps_while PassesOwn.never (pt_cmpR (r := rNeNil K) (op_neNil (Nat.lt_of_le_of_lt (Nat.le_add_right _ 65) hu65)) (pv 1) (pe_lst pa_nil) (nomark _)) (pss_cons (ps_set (i := 2) sc_is_term.nd rfl (Or.inl rfl) (pe_bm0 PySem.F.plainAttrs_list PySem.F.slot_list_pop PySem.F.type_list_pop mt_pop (pv 1))) (pss_one (ps_if (pt_val (pe_call G_is_integer (hr.mono (by omega)) rfl T.d_is_integer.g T.d_is_integer.F.kp T.d_is_integer.b .nil pass0 (pa_cons (pv 2) pa_nil))) (pss_one (ps_if (pt_cmpR op_lt (pv 2) pe_int (nomark _)) (pss_one (ps_ret pe_bl)) pss_nil)) (pss_one (ps_if (PW.pt (pw_or (pt_not (pt_val (pe_callB (r := rIsi K) call_isi (by rfl) T.b_isinstance bt_isinstance (pa_cons (pv 2) (pa_cons (pe_ty T.b_tuple bt_tuple) pa_nil))))) (pw_or (pt_not (pt_chain op_le op_le pe_int (pe_callB (r := rLenG K) call_lenG (by rfl) T.b_len bt_len (pa_cons (pv 2) pa_nil)) (pe_op (r := rAddG K) op_addG pe_int (pe_glob rfl T.c_MOST_PARTS T.r_MOST_PARTS)))) (pw_or1 (pt_not (pt_val (pe_call G_is_name (hr.mono (by omega)) rfl T.d_is_name.g T.d_is_name.F.kp T.d_is_name.b .nil pass0 (pa_cons (pe_ix (r := rIx K) ix_seq (pv 2) pe_int (fun _ _ => rfl)) pa_nil)))))))) (pss_one (ps_ret pe_bl)) (pss_one (ps_expr (pe_bm PySem.F.plainAttrs_list PySem.F.slot_list_extend PySem.F.type_list_extend (r := rExtG K) mt_extendG (pv 1) (pa_cons (pe_slice (r := rSlG K) sl_G (pv 2) (po_some pe_int) po_none) pa_nil)))))))))) (pss_one (ps_ret pe_bl)))), ?_⟩
    refine ⟨v, rfl, (by decide : 1 ≤ sizeLine), fun l nl => ?_⟩
    refine ⟨fun m σ H2 => ∃ (ys : List V) (us : List Th) (y : Option V), σ = [some v, some (.ref l), y] ∧ H2 l = some (.lst ys) ∧ IsAll K b H ys us ∧ isTerms us = isTerm t ∧ Th.cnts us ≤ 90000 ∧ m = Th.cnts us ∧ Mv [] H H2,
      ⟨_, [v], [t], none, rfl, upd_same, IsAll.cons hv IsAll.nil, by simp [isTerms], by simp only [Th.cnts]; omega, rfl, .new nl⟩, fun m σ H2 hW => ?_⟩
    obtain ⟨ys, us, y, rfl, e2, i2, s2, b2, rfl, m2⟩ := hW
    refine ⟨.ref l, rfl, Nat.zero_le _, fun q1 n1 => ⟨l, q1, ys, rfl, rfl, .inl (.inl (same_new n1 _ _ e2)), .inl (.inl upd_same), ?_⟩⟩
    have m23 : Mv [] H (upd H2 q1 (.lst [])) := m2.trans (.new n1)
    have e3 : upd H2 q1 (.lst []) l = some (.lst ys) := same_new n1 _ _ e2
    generalize upd H2 q1 (.lst []) = H3 at m23 e3 ⊢
    refine ⟨_, rfl, ?_⟩
    rcases List.eq_nil_or_concat us with rfl | ⟨us', u, rfl⟩
    · have hy : ys = [] := i2
      subst hy
      rw [show isTerms ([] : List Th) = true from by simp [isTerms]] at s2
      rw [← s2] at q
      exact q H3 m23
    · rw [List.concat_eq_append] at *
      obtain ⟨ys', z, rfl, i4, hz⟩ := IsAll.last rfl i2
      rw [show (!(ys' ++ [z]).isEmpty) = true by simp]
      refine ⟨fun σ' H' => ∃ m', m' < Th.cnts (us' ++ [u]) ∧ _, fun _ _ h => h, ?_⟩
      -- one = waiting.pop()
      refine ⟨.ref l, rfl, .inl ⟨rfl, _, .inl (.inl e3)⟩, l, _, z, rfl, rfl, e3, by simp, ?_⟩
      have m25 : Mv [] H (upd H3 l (.lst (ys' ++ [z]).dropLast)) := m23.wr nl
      have e5 : upd H3 l (.lst (ys' ++ [z]).dropLast) l = some (.lst ys') := by rw [upd_same, List.dropLast_concat]
      generalize upd H3 l (.lst (ys' ++ [z]).dropLast) = H5 at m25 e5 ⊢
      rw [Th.cnts_append] at b2 ⊢
      rw [isTerms_append] at s2
      have e1u : isTerms [u] = isTerm u := by simp [isTerms]
      have c1u : Th.cnts [u] = u.cnt := by simp [Th.cnts]
      rw [e1u] at s2
      rw [c1u] at b2 ⊢
      have hpos := u.cnt_pos
      have hbad : isTerm u = false → isTerm t = false := fun e => by rw [← s2, e, Bool.and_false]
      -- is_integer(one)
      refine ⟨z, rfl, z, u, b, rfl, hz.mv0 m25, fun H6 m6 => ?_⟩
      have m26 := m25.trans m6
      have e6 := m6.same _ _ e5
      refine ⟨_, rfl, ?_⟩
      have bad : isTupT u = false → isWhole u = false → isTerm u = false := fun h1 h2 => by
        cases u <;> simp [isTupT, isWhole, isTerm] at *
      cases u with
      | int i =>
        cases (show z = V.int i from hz)
        refine ⟨.int i, rfl, i, 0, rfl, rfl, _, rfl, ite2 (fun e => ?_) (fun e => ?_)⟩
        · have h0 : ¬ 0 ≤ i := by simp at e; omega
          have e9 := hbad (by simp only [isTerm]; exact decide_eq_false h0)
          rw [e9] at q
          exact q H6 m26
        · have h0 : 0 ≤ i := by simp at e; omega
          refine ⟨Th.cnts us', by omega, ys', us', _, rfl, e6, i4, ?_, by omega, rfl, m26⟩
          rw [← s2]
          simp only [isTerm]
          rw [decide_eq_true h0, Bool.and_true]
      | tup ts =>
        obtain ⟨a1, zs0, rfl, ha1, hzs0⟩ := hz
        have hl0 := hzs0.length
        have ha6 := m26.sqT ha1
        refine ⟨.ref a1, rfl, ?_⟩
        walk_at "nn"
        refine rd_isi (show Is K b H6 (.ref a1) (.tup ts) from ⟨a1, zs0, rfl, ha6, hzs0.mv0 m26⟩) (kit_tup (.tup ts)) ⟨_, rfl, ?_⟩
        refine ⟨.ref a1, rfl, ?_⟩
        walk_at "nc"
        refine rd_len (.inr ha6) ⟨1, _, rfl, rfl, _, rfl, ite2 (fun e => ?_) (fun e => ?_)⟩
        · have h1 : 1 ≤ zs0.length := by simp at e; omega
          refine Or.inl ⟨1, 3, rfl, rfl, _, _, rfl, rfl, _, rfl, ite2 (fun e1 => ?_) (fun e1 => ?_)⟩
          · have h2 : ¬ zs0.length ≤ 4 := by simp at e1; omega
            have e9 := hbad (by
              cases ts with
              | nil => simp [isTerm]
              | cons t0 tr =>
                simp only [List.length_cons] at hl0
                simp only [isTerm]
                rw [decide_eq_false (show ¬ tr.length ≤ 3 by omega)]
                simp)
            rw [e9] at q
            exact q H6 m26
          · have h2 : zs0.length ≤ 4 := by simp at e1; omega
            cases ts with
            | nil =>
              simp only [List.length_nil] at hl0
              omega
            | cons t0 tr =>
              obtain ⟨z0, zs, rfl, hz0, hzs⟩ := hzs0
              simp only [List.length_cons] at hl0 h2
              refine ⟨.ref a1, rfl, rd_ixT ha6 (by decide) (v := z0) rfl ?_⟩
              refine ⟨z0, t0, b, rfl, hz0.mv0 m26, fun H7 m7 => ⟨_, rfl, ite2 (fun e2 => ?_) (fun e2 => ?_)⟩⟩
              · have e9 := hbad (by
                  simp only [isTerm]
                  rw [show isNamed t0 = false by simpa using e2]
                  simp)
                rw [e9] at q
                exact q H7 (m26.trans m7)
              · have m27 := m26.trans m7
                have e7 := m7.same _ _ e6
                refine ⟨.ref l, rfl, .inl ⟨rfl, _, .inl (.inl e7)⟩, .ref a1, rfl, 1, rfl, rd_sl1 (m27.sqT ha1) fun p8 H8 m8 e8 => ?_⟩
                have hl4 := i4.length
                have hc4 := Th.cnts_len us'
                simp only [Th.cnt, Th.cnts] at b2 ⊢
                have hpos0 := t0.cnt_pos
                have hczs := Th.cnts_len tr
                refine Or.inr ⟨l, p8, ys', zs, rfl, rfl, m8.same _ _ e7, e8, Nat.le_trans (show ys'.length + zs.length ≤ 100000 by omega) (by decide), ?_⟩
                refine ⟨Th.cnts (us' ++ tr), by rw [Th.cnts_append]; omega, ys' ++ zs, us' ++ tr, _, rfl, upd_same, i4.append hzs, ?_, by rw [Th.cnts_append]; omega, rfl, (m27.trans m8).wr nl⟩
                rw [← s2, isTerms_append]
                simp only [isTerm]
                rw [show isNamed t0 = true by simpa using e2, decide_eq_true (show tr.length ≤ 3 by omega)]
                rfl
        · have h1 : ¬ 1 ≤ zs0.length := by simp at e; omega
          have e9 := hbad (by
            cases ts with
            | nil => simp [isTerm]
            | cons t0 tr =>
              simp only [List.length_cons] at hl0
              omega)
          rw [e9] at q
          exact ⟨_, rfl, q H6 m26⟩
      | non =>
        refine ⟨z, rfl, ?_⟩
        walk_at "nn"
        refine rd_isi (hz.mv0 m26) (kit_tup .non) ⟨_, rfl, ?_⟩
        have e9 := hbad (by simp [isTerm])
        rw [e9] at q
        exact q H6 m26
      | bl c =>
        refine ⟨z, rfl, ?_⟩
        walk_at "nn"
        refine rd_isi (hz.mv0 m26) (kit_tup (.bl c)) ⟨_, rfl, ?_⟩
        have e9 := hbad (by simp [isTerm])
        rw [e9] at q
        exact q H6 m26
      | str x =>
        refine ⟨z, rfl, ?_⟩
        walk_at "nn"
        refine rd_isi (hz.mv0 m26) (kit_tup (.str x)) ⟨_, rfl, ?_⟩
        have e9 := hbad (by simp [isTerm])
        rw [e9] at q
        exact q H6 m26
      | lst =>
        refine ⟨z, rfl, ?_⟩
        walk_at "nn"
        refine rd_isi (hz.mv0 m26) (kit_tup .lst) ⟨_, rfl, ?_⟩
        have e9 := hbad (by simp [isTerm])
        rw [e9] at q
        exact q H6 m26
      | dct =>
        refine ⟨z, rfl, ?_⟩
        walk_at "nn"
        refine rd_isi (hz.mv0 m26) (kit_tup .dct) ⟨_, rfl, ?_⟩
        have e9 := hbad (by simp [isTerm])
        rw [e9] at q
        exact q H6 m26
end
end Fm
namespace Fm
open PySem PySem.Spec PyProof.Rows L2
local macro_rules | `(tactic| walk_at "nn") => `(tactic| dsimp only [tC, tNil, tCons, tCB, tCall, gName, tSeq, tAsg, tPar, tDrop, tRet])
local macro_rules | `(tactic| walk_at "nc") => `(tactic| dsimp only [tC, tNil, tCons, tCB])
def initS (x : Str) : Str := ⟨(x.cps.toList.take (x.length - 1)).toArray⟩
def dashed (x : Str) : Bool := decide (x.cps.toList.drop (x.length - 1) = [45])
def isOutc : Th → Bool
  | .str x => if dashed x = true then nmd (initS x) else nmd x
  | _ => false
theorem toList_len (x : Str) : x.cps.toList.length = x.length := by simp; rfl
theorem sIx_m1 (n d : Nat) : HT.sIx n d (some (-1)) = n - 1 := by
  show (if (-1 : Int) < 0 then ((-1 : Int) + (n : Int)).toNat else min (-1 : Int).toNat n) = n - 1
  rw [if_pos (by decide)]
  omega
theorem cut_last (x : Str) : cutS x (some (-1)) none = ⟨(x.cps.toList.drop (x.length - 1)).toArray⟩ := by
  unfold cutS
  rw [sIx_m1, HT.sIx_none, List.take_of_length_le]
  rw [List.length_drop, toList_len]
  omega
theorem cut_init (x : Str) : cutS x none (some (-1)) = initS x := by
  unfold cutS initS
  rw [sIx_m1, HT.sIx_none, List.drop_zero, Nat.sub_zero]
theorem dash_eq (x : Str) : decide (V.str (cutS x (some (-1)) none) = V.str "-") = dashed x := by
  rw [cut_last]
  unfold dashed
  rw [Bool.eq_iff_iff, decide_eq_true_iff, decide_eq_true_iff]
  constructor
  · intro h
    injection h with h
    have h2 := congrArg (fun s : Str => s.cps.toList) h
    have e45 : (Str.ofString "-").cps.toList = [45] := by decide +kernel
    rw [← e45]
    simpa using h2
  · intro h
    rw [h]
    rfl
theorem initS_len (x : Str) : (initS x).length = x.length - 1 := by
  show (x.cps.toList.take (x.length - 1)).toArray.size = _
  rw [List.size_toArray, List.length_take, toList_len]
  omega
def sp_vals (K : PySem.W.Frag) : Sp := fun vs H Q _ => ∃ (n : Int) (v : V) (t : Th) (b : Addr), vs = [.int n, v] ∧ Is K b H v t ∧ t.cnt ≤ 90000 ∧ ∀ H', Mv [] H H' → Q (.bl (match t with | .tup ts => decide ((ts.length : Int) = n) && isTerms ts | _ => false)) H'
section
variable {P : Program} {w : World} {K : PySem.W.Frag} {mg : Str → Option Value} {base : Heap}
theorem ok_is_outcome (T : TX K mg) {k : Nat} : FnOk P w K mg base CX0 (k + 2) T.d_is_outcome.f T.d_is_outcome.fd P_is_outcome (sp_kind K isOutc) := by
  have G_is_name : FnOk P w K mg base CX0 1 T.d_is_name.f T.d_is_name.fd P_is_name (sp_kind K isNamed) := ok_is_name T
  refine T.d_is_outcome.F.ok sc_is_outcome (fun vs H Q E h => ?_) (fun cdv A outer s H vs Q E hr h => ?_)
  · obtain ⟨_, _, _, rfl, _⟩ := h
    rfl
  · obtain ⟨v, t, b, rfl, hv, q⟩ := h
    have hu64 := hr.units
    refine ⟨_, (pss_cons (ps_if (PW.pt (pw_and (pt_val (pe_callB (r := rIsi K) call_isi (by rfl) T.b_isinstance bt_isinstance (pa_cons (pv 0) (pa_cons (pe_ty T.b_str bt_str) pa_nil)))) (pw_and1 (pt_cmpR (r := rEqG K) (op_eqG hu64) (pe_slice (r := rSlG K) sl_G (pv 0) (po_some (pe_un un_neg pe_int)) po_none) pe_str (nomark _))))) (pss_one (ps_ret (pe_call G_is_name (hr.mono (by omega)) rfl T.d_is_name.g T.d_is_name.F.kp T.d_is_name.b .nil pass0 (pa_cons (pe_slice (r := rSlG K) sl_G (pv 0) po_none (po_some (pe_un un_neg pe_int))) pa_nil)))) pss_nil) (pss_one (ps_ret (pe_call G_is_name (hr.mono (by omega)) rfl T.d_is_name.g T.d_is_name.F.kp T.d_is_name.b .nil pass0 (pa_cons (pv 0) pa_nil))))), ?_⟩
    refine ⟨v, rfl, ?_⟩
    walk_at "nn"
    refine rd_isi hv (kit_str t) ⟨_, rfl, ?_⟩
    cases t with
    | int j => exact ⟨v, rfl, v, .int j, b, rfl, hv, q⟩
    | bl c => exact ⟨v, rfl, v, .bl c, b, rfl, hv, q⟩
    | non => exact ⟨v, rfl, v, .non, b, rfl, hv, q⟩
    | tup ts => exact ⟨v, rfl, v, .tup ts, b, rfl, hv, q⟩
    | lst => exact ⟨v, rfl, v, .lst, b, rfl, hv, q⟩
    | dct => exact ⟨v, rfl, v, .dct, b, rfl, hv, q⟩
    | str x =>
      obtain ⟨rfl, hlen⟩ := hv
      have hsz : x.length ≤ sizeLine := Nat.le_of_lt (small1000 (by omega))
      refine ⟨.str x, rfl, 1, rfl, -1, rfl, Or.inr (Or.inr ⟨x, rfl, hsz, Or.inl ⟨rfl, ?_⟩⟩)⟩
      have ed := dash_eq x
      rw [show (("-" : String) : Str) = Str.ofString "-" from rfl] at ed
      rw [ed]
      refine ⟨_, rfl, ite2 (fun e => ?_) (fun e => ?_)⟩
      · refine ⟨.str x, rfl, 1, rfl, -1, rfl, Or.inr (Or.inr ⟨x, rfl, hsz, ?_⟩)⟩
        rw [cut_init]
        refine ⟨_, .str (initS x), b, rfl, ⟨rfl, by rw [initS_len]; omega⟩, fun H' m => ?_⟩
        have := q H' m
        simp only [isOutc] at this
        rw [if_pos e] at this
        exact this
      · refine ⟨.str x, rfl, _, .str x, b, rfl, ⟨rfl, hlen⟩, fun H' m => ?_⟩
        have := q H' m
        simp only [isOutc] at this
        rw [if_neg e] at this
        exact this
end
end Fm
namespace Fm
open PySem PySem.Spec PyProof.Rows L2
local macro_rules | `(tactic| walk_at "nn") => `(tactic| dsimp only [tC, tNil, tCons, tCB, tCall, gName, tSeq, tAsg, tPar, tDrop, tRet])
/-- values by numbers: in a list, a tuple, a dict -/
def Look1 (K : PySem.W.Frag) (H : Hp) (vals : V) (P : Int → Prop) (f : Int → Tm) : Prop := ∃ a, vals = .ref a ∧
  ((∃ xs, SqL K H a xs ∧ ∀ i, P i → 0 ≤ i ∧ ∃ v, xs[i.toNat]? = some v ∧ Im K H v (f i).d) ∨
   (∃ xs, SqT K H a xs ∧ ∀ i, P i → 0 ≤ i ∧ ∃ v, xs[i.toNat]? = some v ∧ Im K H v (f i).d) ∨
   (∃ kvs, H a = some (.dK kvs) ∧ ∀ i, P i → ∃ v, valV kvs (.inl i) = some v ∧ Im K H v (f i).d))
theorem Look1.mv {K : PySem.W.Frag} {H H' : Hp} {vals : V} {P : Int → Prop} {f : Int → Tm} (h : Look1 K H vals P f) (m : Mv [] H H') : Look1 K H' vals P f := by
  obtain ⟨a, rfl, h⟩ := h
  refine ⟨a, rfl, ?_⟩
  rcases h with ⟨xs, h1, h2⟩ | ⟨xs, h1, h2⟩ | ⟨xs, h1, h2⟩
  · refine .inl ⟨xs, m.same.seq h1, fun i hi => ?_⟩
    obtain ⟨h0, v, hv, hm⟩ := h2 i hi
    exact ⟨h0, v, hv, hm.mv m⟩
  · refine .inr (.inl ⟨xs, m.sqT h1, fun i hi => ?_⟩)
    obtain ⟨h0, v, hv, hm⟩ := h2 i hi
    exact ⟨h0, v, hv, hm.mv m⟩
  · refine .inr (.inr ⟨xs, m.same _ _ h1, fun i hi => ?_⟩)
    obtain ⟨v, hv, hm⟩ := h2 i hi
    exact ⟨v, hv, hm.mv m⟩
def sp_put (K : PySem.W.Frag) (d : Nat) : Sp := fun vs H Q _ => ∃ (v vals : V) (t : Tm) (P : Int → Prop) (f : Int → Tm), vs = [v, vals] ∧ Im K H v t.d ∧ t.ok P ∧ t.dep < d ∧ Look1 K H vals P f ∧
  ∀ v' H', Mv [] H H' → Im K H' v' (t.put f).d → Q v' H'
section
variable {P : Program} {w : World} {K : PySem.W.Frag} {mg : Str → Option Value} {base : Heap}

theorem ok_put (T : TX K mg) : ∀ d : Nat, FnOk P w K mg base CX0 (d + 1) T.d_put.f T.d_put.fd P_put (sp_put K d)
  | 0 => ⟨fun vs H Q E h => by obtain ⟨_, _, _, _, _, _, _, _, h, _⟩ := h; omega, fun _ _ _ _ _ _ _ _ _ _ _ _ _ h => by obtain ⟨_, _, _, _, _, _, _, _, h, _⟩ := h; omega⟩
  | d + 1 => by
    have G_put := ok_put T d
    refine T.d_put.F.ok sc_put (fun vs H Q E h => ?_) (fun cdv A outer s H vs Q E hr h => ?_)
    · obtain ⟨_, _, _, _, _, rfl, _⟩ := h
      rfl
    · obtain ⟨v, vals, t, R, f, rfl, him, hok, hdp, hlk, q⟩ := h
      have hu1 := hu_of hr
      refine ⟨_, (pss_cons (ps_if (pt_val (pe_callB (r := rIsi K) call_isi (by rfl) T.b_isinstance bt_isinstance (pa_cons (pv 0) (pa_cons (pe_ty T.b_int bt_int) pa_nil)))) (pss_one (ps_ret (pe_or2 (pe_ix (r := rIx K) ix_seq (pv 1) (pv 0) (fun _ _ => rfl)) (pe_dget hu1 (pv 1) (pv 0) (fun _ _ => rfl))))) pss_nil) (pss_one (ps_ret (pe_op (r := rAddG K) op_addG (pe_slice (r := rSlG K) sl_G (pv 0) po_none (po_some pe_int)) (pe_callTy (r := rTupOf K) call_tupG (by rfl) T.b_tuple bt_tuple (pa_cons (pe_lc (own := [("part", 2)]) (g := gName 2) (by rfl) sc_put.nd (pi_seq (pe_slice (r := rSlG K) sl_G (pv 0) (po_some pe_int) po_none)) (blkOk_by (own := [("part", 2)]) (N := N_put) (sc := defScope s_put) (by decide +kernel)) (fun _ _ _ _ _ => pg_name (i := 2) sc_put.nd rfl (Or.inl rfl)) (fun _ _ _ _ _ => pts_nil) (fun _ _ _ _ _ => (pe_call G_put (hr.mono (by omega)) rfl T.d_put.g T.d_put.F.kp T.d_put.b .nil pass0 (pa_cons (pv 2) (pa_cons (pv 1) pa_nil))))) pa_nil)))))), ?_⟩
      refine ⟨v, rfl, ?_⟩
      walk_at "nn"
      refine rd_isInt him ?_
      refine ⟨_, rfl, ?_⟩
      cases t with
      | var i =>
        cases him.intI
        obtain ⟨a, rfl, hlk⟩ := hlk
        rcases hlk with ⟨xs, h1, h2⟩ | ⟨xs, h1, h2⟩ | ⟨xs, h1, h2⟩
        · obtain ⟨h0, y, hy, hm⟩ := h2 i hok
          exact Or.inl ⟨.ref a, rfl, .int i, rfl, rd_ixL h1 h0 hy (q _ _ .refl hm)⟩
        · obtain ⟨h0, y, hy, hm⟩ := h2 i hok
          exact Or.inl ⟨.ref a, rfl, .int i, rfl, rd_ixT h1 h0 hy (q _ _ .refl hm)⟩
        · obtain ⟨y, hy, hm⟩ := h2 i hok
          exact Or.inr ⟨.ref a, rfl, .int i, rfl, a, y, rfl, by rw [← hy]; exact DGet.k (k := .inl i) h1, q _ _ .refl hm⟩
      | op x ts =>
        obtain ⟨a, xs0, rfl, ha, hxs⟩ := him.tupI
        obtain ⟨x', xs, rfl, hx', hys⟩ := hxs.invD
        cases hx'.strI
        refine ⟨.ref a, rfl, 1, rfl, rd_slA ha fun p1 H1 m1 e1 => ⟨.ref a, rfl, 1, rfl, rd_sl1 (m1.sqT ha) fun p2 H2 m2 e2 => ⟨p2, rfl, Or.inr ⟨⟨_, e2⟩, fun D nD => ?_⟩⟩⟩⟩
        have m12 := m1.trans m2
        have hl : xs.length = ts.length := by rw [hys.length, Tm.ds_map, List.length_map]
        refine lc_tup (K := K) (a := p2) (xs := xs) (fun i H3 => ∃ ys, H3 D = some (.lst ys) ∧ Ims K H3 ys (Tm.ds ((ts.take i).map (Tm.put f))) ∧ Mv [] H2 H3)
          ⟨[], upd_same, Ims.nil, .new nD⟩ (fun i H3 _ h3 => ?_) (fun i z H3 hz h3 => ?_) (fun H3 h3 => ?_)
        · obtain ⟨ys, _, _, m3⟩ := h3
          exact m3.sqT e2
        · obtain ⟨ys, e3, i3, m3⟩ := h3
          obtain ⟨zd, hzd, hzi⟩ := hys.get hz
          rw [Tm.ds_map, List.getElem?_map] at hzd
          obtain ⟨zt, hzt, rfl⟩ := Option.map_eq_some_iff.mp hzd
          have hmem := List.mem_of_getElem? hzt
          refine ⟨rfl, z, rfl, vals, rfl, z, vals, zt, R, f, rfl, hzi.mv (m12.trans m3), Tm.oks_iff.mp hok.2.2 zt hmem, ?_, hlk.mv (m12.trans m3), fun y H4 m4 h4 => ?_⟩
          · have h5 := Tm.deps_le.mp (show Tm.deps ts ≤ Tm.deps ts from Nat.le_refl _) zt hmem
            simp only [Tm.dep] at hdp
            omega
          · have e4 := m4.same _ _ e3
            refine ⟨_, e4, ?_, ys ++ [y], upd_same, ?_, (m3.trans m4).wr nD⟩
            · have h6 := (List.getElem?_eq_some_iff.mp hzt).1
              have h7 := hok.2.1
              rw [i3.length, Tm.ds_map, List.length_map, List.length_map, List.length_take]
              exact small1000 (by omega)
            · rw [List.take_add_one, hzt]
              rw [show Tm.ds (List.map (Tm.put f) (ts.take i ++ (some zt).toList)) = Tm.ds ((ts.take i).map (Tm.put f)) ++ [(zt.put f).d] by simp [Tm.ds_map]]
              exact ((i3.mv m4).append (Ims.cons h4 Ims.nil)).mv (Mv.set (S := [D]) e4 (by simp))
        · obtain ⟨ys, e3, i3, m3⟩ := h3
          rw [hl, List.take_length] at i3
          walk_at "nn"
          refine rd_tupOf (.inl (.inl e3)) fun p4 H4 m4 e4 => ?_
          refine rd_cat (m4.sqT (m3.sqT (m2.sqT e1))) e4 ?_ fun p5 H5 m5 e5 => ?_
          · have h7 := hok.2.1
            rw [i3.length, Tm.ds_map, List.length_map, List.length_map]
            exact Nat.le_of_lt (small1000 (by simp; omega))
          · refine q _ H5 (((m12.trans m3).trans m4).trans m5) (Im.tup e5 (Ims.cons (Im.str x) ?_))
            rw [← Tm.puts_map] at i3
            exact (i3.mv m4).mv m5

theorem ok__law_put (T : TX K mg) : ∀ d : Nat, FnOk P w K mg base CX0 (d + 1) T.d__law_put.f T.d__law_put.fd P__law_put (sp_put K d)
  | 0 => ⟨fun vs H Q E h => by obtain ⟨_, _, _, _, _, _, _, _, h, _⟩ := h; omega, fun _ _ _ _ _ _ _ _ _ _ _ _ _ h => by obtain ⟨_, _, _, _, _, _, _, _, h, _⟩ := h; omega⟩
  | d + 1 => by
    have G__law_put := ok__law_put T d
    refine T.d__law_put.F.ok sc__law_put (fun vs H Q E h => ?_) (fun cdv A outer s H vs Q E hr h => ?_)
    · obtain ⟨_, _, _, _, _, rfl, _⟩ := h
      rfl
    · obtain ⟨v, vals, t, R, f, rfl, him, hok, hdp, hlk, q⟩ := h
      have hu1 := hu_of hr
      refine ⟨_, (pss_cons (ps_if (pt_val (pe_callB (r := rIsi K) call_isi (by rfl) T.b_isinstance bt_isinstance (pa_cons (pv 0) (pa_cons (pe_ty T.b_int bt_int) pa_nil)))) (pss_one (ps_ret (pe_or2 (pe_ix (r := rIx K) ix_seq (pv 1) (pv 0) (fun _ _ => rfl)) (pe_dget hu1 (pv 1) (pv 0) (fun _ _ => rfl))))) pss_nil) (pss_one (ps_ret (pe_op (r := rAddG K) op_addG (pe_slice (r := rSlG K) sl_G (pv 0) po_none (po_some pe_int)) (pe_callTy (r := rTupOf K) call_tupG (by rfl) T.b_tuple bt_tuple (pa_cons (pe_lc (own := [("_law_part", 2)]) (g := gName 2) (by rfl) sc__law_put.nd (pi_seq (pe_slice (r := rSlG K) sl_G (pv 0) (po_some pe_int) po_none)) (blkOk_by (own := [("_law_part", 2)]) (N := N__law_put) (sc := defScope s__law_put) (by decide +kernel)) (fun _ _ _ _ _ => pg_name (i := 2) sc__law_put.nd rfl (Or.inl rfl)) (fun _ _ _ _ _ => pts_nil) (fun _ _ _ _ _ => (pe_call G__law_put (hr.mono (by omega)) rfl T.d__law_put.g T.d__law_put.F.kp T.d__law_put.b .nil pass0 (pa_cons (pv 2) (pa_cons (pv 1) pa_nil))))) pa_nil)))))), ?_⟩
      refine ⟨v, rfl, ?_⟩
      walk_at "nn"
      refine rd_isInt him ?_
      refine ⟨_, rfl, ?_⟩
      cases t with
      | var i =>
        cases him.intI
        obtain ⟨a, rfl, hlk⟩ := hlk
        rcases hlk with ⟨xs, h1, h2⟩ | ⟨xs, h1, h2⟩ | ⟨xs, h1, h2⟩
        · obtain ⟨h0, y, hy, hm⟩ := h2 i hok
          exact Or.inl ⟨.ref a, rfl, .int i, rfl, rd_ixL h1 h0 hy (q _ _ .refl hm)⟩
        · obtain ⟨h0, y, hy, hm⟩ := h2 i hok
          exact Or.inl ⟨.ref a, rfl, .int i, rfl, rd_ixT h1 h0 hy (q _ _ .refl hm)⟩
        · obtain ⟨y, hy, hm⟩ := h2 i hok
          exact Or.inr ⟨.ref a, rfl, .int i, rfl, a, y, rfl, by rw [← hy]; exact DGet.k (k := .inl i) h1, q _ _ .refl hm⟩
      | op x ts =>
        obtain ⟨a, xs0, rfl, ha, hxs⟩ := him.tupI
        obtain ⟨x', xs, rfl, hx', hys⟩ := hxs.invD
        cases hx'.strI
        refine ⟨.ref a, rfl, 1, rfl, rd_slA ha fun p1 H1 m1 e1 => ⟨.ref a, rfl, 1, rfl, rd_sl1 (m1.sqT ha) fun p2 H2 m2 e2 => ⟨p2, rfl, Or.inr ⟨⟨_, e2⟩, fun D nD => ?_⟩⟩⟩⟩
        have m12 := m1.trans m2
        have hl : xs.length = ts.length := by rw [hys.length, Tm.ds_map, List.length_map]
        refine lc_tup (K := K) (a := p2) (xs := xs) (fun i H3 => ∃ ys, H3 D = some (.lst ys) ∧ Ims K H3 ys (Tm.ds ((ts.take i).map (Tm.put f))) ∧ Mv [] H2 H3)
          ⟨[], upd_same, Ims.nil, .new nD⟩ (fun i H3 _ h3 => ?_) (fun i z H3 hz h3 => ?_) (fun H3 h3 => ?_)
        · obtain ⟨ys, _, _, m3⟩ := h3
          exact m3.sqT e2
        · obtain ⟨ys, e3, i3, m3⟩ := h3
          obtain ⟨zd, hzd, hzi⟩ := hys.get hz
          rw [Tm.ds_map, List.getElem?_map] at hzd
          obtain ⟨zt, hzt, rfl⟩ := Option.map_eq_some_iff.mp hzd
          have hmem := List.mem_of_getElem? hzt
          refine ⟨rfl, z, rfl, vals, rfl, z, vals, zt, R, f, rfl, hzi.mv (m12.trans m3), Tm.oks_iff.mp hok.2.2 zt hmem, ?_, hlk.mv (m12.trans m3), fun y H4 m4 h4 => ?_⟩
          · have h5 := Tm.deps_le.mp (show Tm.deps ts ≤ Tm.deps ts from Nat.le_refl _) zt hmem
            simp only [Tm.dep] at hdp
            omega
          · have e4 := m4.same _ _ e3
            refine ⟨_, e4, ?_, ys ++ [y], upd_same, ?_, (m3.trans m4).wr nD⟩
            · have h6 := (List.getElem?_eq_some_iff.mp hzt).1
              have h7 := hok.2.1
              rw [i3.length, Tm.ds_map, List.length_map, List.length_map, List.length_take]
              exact small1000 (by omega)
            · rw [List.take_add_one, hzt]
              rw [show Tm.ds (List.map (Tm.put f) (ts.take i ++ (some zt).toList)) = Tm.ds ((ts.take i).map (Tm.put f)) ++ [(zt.put f).d] by simp [Tm.ds_map]]
              exact ((i3.mv m4).append (Ims.cons h4 Ims.nil)).mv (Mv.set (S := [D]) e4 (by simp))
        · obtain ⟨ys, e3, i3, m3⟩ := h3
          rw [hl, List.take_length] at i3
          walk_at "nn"
          refine rd_tupOf (.inl (.inl e3)) fun p4 H4 m4 e4 => ?_
          refine rd_cat (m4.sqT (m3.sqT (m2.sqT e1))) e4 ?_ fun p5 H5 m5 e5 => ?_
          · have h7 := hok.2.1
            rw [i3.length, Tm.ds_map, List.length_map, List.length_map]
            exact Nat.le_of_lt (small1000 (by simp; omega))
          · refine q _ H5 (((m12.trans m3).trans m4).trans m5) (Im.tup e5 (Ims.cons (Im.str x) ?_))
            rw [← Tm.puts_map] at i3
            exact (i3.mv m4).mv m5

end
end Fm
namespace Fm
open PySem PySem.Spec PyProof.Rows L2
local macro_rules | `(tactic| walk_at "nn") => `(tactic| dsimp only [tC, tNil, tCons, tCB, tCall, gName, tSeq, tAsg, tPar, tDrop, tRet])
theorem line5 {n : Nat} (h : n ≤ 100000) : n ≤ sizeLine := Nat.le_trans h (by decide)
theorem line5lt {n : Nat} (h : n ≤ 100000) : n < sizeLine := Nat.lt_of_le_of_lt h (by decide)
theorem Tm.mem_parts {x : Str} {us ts : List Tm} (h : Tm.op x us ∈ ts) : Tm.deps us < Tm.deps ts := by
  have := Tm.deps_le.mp (show Tm.deps ts ≤ Tm.deps ts from Nat.le_refl _) _ h
  simp only [Tm.dep] at this
  omega
theorem Tm.lv_mem : ∀ {t : Tm} {ts : List Tm}, t ∈ ts → t.lv ≤ Tm.lvs ts
  | t, u :: ts, h => by
    rcases List.mem_cons.mp h with rfl | h
    · simp only [Tm.lvs]; omega
    · have := Tm.lv_mem h
      simp only [Tm.lvs]; omega
theorem Tm.lvs_take : ∀ (i : Nat) (ts : List Tm), Tm.lvs (ts.take i) ≤ Tm.lvs ts
  | 0, ts => by simp [Tm.lvs]
  | i + 1, [] => by simp [Tm.lvs]
  | i + 1, t :: ts => by
    have := Tm.lvs_take i ts
    simp only [List.take_succ_cons, Tm.lvs]
    omega
def sp_leavesR (K : PySem.W.Frag) (d : Nat) : Sp := fun vs H Q _ => ∃ (a : Addr) (xs : List V) (ts : List Tm), vs = [.ref a] ∧ (SqL K H a xs ∨ SqT K H a xs) ∧ Ims K H xs (Tm.ds ts) ∧ Tm.deps ts < d ∧ Tm.lvs ts ≤ 100000 ∧
  ∀ p H', H p = none → Mv [] H H' → H' p = some (.lst ((Tm.leavesL ts).map V.int)) → Q (.ref p) H'
def sp_sizeR (K : PySem.W.Frag) (d : Nat) : Sp := fun vs H Q _ => ∃ (a : Addr) (xs : List V) (ts : List Tm), vs = [.ref a] ∧ (SqL K H a xs ∨ SqT K H a xs) ∧ Ims K H xs (Tm.ds ts) ∧ Tm.deps ts < d ∧ ts.length ≤ 100000 ∧ Tm.oks (fun _ => True) ts ∧
  ∀ H', Mv [] H H' → Q (.int (Tm.sizes ts)) H'
section
variable {P : Program} {w : World} {K : PySem.W.Frag} {mg : Str → Option Value} {base : Heap}
theorem ok__law_leaves (T : TX K mg) : ∀ d : Nat, FnOk P w K mg base CX0 (d + 1) T.d__law_leaves.f T.d__law_leaves.fd P__law_leaves (sp_leavesR K d)
  | 0 => ⟨fun vs H Q E h => by obtain ⟨_, _, _, _, _, _, h, _⟩ := h; omega, fun _ _ _ _ _ _ _ _ _ _ _ _ _ h => by obtain ⟨_, _, _, _, _, _, h, _⟩ := h; omega⟩
  | d + 1 => by
    have G__law_leaves := ok__law_leaves T d
    refine T.d__law_leaves.F.ok sc__law_leaves (fun vs H Q E h => ?_) (fun cdv A outer s H vs Q E hr h => ?_)
    · obtain ⟨_, _, _, rfl, _⟩ := h
      rfl
    · obtain ⟨a, xs, ts, rfl, hS, hxs, hdp, hlv, q⟩ := h
      refine ⟨_, (pss_cons (ps_set (i := 1) sc__law_leaves.nd rfl (Or.inl rfl) (pe_lst pa_nil)) (pss_cons (ps_for PassesOwn.never rfl (pi_seq (pv 0)) (pg_name (i := 2) sc__law_leaves.nd rfl (Or.inl rfl)) (pss_one (ps_set (i := 1) sc__law_leaves.nd rfl (Or.inl rfl) (pe_op (r := rAddG K) op_addG (pv 1) (pe_ifExp (pt_val (pe_callB (r := rIsi K) call_isi (by rfl) T.b_isinstance bt_isinstance (pa_cons (pv 2) (pa_cons (pe_ty T.b_int bt_int) pa_nil)))) (pe_lst (pa_cons (pv 2) pa_nil)) (pe_call G__law_leaves (hr.mono (by omega)) rfl T.d__law_leaves.g T.d__law_leaves.F.kp T.d__law_leaves.b .nil pass0 (pa_cons (pe_slice (r := rSlG K) sl_G (pv 2) (po_some pe_int) po_none) pa_nil))))))) (pss_one (ps_ret (pv 1))))), ?_⟩
      have hl : xs.length = ts.length := by rw [hxs.length, Tm.ds_map, List.length_map]
      refine ⟨Nat.zero_le _, fun p0 n0 => ⟨.ref a, rfl, a, rfl, ?_⟩⟩
      have m0 : Mv [] H (upd H p0 (.lst [])) := .new n0
      refine for_seq (xs := xs) (hS.elim (fun h => .inl (m0.same.seq h)) (fun h => .inr (m0.sqT h))) (fun i σ H1 => ∃ p y, σ = [some (.ref a), some (.ref p), y] ∧ H p = none ∧ H1 p = some (.lst ((Tm.leavesL (ts.take i)).map V.int)) ∧ Mv [] (upd H p0 (.lst [])) H1)
        ⟨p0, none, rfl, n0, upd_same, .refl⟩ (fun i σ H1 h1 => ?_) (fun i x σ H1 hx h1 => ?_) (fun σ H1 h1 => ?_)
      · obtain ⟨_, _, _, _, _, m⟩ := h1
        exact m
      · obtain ⟨p, y, rfl, np, ep, m⟩ := h1
        have mH := m0.trans m
        obtain ⟨xd, hxd, him⟩ := hxs.get hx
        rw [Tm.ds_map, List.getElem?_map] at hxd
        obtain ⟨t, ht, rfl⟩ := Option.map_eq_some_iff.mp hxd
        have hmem := List.mem_of_getElem? ht
        have htake : Tm.leavesL (ts.take (i + 1)) = Tm.leavesL (ts.take i) ++ t.leaves := by
          rw [List.take_add_one, ht, Tm.leavesL_append]
          simp [Tm.leavesL]
        have hb : (Tm.leavesL (ts.take i)).length + t.leaves.length ≤ 100000 := by
          have h1 := Tm.lvs_take (i + 1) ts
          rw [← Tm.leavesL_len, htake, List.length_append] at h1
          omega
        refine ⟨.ref p, rfl, x, rfl, ?_⟩
        walk_at "nn"
        refine rd_isInt (him.mv mH) ?_
        refine ⟨_, rfl, ?_⟩
        cases t with
        | var j =>
          cases him.intI
          refine ⟨.int j, rfl, (by decide : 1 ≤ sizeLine), fun p1 n1 => ?_⟩
          refine rd_catL (by rw [upd_ne (ne_of_none ep n1)]; exact ep) upd_same (line5 (by simpa [Tm.leaves] using hb)) fun p2 H2 n2 m2 e2 => ?_
          refine ⟨p2, _, rfl, ((mH.trans (.new n1)).free n2), ?_, m.trans ((Mv.new n1).trans m2)⟩
          rw [e2, htake, List.map_append]
          rfl
        | op x us =>
          obtain ⟨a1, ys0, rfl, ha1, hys⟩ := him.tupI
          obtain ⟨x', ys, rfl, hx', hzs⟩ := hys.invD
          refine ⟨.ref a1, rfl, 1, rfl, rd_sl1 (mH.sqT ha1) fun p1 H2 m1 e1 => ?_⟩
          have hlt := Tm.mem_parts hmem
          have hle := Tm.lv_mem hmem
          refine ⟨p1, ys, us, rfl, .inr e1, (hzs.mv mH).mv m1, by omega, by simp only [Tm.lv] at hle; omega, fun p2 H3 n2 m2 e2 => ?_⟩
          refine rd_catL ((m1.trans m2).same _ _ ep) e2 (line5 (by simpa [Tm.leaves] using hb)) fun p3 H4 n3 m3 e3 => ?_
          refine ⟨p3, _, rfl, ((mH.trans (m1.trans m2)).free n3), ?_, m.trans ((m1.trans m2).trans m3)⟩
          rw [e3, htake, List.map_append]
          simp [Tm.leaves]
      · obtain ⟨p, y, rfl, np, ep, m⟩ := h1
        rw [hl, List.take_length] at ep
        exact ⟨.ref p, rfl, q p H1 np (m0.trans m) ep⟩
theorem sizes_sum : ∀ ts : List Tm, (ts.map fun t => ((t.size : Nat) : Int)).sum = ((Tm.sizes ts : Nat) : Int)
  | [] => by simp [Tm.sizes]
  | t :: ts => by
    rw [List.map_cons, List.sum_cons, sizes_sum ts]
    simp only [Tm.sizes]
    omega
theorem ok__law_size (T : TX K mg) : ∀ d : Nat, FnOk P w K mg base CX0 (d + 1) T.d__law_size.f T.d__law_size.fd P__law_size (sp_sizeR K d)
  | 0 => ⟨fun vs H Q E h => by obtain ⟨_, _, _, _, _, _, h, _⟩ := h; omega, fun _ _ _ _ _ _ _ _ _ _ _ _ _ h => by obtain ⟨_, _, _, _, _, _, h, _⟩ := h; omega⟩
  | d + 1 => by
    have G__law_size := ok__law_size T d
    refine T.d__law_size.F.ok sc__law_size (fun vs H Q E h => ?_) (fun cdv A outer s H vs Q E hr h => ?_)
    · obtain ⟨_, _, _, rfl, _⟩ := h
      rfl
    · obtain ⟨a, xs, ts, rfl, hS, hxs, hdp, hln, hok, q⟩ := h
      refine ⟨_, (pss_one (ps_ret (pe_callB (r := rSum K) (cr_sum rfl) (by rfl) T.b_sum bt_sum (pa_cons (pe_lc (own := [("_law_term_here", 1)]) (g := gName 1) (by rfl) sc__law_size.nd (pi_seq (pv 0)) (blkOk_by (own := [("_law_term_here", 1)]) (N := N__law_size) (sc := defScope s__law_size) (by decide +kernel)) (fun _ _ _ _ _ => pg_name (i := 1) sc__law_size.nd rfl (Or.inl rfl)) (fun _ _ _ _ _ => pts_nil) (fun _ _ _ _ _ => (pe_ifExp (pt_val (pe_callB (r := rIsi K) call_isi (by rfl) T.b_isinstance bt_isinstance (pa_cons (pv 1) (pa_cons (pe_ty T.b_int bt_int) pa_nil)))) pe_int (pe_op (r := rAddG K) op_addG pe_int (pe_call G__law_size (hr.mono (by omega)) rfl T.d__law_size.g T.d__law_size.F.kp T.d__law_size.b .nil pass0 (pa_cons (pe_slice (r := rSlG K) sl_G (pv 1) (po_some pe_int) po_none) pa_nil)))))) pa_nil)))), ?_⟩
      have hl : xs.length = ts.length := by rw [hxs.length, Tm.ds_map, List.length_map]
      refine ⟨.ref a, rfl, a, rfl, ?_⟩
      refine lc_seq (xs := xs) hS (fun i D H1 => H1 D = some (.lst (((ts.take i).map fun t => ((t.size : Nat) : Int)).map V.int)) ∧ Mv [] H H1)
        (fun D nD => ⟨upd_same, .new nD⟩) (fun i D H1 nD h1 => h1.2) (fun D nD i x H1 hx h1 => ?_) (fun D H1 nD h1 => ?_)
      · obtain ⟨e1, m1⟩ := h1
        obtain ⟨xd, hxd, him⟩ := hxs.get hx
        rw [Tm.ds_map, List.getElem?_map] at hxd
        obtain ⟨t, ht, rfl⟩ := Option.map_eq_some_iff.mp hxd
        have hmem := List.mem_of_getElem? ht
        have hi : i < ts.length := (List.getElem?_eq_some_iff.mp ht).1
        have htake : (ts.take (i + 1)).map (fun t => ((t.size : Nat) : Int)) = (ts.take i).map (fun t => ((t.size : Nat) : Int)) ++ [(t.size : Int)] := by
          rw [List.take_add_one, ht]
          simp
        refine ⟨rfl, x, rfl, ?_⟩
        walk_at "nn"
        refine rd_isInt (him.mv m1) ?_
        refine ⟨_, rfl, ?_⟩
        cases t with
        | var j =>
          refine ⟨_, e1, ?_, ?_, m1.wr nD⟩
          · rw [List.length_map, List.length_map, List.length_take]
            exact line5lt (by omega)
          · rw [upd_same, htake, List.map_append]
            rfl
        | op x us =>
          obtain ⟨a1, ys0, rfl, ha1, hys⟩ := him.tupI
          obtain ⟨x', ys, rfl, hx', hzs⟩ := hys.invD
          have hlt := Tm.mem_parts hmem
          have hok1 := Tm.oks_iff.mp hok _ hmem
          refine ⟨.ref a1, rfl, 1, rfl, rd_sl1 (m1.sqT ha1) fun p1 H2 m2 e2 => ?_⟩
          refine ⟨p1, ys, us, rfl, .inr e2, (hzs.mv m1).mv m2, by omega, by have := hok1.2.1; omega, hok1.2.2, fun H3 m3 => ?_⟩
          refine Or.inl ⟨1, _, rfl, rfl, _, (m2.trans m3).same _ _ e1, ?_, ?_, ((m1.trans m2).trans m3).wr nD⟩
          · rw [List.length_map, List.length_map, List.length_take]
            exact line5lt (by omega)
          · rw [upd_same, htake, List.map_append]
            have e9 : (1 : Int) + ((Tm.sizes us : Nat) : Int) = (((Tm.op x us).size : Nat) : Int) := by simp only [Tm.size]; omega
            show some (HO.lst (_ ++ [V.int ((1 : Int) + ((Tm.sizes us : Nat) : Int))])) = _
            rw [e9]
            rfl
      · obtain ⟨e1, m1⟩ := h1
        rw [hl, List.take_length] at e1
        refine ⟨D, _, rfl, .inl (.inl e1), ?_⟩
        rw [sizes_sum]
        exact q H1 m1
end
end Fm
namespace Fm
open PySem PySem.Spec PyProof.Rows L2
local macro_rules | `(tactic| walk_at "nn") => `(tactic| dsimp only [tC, tNil, tCons, tCB, tCall, gName, tSeq, tAsg, tPar, tDrop, tRet])
local macro_rules | `(tactic| walk_at "nc") => `(tactic| dsimp only [tC, tNil, tCons, tCB])
/-- names at hand -/
structure Nms (H : Hp) (b nm : Addr) (xs : List Str) : Prop where
  at_ : H nm = some (.lst (xs.map V.str))
  ne : nm ≠ b
  some_ : xs ≠ []
  few : xs.length ≤ 1000
  ok : ∀ x ∈ xs, Nm x
theorem Nms.dr {H H' : Hp} {b nm : Addr} {xs : List Str} (h : Nms H b nm xs) (d : Dr b H H') : Nms H' b nm xs := ⟨d.get h.ne h.at_, h.ne, h.some_, h.few, h.ok⟩
def sp_alike (K : PySem.W.Frag) : Sp := fun vs H Q _ => ∃ (x y : V) (d : PyData), vs = [x, y] ∧ Dp K H x d ∧ Dp K H y d ∧ Shw d ∧ Q (.bl true) H
section
variable {P : Program} {w : World} {K : PySem.W.Frag} {mg : Str → Option Value} {base : Heap}
theorem ok__law_alike (T : TX K mg) {k : Nat} : FnOkG P w K mg base CX0 (k + 1) T.d__law_alike.f T.d__law_alike.fd P__law_alike (sp_alike K) := by
  refine okG T.d__law_alike.F sc__law_alike (fun vs H Q E h => ?_) (fun cdv A outer s H vs Q E hgd hr h => ?_)
  · obtain ⟨_, _, _, rfl, _⟩ := h
    rfl
  · obtain ⟨x, y, d, rfl, hx, hy, hs, q⟩ := h
    have hu64 := hr.units
    refine ⟨_, (pss_one (ps_ret (pe_and (pe_cmpR (r := rEqG K) (op_eqG hu64) (pv 0) (pv 1) (nomark _)) (pe_one (pe_cmpR (r := rEqG K) (op_eqG hu64) (pe_callB (r := rReprG K) (call_reprG hgd hu64) (by rfl) T.b_repr bt_repr (pa_cons (pv 0) pa_nil)) (pe_callB (r := rReprG K) (call_reprG hgd hu64) (by rfl) T.b_repr bt_repr (pa_cons (pv 1) pa_nil)) (nomark _)))))), ?_⟩
    have hf := fine_lay d hs.fi
    refine ⟨x, rfl, y, rfl, Or.inr ⟨d, d, hx, hy, hs.shaped, hs.shaped, _, rfl, ?_⟩⟩
    rw [hs.eqv]
    refine ⟨x, rfl, ?_⟩
    walk_at "nc"
    refine ⟨x, d, rfl, hx, hf.2.1, hf.2.2, hs.dp, hs.len, y, rfl, ?_⟩
    refine ⟨y, d, rfl, hy, hf.2.1, hf.2.2, hs.dp, hs.len, Or.inl ⟨rfl, ?_⟩⟩
    rw [decide_eq_true rfl]
    exact q
theorem ints_shaped : ∀ o : List Int, SeqAt.shaped (.list (o.map PyData.int)) = true := fun o => by
  have h1 : ∀ o : List Int, PyData.canLayAll0 (o.map PyData.int) = true := fun o => by
    induction o with
    | nil => rfl
    | cons x o ih => simp [PyData.canLayAll0, PyData.canLay0, ih]
  have h2 : ∀ o : List Int, PyData.depthAll (o.map PyData.int) = 0 := fun o => by
    induction o with
    | nil => rfl
    | cons x o ih => simp [PyData.depthAll, PyData.depth, ih]
  show (PyData.canLay0 (.list (o.map PyData.int)) && decide (PyData.depth (.list (o.map PyData.int)) ≤ 64)) = true
  simp only [PyData.canLay0, PyData.depth, h1, h2]
  rfl
theorem dp_ints {H : Hp} : ∀ o : List Int, DpAll K H (o.map V.int) (o.map PyData.int)
  | [] => .nil
  | x :: o => .cons (.int x) (dp_ints o)
theorem ints_any (o : List Int) (u : Int) : ((o.map PyData.int).any fun z => PyData.eqv z (.int u)) = decide (u ∈ o) := by
  rw [List.any_map]
  have e : ((fun z => PyData.eqv z (.int u)) ∘ PyData.int) = fun z => z == u := by
    funext z
    simp [PyData.eqv]
  rw [e, Bool.eq_iff_iff]
  simp
end
end Fm
namespace Fm
open PySem PySem.Spec PyProof.Rows L2
local macro_rules | `(tactic| walk_at "nn") => `(tactic| dsimp only [tC, tNil, tCons, tCB, tCall, gName, tSeq, tAsg, tPar, tDrop, tRet])
/-- a list or tuple in some other order -/
def sp_mixG (K : PySem.W.Frag) : Sp := fun vs H Q _ => ∃ (b l : Addr) (xs : List V), vs = [.ref b, .ref l] ∧ Bag H b ∧ ((H l = some (.lst xs) ∧ l ≠ b) ∨ SqT K H l xs) ∧ xs.length ≤ 1000 ∧
  ∀ (p : Addr) (ys : List V) H', ys.Perm xs → H p = none → H' p = some (.lst ys) → Dr b H H' → Q (.ref p) H'
theorem perm_ins {α : Type} (ms : List α) (j : Nat) (u : α) : (ms.take j ++ [u] ++ ms.drop j).Perm (ms ++ [u]) := by
  have h1 : (ms.take j ++ [u] ++ ms.drop j).Perm (ms.take j ++ (ms.drop j ++ [u])) := by
    rw [List.append_assoc]
    exact List.Perm.append_left _ List.perm_append_comm
  rw [← List.append_assoc, List.take_append_drop] at h1
  exact h1
section
variable {P : Program} {w : World} {K : PySem.W.Frag} {mg : Str → Option Value} {base : Heap}
theorem ok__law_mixed (T : TX K mg) {k : Nat} : FnOk P w K mg base CX0 (k + 2) T.d__law_mixed.f T.d__law_mixed.fd P__law_mixed (sp_mixG K) := by
  have G__law_take : FnOk P w K mg base CX0 1 T.d__law_take.f T.d__law_take.fd P__law_take sp_take := ok__law_take T
  refine T.d__law_mixed.F.ok sc__law_mixed (fun vs H Q E h => ?_) (fun cdv A outer s H vs Q E hr h => ?_)
  · obtain ⟨_, _, _, rfl, _⟩ := h
    rfl
  · obtain ⟨b, l, xs, rfl, hB, hl, hln, q⟩ := h
    refine ⟨_, (pss_cons (ps_set (i := 2) sc__law_mixed.nd rfl (Or.inl rfl) (pe_lst pa_nil)) (pss_cons (ps_for PassesOwn.never rfl (pi_seq (pv 1)) (pg_name (i := 3) sc__law_mixed.nd rfl (Or.inl rfl)) (pss_one (ps_expr (pe_bm PySem.F.plainAttrs_list PySem.F.slot_list_insert PySem.F.type_list_insert mt_insert (pv 2) (pa_cons (pe_call G__law_take (hr.mono (by omega)) rfl T.d__law_take.g T.d__law_take.F.kp T.d__law_take.b .nil pass0 (pa_cons (pv 0) (pa_cons (pe_op (r := rAddG K) op_addG (pe_callB (r := rLenG K) call_lenG (by rfl) T.b_len bt_len (pa_cons (pv 2) pa_nil)) pe_int) pa_nil))) (pa_cons (pv 3) pa_nil)))))) (pss_one (ps_ret (pv 2))))), ?_⟩
    refine ⟨Nat.zero_le _, fun p np => ⟨.ref l, rfl, l, rfl, ?_⟩⟩
    have hpb : p ≠ b := hB.fneq np
    rcases hl with ⟨hl, hlb⟩ | hl
    · refine Or.inl ⟨⟨_, .inl (.inl (same_new np _ _ hl))⟩, ?_⟩
      refine for_list (K := K) (a := l) (xs := xs) (fun i σ H2 => ∃ (ms : List V) (y : Option V), σ = [some (.ref b), some (.ref l), some (.ref p), y] ∧ H2 p = some (.lst ms) ∧ ms.Perm (xs.take i) ∧ Dr b H H2)
        ⟨[], none, rfl, upd_same, by simp, Dr.new np⟩ (fun i σ H2 _ h2 => ?_) (fun i x σ H2 hx h2 => ?_) (fun σ H2 h2 => ?_)
      · obtain ⟨_, _, _, _, _, d⟩ := h2
        exact .inl (.inl (d.get hlb hl))
      · obtain ⟨ms, y, rfl, e2, s2, d2⟩ := h2
        have hi := (List.getElem?_eq_some_iff.mp hx).1
        have l2 : ms.length = i := by rw [s2.length_eq, List.length_take]; omega
        refine ⟨.ref p, rfl, .inl ⟨rfl, _, .inl (.inl e2)⟩, .ref b, rfl, .ref p, rfl, ?_⟩
        walk_at "nn"
        refine rd_len (.inl (.inl (.inl e2))) ?_
        refine Or.inl ⟨_, 1, rfl, rfl, b, _, rfl, d2.bag hB, by omega, by omega, fun j H3 hj0 hj1 d3 => ?_⟩
        have e3 := d3.get hpb e2
        refine ⟨x, rfl, p, _, j, x, rfl, rfl, e3, small1000 (by omega), hj0, by omega, ?_⟩
        refine ⟨ms.take j.toNat ++ [x] ++ ms.drop j.toNat, _, rfl, ?_, ?_, (d2.trans d3).wr np⟩
        · rw [upd_same]
          first | done | simp
        · rw [List.take_add_one, hx]
          exact (perm_ins ms j.toNat x).trans (s2.append_right _)
      · obtain ⟨ms, y, rfl, e2, s2, d2⟩ := h2
        rw [List.take_length] at s2
        exact ⟨.ref p, rfl, q p ms H2 s2 np e2 d2⟩
    · refine Or.inr ⟨⟨_, (Mv.new (S := []) np).sqT hl⟩, ?_⟩
      refine for_tup (K := K) (a := l) (xs := xs) (fun i σ H2 => ∃ (ms : List V) (y : Option V), σ = [some (.ref b), some (.ref l), some (.ref p), y] ∧ H2 p = some (.lst ms) ∧ ms.Perm (xs.take i) ∧ Dr b H H2)
        ⟨[], none, rfl, upd_same, by simp, Dr.new np⟩ (fun i σ H2 _ h2 => ?_) (fun i x σ H2 hx h2 => ?_) (fun σ H2 h2 => ?_)
      · obtain ⟨_, _, _, _, _, d⟩ := h2
        exact d.mv.sqT hl
      · obtain ⟨ms, y, rfl, e2, s2, d2⟩ := h2
        have hi := (List.getElem?_eq_some_iff.mp hx).1
        have l2 : ms.length = i := by rw [s2.length_eq, List.length_take]; omega
        refine ⟨.ref p, rfl, .inl ⟨rfl, _, .inl (.inl e2)⟩, .ref b, rfl, .ref p, rfl, ?_⟩
        walk_at "nn"
        refine rd_len (.inl (.inl (.inl e2))) ?_
        refine Or.inl ⟨_, 1, rfl, rfl, b, _, rfl, d2.bag hB, by omega, by omega, fun j H3 hj0 hj1 d3 => ?_⟩
        have e3 := d3.get hpb e2
        refine ⟨x, rfl, p, _, j, x, rfl, rfl, e3, small1000 (by omega), hj0, by omega, ?_⟩
        refine ⟨ms.take j.toNat ++ [x] ++ ms.drop j.toNat, _, rfl, ?_, ?_, (d2.trans d3).wr np⟩
        · rw [upd_same]
          first | done | simp
        · rw [List.take_add_one, hx]
          exact (perm_ins ms j.toNat x).trans (s2.append_right _)
      · obtain ⟨ms, y, rfl, e2, s2, d2⟩ := h2
        rw [List.take_length] at s2
        exact ⟨.ref p, rfl, q p ms H2 s2 np e2 d2⟩
end
end Fm
namespace Fm
open PySem PySem.Spec PyProof.Rows L2
local macro_rules | `(tactic| walk_at "nn") => `(tactic| dsimp only [tC, tNil, tCons, tCB, tCall, gName, tSeq, tAsg, tPar, tDrop, tRet])
local macro_rules | `(tactic| walk_at "nc") => `(tactic| dsimp only [tC, tNil, tCons, tCB, tCall])
/-! terms over some variables -/
mutual
def under (many : Int) : Th → Bool
  | .int i => decide (i < many)
  | .tup (_ :: ts) => unders many ts
  | _ => true
def unders (many : Int) : List Th → Bool
  | [] => true
  | t :: ts => under many t && unders many ts
end
theorem unders_append (many : Int) (ts us : List Th) : unders many (ts ++ us) = (unders many ts && unders many us) := by
  induction ts with
  | nil => simp [unders]
  | cons t ts ih => simp [unders, ih, Bool.and_assoc]
def sp_termOver (K : PySem.W.Frag) : Sp := fun vs H Q _ => ∃ (many : Int) (v : V) (t : Th) (b : Addr), vs = [.int many, v] ∧ Is K b H v t ∧ t.cnt ≤ 90000 ∧ ∀ H', Mv [] H H' → Q (.bl (isTerm t && under many t)) H'
section
variable {P : Program} {w : World} {K : PySem.W.Frag} {mg : Str → Option Value} {base : Heap}
theorem ok_is_term_over (T : TX K mg) {k : Nat} : FnOk P w K mg base CX0 (k + 3) T.d_is_term_over.f T.d_is_term_over.fd P_is_term_over (sp_termOver K) := by
  have G_is_term : FnOk P w K mg base CX0 2 T.d_is_term.f T.d_is_term.fd P_is_term (sp_isTerm K) := ok_is_term T
  refine T.d_is_term_over.F.ok sc_is_term_over (fun vs H Q E h => ?_) (fun cdv A outer s H vs Q E hr h => ?_)
  · obtain ⟨_, _, _, _, rfl, _⟩ := h
    rfl
  · obtain ⟨many, v, t, b, rfl, hv, hcn, q⟩ := h
    have hu65 := hu65_of hr
    refine ⟨_, (pss_cons (ps_if (pt_not (pt_val (pe_call G_is_term (hr.mono (by omega)) rfl T.d_is_term.g T.d_is_term.F.kp T.d_is_term.b .nil pass0 (pa_cons (pv 1) pa_nil)))) (pss_one (ps_ret pe_bl)) pss_nil) (pss_cons (ps_set (i := 2) sc_is_term_over.nd rfl (Or.inl rfl) (pe_lst (pa_cons (pv 1) pa_nil))) (pss_cons (ps_while PassesOwn.never (pt_cmpR (r := rNeNil K) (op_neNil (Nat.lt_of_le_of_lt (Nat.le_add_right _ 65) hu65)) (pv 2) (pe_lst pa_nil) (nomark _)) (pss_cons (ps_set (i := 3) sc_is_term_over.nd rfl (Or.inl rfl) (pe_bm0 PySem.F.plainAttrs_list PySem.F.slot_list_pop PySem.F.type_list_pop mt_pop (pv 2))) (pss_one (ps_if (pt_not (pt_val (pe_callB (r := rIsi K) call_isi (by rfl) T.b_isinstance bt_isinstance (pa_cons (pv 3) (pa_cons (pe_ty T.b_int bt_int) pa_nil))))) (pss_one (ps_expr (pe_bm PySem.F.plainAttrs_list PySem.F.slot_list_extend PySem.F.type_list_extend (r := rExtG K) mt_extendG (pv 2) (pa_cons (pe_slice (r := rSlG K) sl_G (pv 3) (po_some pe_int) po_none) pa_nil)))) (pss_one (ps_if (pt_cmpR op_ge (pv 3) (pv 0) (nomark _)) (pss_one (ps_ret pe_bl)) pss_nil)))))) (pss_one (ps_ret pe_bl))))), ?_⟩
    refine ⟨v, rfl, v, t, b, rfl, hv, hcn, fun H1 m1 => ⟨_, rfl, ite2 (fun e1 => ?_) (fun e1 => ?_)⟩⟩
    · have e9 : isTerm t = false := by simpa using e1
      rw [e9] at q
      exact q H1 m1
    have e9 : isTerm t = true := by simpa using e1
    rw [e9] at q
    refine ⟨v, rfl, (by decide : 1 ≤ sizeLine), fun l nl => ?_⟩
    have nl0 := m1.free nl
    refine ⟨fun m σ H2 => ∃ (ys : List V) (us : List Th) (y : Option V), σ = [some (.int many), some v, some (.ref l), y] ∧ H2 l = some (.lst ys) ∧ IsAll K b H ys us ∧ isTerms us = true ∧ unders many us = under many t ∧ Th.cnts us ≤ 90000 ∧ m = Th.cnts us ∧ Mv [] H H2,
      ⟨_, [v], [t], none, rfl, upd_same, IsAll.cons hv IsAll.nil, by simp [isTerms, e9], by simp [unders], by simp only [Th.cnts]; omega, rfl, m1.trans (.new nl)⟩, fun m σ H2 hW => ?_⟩
    obtain ⟨ys, us, y, rfl, e2, i2, s2, t2, b2, rfl, m2⟩ := hW
    refine ⟨.ref l, rfl, Nat.zero_le _, fun q1 n1 => ⟨l, q1, ys, rfl, rfl, .inl (.inl (same_new n1 _ _ e2)), .inl (.inl upd_same), ?_⟩⟩
    have m23 : Mv [] H (upd H2 q1 (.lst [])) := m2.trans (.new n1)
    have e3 : upd H2 q1 (.lst []) l = some (.lst ys) := same_new n1 _ _ e2
    generalize upd H2 q1 (.lst []) = H3 at m23 e3 ⊢
    refine ⟨_, rfl, ?_⟩
    rcases List.eq_nil_or_concat us with rfl | ⟨us', u, rfl⟩
    · have hy : ys = [] := i2
      subst hy
      rw [show unders many ([] : List Th) = true from by simp [unders]] at t2
      rw [← t2] at q
      exact q H3 m23
    · rw [List.concat_eq_append] at *
      obtain ⟨ys', z, rfl, i4, hz⟩ := IsAll.last rfl i2
      rw [show (!(ys' ++ [z]).isEmpty) = true by simp]
      refine ⟨fun σ' H' => ∃ m', m' < Th.cnts (us' ++ [u]) ∧ _, fun _ _ h => h, ?_⟩
      refine ⟨.ref l, rfl, .inl ⟨rfl, _, .inl (.inl e3)⟩, l, _, z, rfl, rfl, e3, by simp, ?_⟩
      have m25 : Mv [] H (upd H3 l (.lst (ys' ++ [z]).dropLast)) := m23.wr nl0
      have e5 : upd H3 l (.lst (ys' ++ [z]).dropLast) l = some (.lst ys') := by rw [upd_same, List.dropLast_concat]
      generalize upd H3 l (.lst (ys' ++ [z]).dropLast) = H5 at m25 e5 ⊢
      rw [Th.cnts_append] at b2 ⊢
      rw [isTerms_append, Bool.and_eq_true] at s2
      rw [unders_append] at t2
      have e1u : isTerms [u] = isTerm u := by simp [isTerms]
      have c1u : Th.cnts [u] = u.cnt := by simp [Th.cnts]
      rw [e1u] at s2
      rw [show unders many [u] = under many u by simp [unders]] at t2
      rw [c1u] at b2 ⊢
      have hpos := u.cnt_pos
      refine ⟨z, rfl, ?_⟩
      walk_at "nn"
      refine rd_isi (hz.mv0 m25) (kit_int u) ⟨_, rfl, ?_⟩
      cases u with
      | int i =>
        cases (show z = V.int i from hz)
        refine ⟨.int i, rfl, .int many, rfl, i, many, rfl, rfl, _, rfl, ite2 (fun e => ?_) (fun e => ?_)⟩
        · have h0 : ¬ i < many := by simp at e; omega
          rw [show under many t = false by rw [← t2]; simp only [under]; rw [decide_eq_false h0, Bool.and_false]] at q
          exact q H5 m25
        · have h0 : i < many := by simp at e; omega
          refine ⟨Th.cnts us', by omega, ys', us', _, rfl, e5, i4, s2.1, ?_, by omega, rfl, m25⟩
          rw [← t2]
          simp only [under]
          rw [decide_eq_true h0, Bool.and_true]
      | tup ts =>
        obtain ⟨a1, zs0, rfl, ha1, hzs0⟩ := hz
        cases ts with
        | nil => simp [isTerm] at s2
        | cons t0 tr =>
          obtain ⟨z0, zs, rfl, hz0, hzs⟩ := hzs0
          have s3 : isTerms tr = true ∧ tr.length ≤ 3 := by
            have := s2.2
            simp only [isTerm, Bool.and_eq_true, decide_eq_true_eq] at this
            exact ⟨this.2, this.1.2⟩
          have hlz := hzs.length
          refine ⟨.ref l, rfl, .inl ⟨rfl, _, .inl (.inl e5)⟩, .ref a1, rfl, 1, rfl, rd_sl1 (m25.sqT ha1) fun p8 H8 m8 e8 => ?_⟩
          have hl4 := i4.length
          have hc4 := Th.cnts_len us'
          simp only [Th.cnt, Th.cnts] at b2 ⊢
          have hpos0 := t0.cnt_pos
          have hczs := Th.cnts_len tr
          refine Or.inr ⟨l, p8, ys', zs, rfl, rfl, m8.same _ _ e5, e8, Nat.le_trans (show ys'.length + zs.length ≤ 100000 by omega) (by decide), ?_⟩
          refine ⟨Th.cnts (us' ++ tr), by rw [Th.cnts_append]; omega, ys' ++ zs, us' ++ tr, _, rfl, upd_same, i4.append hzs, ?_, ?_, by rw [Th.cnts_append]; omega, rfl, (m25.trans m8).wr nl0⟩
          · rw [isTerms_append, s2.1, s3.1]
            rfl
          · rw [← t2, unders_append]
            simp only [under]
      | non => simp [isTerm] at s2
      | bl c => simp [isTerm] at s2
      | str x => simp [isTerm] at s2
      | lst => simp [isTerm] at s2
      | dct => simp [isTerm] at s2
end
mutual
theorem isTerm_th {R : Int → Prop} (hR : ∀ i, R i → 0 ≤ i) : ∀ t : Tm, t.ok R → isTerm t.th = true
  | .var i, h => by simpa [Tm.th, isTerm] using hR i h
  | .op x ts, h => by
    simp only [Tm.th, isTerm, isNamed, nmd_nm h.1, isTerms_ths hR ts h.2.2, Bool.true_and, Bool.and_true, ths_len, decide_eq_true_eq]
    exact h.2.1
theorem isTerms_ths {R : Int → Prop} (hR : ∀ i, R i → 0 ≤ i) : ∀ ts : List Tm, Tm.oks R ts → isTerms (Tm.ths ts) = true
  | [], _ => by simp [Tm.ths, isTerms]
  | t :: ts, h => by simp [Tm.ths, isTerms, isTerm_th hR t h.1, isTerms_ths hR ts h.2]
theorem ths_len : ∀ ts : List Tm, (Tm.ths ts).length = ts.length
  | [] => by simp [Tm.ths]
  | t :: ts => by simp [Tm.ths, ths_len ts]
end
mutual
theorem under_th {R : Int → Prop} {n : Int} (hR : ∀ i, R i → i < n) : ∀ t : Tm, t.ok R → under n t.th = true
  | .var i, h => by simpa [Tm.th, under] using hR i h
  | .op x ts, h => by
    simp only [Tm.th, under]
    exact unders_ths hR ts h.2.2
theorem unders_ths {R : Int → Prop} {n : Int} (hR : ∀ i, R i → i < n) : ∀ ts : List Tm, Tm.oks R ts → unders n (Tm.ths ts) = true
  | [], _ => by simp [Tm.ths, unders]
  | t :: ts, h => by simp [Tm.ths, unders, under_th hR t h.1, unders_ths hR ts h.2]
end
mutual
theorem cnt_th : ∀ t : Tm, t.th.cnt ≤ t.cst + t.lv
  | .var i => by simp [Tm.th, Th.cnt, Tm.lv]
  | .op x ts => by
    have := cnts_ths ts
    simp only [Tm.th, Th.cnt, Th.cnts, Tm.cst, Tm.lv]
    omega
theorem cnts_ths : ∀ ts : List Tm, Th.cnts (Tm.ths ts) ≤ Tm.csts ts + Tm.lvs ts
  | [] => by simp [Tm.ths, Th.cnts]
  | t :: ts => by
    have := cnt_th t
    have := cnts_ths ts
    simp only [Tm.ths, Th.cnts, Tm.csts, Tm.lvs]
    omega
end
end Fm
namespace Fm
open PySem PySem.Spec PyProof.Rows L2 SlX
/-! a built-in's method within a comprehension, d.items() -/
section
variable {X : Cx} {K : PySem.W.Frag} {o e : Expr} {es : List Expr} {to : TE} {t : TA} {apos cpos : Pos} {T id : String} {name f : Str} {r : V → List V → Hp → VK → Prop}
theorem pe_bm0C (hK : X.K = K) (pa : PlainAttrs T) (slot : Slot T name id) (hty : typeOf (.builtin id) = pure (.type "method_descriptor")) (hm : MtR X id r) (ho : PE X o to)
    (hbase : attributeBase o name X.env (eval o X.env) = eval o X.env := by rfl) (hline : (apos.endLine == cpos.line) = true := by rfl) : PE X (.Call (.Attribute o name apos) [] [] cpos) (tBM0 K T r to) := by
  subst hK
  exact pe_bm0 pa slot hty hm ho hbase hline
theorem pe_slC (hK : X.K = K) (he : PE X e to) (hb : attributeBase e f X.env (eval e X.env) = eval e X.env := by rfl) : PE X (.Attribute e f apos) (SlX.tSl K to f) := by
  subst hK
  exact pe_sl he hb
end
/-- a dict comprehension over what is walked -/
theorem dc_it {J : It} {n : Nat} {G : Hp → Prop} {Y : Nat → Hp → V → Hp → Prop} (w : Walk J n G Y) {g : TG} {tt : TT} {tk tv : TE} {vs : List Nat} {σ : L2.St} {H1 : Hp} {D : Addr} {Qd : Hp → Prop} (Pv : Nat → Hp → Prop) (h0 : Pv 0 (upd H1 D (.dK []))) (hG : ∀ i H, i ≤ n → Pv i H → G H)
    (hs : ∀ i x H H', i < n → Pv i H → Y i H x H' → g x (wipe σ vs) H' fun σ2 H2 => wipe σ2 vs = wipe σ vs ∧ tt σ2 H2 fun b H3 =>
      if b = true then tk σ2 H3 fun y H4 => tv σ2 H4 fun z H5 => ∃ kvs k, y = kV k ∧ H5 D = some (.dK kvs) ∧ kvs.length < sizeLine ∧ Pv (i + 1) (upd H5 D (.dK (putK kvs k z))) else Pv (i + 1) H3) (hd : ∀ H, Pv n H → Qd H) :
    ∃ W : Nat → Nat → Hp → Prop, (∃ m, W 0 m (upd H1 D (.dK []))) ∧ ∀ i m H, W i m H →
      (J.stop i H ∧ Qd H) ∨ (J.go i H ∧ ∃ Nx : Hp → Prop, (∀ H', Nx H' → ∃ m', m' < m ∧ W (i + 1) m' H') ∧ ∀ x H', J.yld i H x H' → g x (wipe σ vs) H' fun σ2 H2 => wipe σ2 vs = wipe σ vs ∧ tt σ2 H2 fun b H3 =>
        if b = true then tk σ2 H3 fun y H4 => tv σ2 H4 fun z H5 => ∃ kvs k, y = kV k ∧ H5 D = some (.dK kvs) ∧ kvs.length < sizeLine ∧ Nx (upd H5 D (.dK (putK kvs k z))) else Nx H3) := by
  refine ⟨fun i m H => m = n - i ∧ i ≤ n ∧ Pv i H, ⟨n, by simp, Nat.zero_le _, h0⟩, ?_⟩
  rintro i m H ⟨rfl, hi, p⟩
  have q := hG i H hi p
  by_cases hlt : i < n
  · exact .inr ⟨w.goes i H hlt q, Pv (i + 1), fun H' p' => ⟨n - (i + 1), by omega, rfl, hlt, p'⟩, fun x H' y => hs i x H H' hlt p (w.yields i H x H' hlt q y)⟩
  · have e : i = n := by omega
    subst e
    exact .inl ⟨w.stops H q, hd H p⟩
/-! orders -/
structure TotO {κ : Type} (le : κ → κ → Bool) : Prop where
  tr : ∀ a b c, le a b = true → le b c = true → le a c = true
  to : ∀ a b, (le a b || le b a) = true
  an : ∀ a b, le a b = true → le b a = true → a = b
def leS (x y : Str) : Bool := !decide (y.cps.toList < x.cps.toList)
def leZ (i j : Int) : Bool := decide (i ≤ j)
theorem leS_iff {x y : Str} : leS x y = true ↔ x.cps.toList ≤ y.cps.toList := by
  unfold leS
  rw [Bool.not_eq_true', decide_eq_false_iff_not, List.not_lt]
theorem totS : TotO leS where
  tr a b c h k := leS_iff.mpr (List.le_trans (leS_iff.mp h) (leS_iff.mp k))
  to a b := by
    rcases List.le_total a.cps.toList b.cps.toList with h | h
    · rw [leS_iff.mpr h]; rfl
    · rw [leS_iff.mpr h, Bool.or_true]
  an a b h k := str_ext (List.le_antisymm (leS_iff.mp h) (leS_iff.mp k))
theorem totZ : TotO leZ where
  tr a b c h k := by
    have := of_decide_eq_true h
    have := of_decide_eq_true k
    exact decide_eq_true (by omega)
  to a b := by
    unfold leZ
    rw [← Bool.decide_or]
    exact decide_eq_true (by omega)
  an a b h k := by
    have := of_decide_eq_true h
    have := of_decide_eq_true k
    omega
theorem inj_of_nd {α κ : Type} {k : α → κ} : ∀ {xs : List α}, (xs.map k).Nodup → ∀ {a b}, a ∈ xs → b ∈ xs → k a = k b → a = b
  | [], _, _, _, h, _, _ => absurd h List.not_mem_nil
  | x :: xs, n, a, b, ha, hb, e => by
    rw [List.map_cons, List.nodup_cons] at n
    rcases List.mem_cons.mp ha with h1 | h1
    · rcases List.mem_cons.mp hb with h2 | h2
      · rw [h1, h2]
      · exact absurd (List.mem_map.mpr ⟨b, h2, by rw [← e, h1]⟩) n.1
    · rcases List.mem_cons.mp hb with h2 | h2
      · exact absurd (List.mem_map.mpr ⟨a, h1, by rw [e, h2]⟩) n.1
      · exact inj_of_nd n.2 h1 h2 e
section
variable {α κ : Type} {le : κ → κ → Bool} {k : α → κ}
/-- xs by the key k -/
def srt (le : κ → κ → Bool) (k : α → κ) (xs : List α) : List α := xs.mergeSort fun a b => le (k a) (k b)
theorem srt_perm (xs : List α) : (srt le k xs).Perm xs := List.mergeSort_perm _ _
theorem srt_pw (t : TotO le) (xs : List α) : (srt le k xs).Pairwise fun a b => le (k a) (k b) = true :=
  List.pairwise_mergeSort (le := fun a b => le (k a) (k b)) (fun a b c h h' => t.tr (k a) (k b) (k c) h h') (fun a b => t.to (k a) (k b)) xs
theorem srt_mem {xs : List α} {a : α} : a ∈ srt le k xs ↔ a ∈ xs := (srt_perm xs).mem_iff
theorem srt_len (xs : List α) : (srt le k xs).length = xs.length := (srt_perm xs).length_eq
theorem srt_one (t : TotO le) {xs ys : List α} (n : (xs.map k).Nodup) (p : ys.Perm xs) (s : ys.Pairwise fun a b => le (k a) (k b) = true) : ys = srt le k xs :=
  List.Perm.eq_of_pairwise (le := fun a b => le (k a) (k b) = true) (fun a b ha hb h h' => inj_of_nd n (p.mem_iff.mp ha) (srt_mem.mp hb) (t.an _ _ h h')) s (srt_pw t xs) (p.trans (srt_perm xs).symm)
theorem srt_keys (t : TotO le) {xs : List α} (n : (xs.map k).Nodup) {ys : List κ} (p : ys.Perm (xs.map k)) (s : ys.Pairwise fun a b => le a b = true) : ys = (srt le k xs).map k :=
  List.Perm.eq_of_pairwise (le := fun a b => le a b = true) (fun a b _ _ h h' => t.an _ _ h h') s (List.pairwise_map.mpr (srt_pw t xs)) (p.trans ((srt_perm xs).map k).symm)
theorem srt_nd {xs : List α} (n : (xs.map k).Nodup) : ((srt le k xs).map k).Nodup := ((srt_perm xs).map k).nodup_iff.mpr n
theorem srt_idem (t : TotO le) {xs : List α} (n : (xs.map k).Nodup) : srt le k (srt le k xs) = srt le k xs := (srt_one t (srt_nd n) (.refl _) (srt_pw t xs)).symm
theorem srt_of_perm (t : TotO le) {xs ys : List α} (n : (xs.map k).Nodup) (p : ys.Perm xs) : srt le k ys = srt le k xs := srt_one t n ((srt_perm ys).trans p) (srt_pw t ys)
end
theorem srt_map {α β κ : Type} {le : κ → κ → Bool} {k : α → κ} {l : β → κ} (t : TotO le) {f : α → β} (hk : ∀ a, l (f a) = k a) {xs : List α} (n : (xs.map k).Nodup) : srt le l (xs.map f) = (srt le k xs).map f := by
  have e : (xs.map f).map l = xs.map k := by
    rw [List.map_map]
    exact List.map_congr_left fun a _ => hk a
  refine (srt_one t (by rw [e]; exact n) ((srt_perm xs).map f) ?_).symm
  rw [List.pairwise_map]
  refine (srt_pw t xs).imp fun {a b} h => ?_
  rw [hk, hk]
  exact h
theorem risingS_pw : ∀ (p : Str) (l : List Str), risingS p l = true → (p :: l).Pairwise fun a b => leS a b = true
  | p, [], _ => List.pairwise_singleton _ _
  | p, x :: r, h => by
    have h' : (!ltCps x.cps.toList p.cps.toList) = true ∧ risingS x r = true := by simpa [risingS] using h
    have h1 : leS p x = true := by
      have := h'.1
      rw [ltCps_eq] at this
      exact this
    have ih := risingS_pw x r h'.2
    refine .cons (fun c hc => ?_) ih
    rcases List.mem_cons.mp hc with rfl | hc
    · exact h1
    · exact totS.tr _ _ _ h1 ((List.pairwise_cons.mp ih).1 c hc)
theorem sortedS_pw : ∀ (l : List Str), sortedS l = true → l.Pairwise fun a b => leS a b = true
  | [], _ => .nil
  | x :: r, h => risingS_pw x r h
/-! dicts -/
section
variable {κ : Type} [DecidableEq κ]
theorem valV_mem {kvs : List (κ × V)} {k : κ} {v : V} (n : (kvs.map (·.1)).Nodup) (h : (k, v) ∈ kvs) : valV kvs k = some v := by
  induction kvs with
  | nil => exact absurd h List.not_mem_nil
  | cons p r ih =>
    rw [List.map_cons, List.nodup_cons] at n
    rcases List.mem_cons.mp h with rfl | h
    · exact valV_pos rfl
    · rw [valV_neg (fun e => n.1 (by rw [e]; exact List.mem_map.mpr ⟨_, h, rfl⟩))]
      exact ih n.2 h
theorem valV_none {kvs : List (κ × V)} {k : κ} (h : k ∉ kvs.map (·.1)) : valV kvs k = none := by
  induction kvs with
  | nil => rfl
  | cons p r ih =>
    rw [List.map_cons, List.mem_cons, not_or] at h
    rw [valV_neg (fun e => h.1 e.symm)]
    exact ih h.2
theorem putK_new {kvs : List (κ × V)} {k : κ} {v : V} (h : k ∉ kvs.map (·.1)) : putK kvs k v = kvs ++ [(k, v)] := by
  unfold putK
  rw [valV_any, valV_none h]
  rfl
theorem putK_keys {kvs : List (κ × V)} {k : κ} {v : V} : (putK kvs k v).map (·.1) = if k ∈ kvs.map (·.1) then kvs.map (·.1) else kvs.map (·.1) ++ [k] := by
  by_cases h : k ∈ kvs.map (·.1)
  · rw [if_pos h]
    unfold putK
    have : (kvs.any fun kv => decide (kv.1 = k)) = true := by
      obtain ⟨p, hp, e⟩ := List.mem_map.mp h
      exact List.any_eq_true.mpr ⟨p, hp, by simpa using e⟩
    rw [if_pos this, List.map_map]
    refine List.map_congr_left fun p _ => ?_
    simp only [Function.comp]
    split <;> rfl
  · rw [if_neg h, putK_new h]
    simp
theorem nd_snoc {α : Type} {xs : List α} {x : α} (n : xs.Nodup) (h : x ∉ xs) : (xs ++ [x]).Nodup := by
  rw [List.nodup_append]
  refine ⟨n, by simp, fun a ha b hb => ?_⟩
  rw [List.mem_singleton] at hb
  subst hb
  exact fun e => h (by rw [← e]; exact ha)
theorem putK_nd {kvs : List (κ × V)} {k : κ} {v : V} (n : (kvs.map (·.1)).Nodup) : ((putK kvs k v).map (·.1)).Nodup := by
  rw [putK_keys]
  split
  · exact n
  · exact nd_snoc n ‹_›
theorem putK_mem {kvs : List (κ × V)} {k : κ} {v : V} {p : κ × V} (h : p ∈ putK kvs k v) : p ∈ kvs ∨ p = (k, v) := by
  unfold putK at h
  split at h
  · obtain ⟨q, hq, rfl⟩ := List.mem_map.mp h
    split
    · rename_i e
      exact .inr (by rw [e])
    · exact .inl hq
  · rcases List.mem_append.mp h with h | h
    · exact .inl h
    · exact .inr (List.mem_singleton.mp h)
theorem putK_len {kvs : List (κ × V)} {k : κ} {v : V} : kvs.length ≤ (putK kvs k v).length ∧ (putK kvs k v).length ≤ kvs.length + 1 ∧ 1 ≤ (putK kvs k v).length := by
  have e : (putK kvs k v).length = ((putK kvs k v).map (·.1)).length := by simp
  have h := putK_keys (kvs := kvs) (k := k) (v := v)
  rw [e, h]
  split
  · rename_i hk
    have : 0 < (kvs.map (·.1)).length := List.length_pos_of_mem hk
    rw [List.length_map] at this ⊢
    omega
  · simp
end
theorem mergeK_nd : ∀ (more kvs : List (L2.Key × V)), ((kvs ++ more).map (·.1)).Nodup → mergeK kvs more = kvs ++ more
  | [], kvs, _ => by simp [mergeK]
  | p :: r, kvs, n => by
    have h : p.1 ∉ kvs.map (·.1) := by
      rw [List.map_append, List.nodup_append] at n
      intro h
      exact n.2.2 _ h p.1 (by simp) rfl
    show mergeK (putK kvs p.1 p.2) r = _
    rw [putK_new h, mergeK_nd r (kvs ++ [(p.1, p.2)]) (by simpa using n)]
    simp
/-! lists of texts -/
section
variable {K : PySem.W.Frag} {H : Hp}
theorem dp_strs : ∀ o : List Str, DpAll K H (o.map V.str) (o.map PyData.str)
  | [] => .nil
  | x :: o => .cons (.str x) (dp_strs o)
theorem strs_shaped {o : List Str} (h : ∀ s ∈ o, PyData.strOk s = true) : SeqAt.shaped (.list (o.map PyData.str)) = true := by
  have h1 : ∀ o : List Str, (∀ s ∈ o, PyData.strOk s = true) → PyData.canLayAll0 (o.map PyData.str) = true := fun o => by
    induction o with
    | nil => intro _; rfl
    | cons x o ih =>
      intro h
      simp [PyData.canLayAll0, PyData.canLay0, ih fun s hs => h s (by simp [hs]), h x (by simp)]
  have h2 : ∀ o : List Str, PyData.depthAll (o.map PyData.str) = 0 := fun o => by
    induction o with
    | nil => rfl
    | cons x o ih => simp [PyData.depthAll, PyData.depth, ih]
  show (PyData.canLay0 (.list (o.map PyData.str)) && decide (PyData.depth (.list (o.map PyData.str)) ≤ 64)) = true
  simp only [PyData.canLay0, PyData.depth, h1 o h, h2]
  rfl
theorem shaped_lay {d : PyData} (h : SeqAt.shaped d = true) : d.canLay0 = true := by
  have h' : (d.canLay0 && decide (d.depth ≤ 64)) = true := h
  rw [Bool.and_eq_true] at h'
  exact h'.1
/-- list of texts == list of texts, the same -/
theorem rd_eqS {a b : Addr} {xs : List Str} {Q : VK} (ha : H a = some (.lst (xs.map V.str))) (hb : H b = some (.lst (xs.map V.str))) (hx : ∀ s ∈ xs, PyData.strOk s = true) (q : Q (.bl true) H) : rEqG K (.ref a) (.ref b) H Q := by
  refine Or.inr ⟨_, _, .lst (.inl (.inl ha)) (dp_strs xs), .lst (.inl (.inl hb)) (dp_strs xs), strs_shaped hx, strs_shaped hx, ?_⟩
  rw [SeqAt.eqv_refl _ (shaped_lay (strs_shaped hx))]
  exact q
theorem inV_strs (x : Str) : ∀ xs : List Str, inV (.str x) (xs.map V.str) = decide (x ∈ xs)
  | [] => rfl
  | y :: ys => by
    have ih := inV_strs x ys
    unfold inV at ih ⊢
    rw [List.map_cons, List.any_cons, ih]
    simp only [eqV, List.mem_cons, Bool.decide_or]
    congr 1
    rw [Bool.eq_iff_iff, beq_iff_eq, decide_eq_true_iff]
    exact eq_comm
theorem flat_strs (xs : List Str) : (xs.map V.str).all flatV = true := by
  rw [List.all_map, List.all_eq_true]
  intro _ _
  rfl
/-- x not in a list of texts -/
theorem rd_notS {a : Addr} {xs : List Str} {x : Str} {Q : VK} (ha : H a = some (.lst (xs.map V.str))) (q : Q (.bl (!decide (x ∈ xs))) H) : rIn K true (.str x) (.ref a) H Q := by
  refine ⟨a, _, rfl, .inl (.inl (.inl ha)), rfl, flat_strs xs, ?_⟩
  rw [inV_strs]
  exact q
end
/-! d != {}, d == {} -/
section
variable {X : Cx}
def rNeE : R2 := fun x y H Q => ∃ (a b : Addr) (kvs : List (L2.Key × V)), x = .ref a ∧ y = .ref b ∧ H a = some (.dK kvs) ∧ H b = some (.dK []) ∧ Q (.bl (!kvs.isEmpty)) H
def rEqE : R2 := fun x y H Q => ∃ (a b : Addr) (kvs : List (L2.Key × V)), x = .ref a ∧ y = .ref b ∧ H a = some (.dK kvs) ∧ H b = some (.dK []) ∧ Q (.bl kvs.isEmpty) H
theorem op_neE (hu : X.A.units < cLine) : OpR X (compareOp .NotEq) rNeE := by
  intro pins s σ H x y v u Q I rx ry h
  obtain ⟨a, b, kvs, rfl, rfl, ea, eb, q⟩ := h
  cases kvs with
  | nil => exact op_ne_dictA hu pins s σ H _ _ v u Q I rx ry ⟨a, b, [], [], rfl, rfl, ea, eb, rfl, fun p hp => absurd hp List.not_mem_nil, q⟩
  | cons kv kvs =>
    obtain rfl : v = Value.ref a := rx
    obtain rfl : u = Value.ref b := ry
    obtain ⟨_, ya, va, ra, da⟩ := (show ObjOk X.prog X.w H s.heap a (.dK (kv :: kvs)) from I.hok a _ ea)
    obtain ⟨_, yb, vb, rb, db⟩ := (show ObjOk X.prog X.w H s.heap b (.dK []) from I.hok b _ eb)
    have hl : va.length ≠ vb.length := by rw [← ra.length, ← rb.length]; simp
    exact PySem.W.keq_ne (knd := mixKind X.prog X.w) (r := true) ya yb da db hu (fun h => absurd h hl) (fin_bl I q (by simp [hl]))
theorem op_eqE (hu : X.A.units < cLine) : OpR X (compareOp .Eq) rEqE := by
  intro pins s σ H x y v u Q I rx ry h
  obtain ⟨a, b, kvs, rfl, rfl, ea, eb, q⟩ := h
  cases kvs with
  | nil => exact op_eq_dictA hu pins s σ H _ _ v u Q I rx ry ⟨a, b, [], [], rfl, rfl, ea, eb, rfl, fun p hp => absurd hp List.not_mem_nil, q⟩
  | cons kv kvs =>
    obtain rfl : v = Value.ref a := rx
    obtain rfl : u = Value.ref b := ry
    obtain ⟨_, ya, va, ra, da⟩ := (show ObjOk X.prog X.w H s.heap a (.dK (kv :: kvs)) from I.hok a _ ea)
    obtain ⟨_, yb, vb, rb, db⟩ := (show ObjOk X.prog X.w H s.heap b (.dK []) from I.hok b _ eb)
    have hl : va.length ≠ vb.length := by rw [← ra.length, ← rb.length]; simp
    exact PySem.W.keq_eq (knd := mixKind X.prog X.w) (r := true) ya yb da db hu (fun h => absurd h hl) (fin_bl I q (by simp [hl]))
end
/-! heaps -/
section
variable {b p : Addr} {H H' : Hp} {o : HO}
theorem Dr.getK (d : Dr b H H') (hB : Bag H b) (h : H p = some o) (ho : ∀ xs, o ≠ .lst xs) : H' p = some o := by
  refine d.get ?_ h
  rintro rfl
  obtain ⟨xs, e⟩ := hB.lst
  rw [e] at h
  exact ho xs (Option.some.inj h).symm
theorem Mv.unlock {d : Addr} {u : HO} {od : Obj} (h : H d = some u) (hu : ∀ xs, u ≠ .tup xs) (hv : ∀ o xs, u ≠ .frz o (.tup xs)) (m : Mv [] (upd H d (.frz od u)) H') : Mv [] H (upd H' d u) := by
  refine ⟨fun a xs r => ?_, fun a o _ e => ?_⟩
  · have hd : a ≠ d := by
      rintro rfl
      rcases r with r | ⟨o, r⟩
      · rw [h] at r
        exact hu xs (Option.some.inj r)
      · rw [h] at r
        exact hv o xs (Option.some.inj r)
    have r' : Rd (upd H d (.frz od u)) a (.tup xs) := r.imp (fun r => by rw [upd_ne hd]; exact r) fun ⟨o, r⟩ => ⟨o, by rw [upd_ne hd]; exact r⟩
    exact (m.tk a xs r').imp (fun r => by rw [upd_ne hd]; exact r) fun ⟨o, r⟩ => ⟨o, by rw [upd_ne hd]; exact r⟩
  · by_cases hd : a = d
    · subst hd
      rw [upd_same, ← e, h]
    · rw [upd_ne hd]
      exact m.keep a o (by simp) (by rw [upd_ne hd]; exact e)
theorem Mv.put {d : Addr} {u o : HO} (h : H d = some u) (hu : ∀ xs, u ≠ .tup xs) (hv : ∀ o xs, u ≠ .frz o (.tup xs)) : Mv [d] H (upd H d o) := by
  refine ⟨fun a xs r => ?_, fun a o n e => ?_⟩
  · have hd : a ≠ d := by
      rintro rfl
      rcases r with r | ⟨o, r⟩
      · rw [h] at r
        exact hu xs (Option.some.inj r)
      · rw [h] at r
        exact hv o xs (Option.some.inj r)
    exact r.imp (fun r => by rw [upd_ne hd]; exact r) fun ⟨o, r⟩ => ⟨o, by rw [upd_ne hd]; exact r⟩
  · rw [upd_ne (fun z => n (by rw [z]; exact List.mem_singleton.mpr rfl))]
    exact e
theorem Mv.putD {d : Addr} {kvs : List (L2.Key × V)} {o : HO} (h : H d = some (.dK kvs)) : Mv [d] H (upd H d o) := .put h (fun _ z => by cases z) (fun _ _ z => by cases z)
theorem Mv.lock {d : Addr} {u : HO} {od : Obj} (h : H d = some u) (hu : ∀ xs, u ≠ .tup xs) (hv : ∀ o xs, u ≠ .frz o (.tup xs)) : Mv [d] H (upd H d (.frz od u)) := .put h hu hv
theorem slO_nolst {a C dx : Addr} {vs : List (Option V)} (xs : List V) : SlO a C dx vs ≠ .lst xs := fun z => by
  unfold SlO at z
  cases z
theorem Slt.mv {a C dx : Addr} {vs : List (Option V)} (h : Slt H a C dx vs) (m : Mv [] H H') : Slt H' a C dx vs := h.imp (fun h => ⟨m.same _ _ h.1, h.2⟩) fun h => ⟨m.same _ _ h.1, m.same _ _ h.2⟩
theorem Slt.dr {a C dx : Addr} {vs : List (Option V)} (h : Slt H a C dx vs) (d : Dr b H H') (hB : Bag H b) : Slt H' a C dx vs :=
  h.imp (fun h => ⟨d.getK hB h.1 (fun _ z => by cases z), h.2⟩) fun h => ⟨d.getK hB h.1 slO_nolst, d.getK hB h.2 (fun _ z => by cases z)⟩
end
/-! acts -/
structure ActR where
  nm : Str
  ar : Int
  outs : List (Str × Int)
/-- an act in a dict: its tuple at a, its outcomes at o -/
structure ActA where
  r : ActR
  a : Addr
  o : Addr
def ActA.kv (z : ActA) : L2.Key × V := (.inr z.r.nm, .ref z.a)
structure ActsAt (K : PySem.W.Frag) (H : Hp) (d : Addr) (zs : List ActA) : Prop where
  at_ : H d = some (.dK (zs.map ActA.kv))
  nd : (zs.map (·.r.nm)).Nodup
  tup : ∀ z ∈ zs, SqT K H z.a [.int z.r.ar, .ref z.o]
  out : ∀ z ∈ zs, H z.o = some (.dK (z.r.outs.map rowK))
  ond : ∀ z ∈ zs, (z.r.outs.map (·.1)).Nodup
section
variable {K : PySem.W.Frag} {H H' : Hp} {b d : Addr} {zs : List ActA}
theorem ActsAt.mv (h : ActsAt K H d zs) (m : Mv [] H H') : ActsAt K H' d zs := ⟨m.same _ _ h.at_, h.nd, fun z hz => m.sqT (h.tup z hz), fun z hz => m.same _ _ (h.out z hz), h.ond⟩
theorem ActsAt.dr (h : ActsAt K H d zs) (m : Dr b H H') (hB : Bag H b) : ActsAt K H' d zs :=
  ⟨m.getK hB h.at_ (fun _ z => by cases z), h.nd, fun z hz => m.mv.sqT (h.tup z hz), fun z hz => m.getK hB (h.out z hz) (fun _ z => by cases z), h.ond⟩
theorem kv_keys (zs : List ActA) : (zs.map ActA.kv).map (·.1) = (zs.map (·.r.nm)).map Sum.inr := by
  rw [List.map_map, List.map_map]
  rfl
theorem nd_inr {xs : List Str} (n : xs.Nodup) : (xs.map (Sum.inr : Str → L2.Key)).Nodup := by
  refine List.Pairwise.map _ (fun a b h => ?_) n
  exact fun e => h (Sum.inr.inj e)
theorem ActsAt.nk (h : ActsAt K H d zs) : ((zs.map ActA.kv).map (·.1)).Nodup := by
  rw [kv_keys]
  exact nd_inr h.nd
theorem ActsAt.val (h : ActsAt K H d zs) {z : ActA} (hz : z ∈ zs) : valV (zs.map ActA.kv) (.inr z.r.nm) = some (.ref z.a) := valV_mem h.nk (List.mem_map.mpr ⟨z, hz, rfl⟩)
theorem row_keys (rs : List (Str × Int)) : (rs.map rowK).map (·.1) = (rs.map (·.1)).map Sum.inr := by
  rw [List.map_map, List.map_map]
  rfl
theorem row_val {rs : List (Str × Int)} (n : (rs.map (·.1)).Nodup) {x : Str} {i : Int} (h : (x, i) ∈ rs) : valV (rs.map rowK) (.inr x) = some (.int i) :=
  valV_mem (by rw [row_keys]; exact nd_inr n) (List.mem_map.mpr ⟨(x, i), h, rfl⟩)
/-- behind a lock on d itself, or on another dict -/
theorem Dr.lst_ne {l : Addr} {xs : List V} (hB : Bag H b) (h : H l = some (.lst xs)) (hx : ∀ i, xs.getLast? ≠ some (.ref i)) : l ≠ b := by
  rintro rfl
  obtain ⟨c, s, m, k, ns, h1, _⟩ := hB
  rw [h1] at h
  have := Option.some.inj h
  injection this with this
  exact hx c (by rw [← this]; rfl)
end
def ActR.norm (r : ActR) : ActR := { r with outs := srt leS (·.1) r.outs }
def normW (rs : List ActR) : List ActR := srt leS (·.nm) (rs.map ActR.norm)
theorem paired_rows {K : PySem.W.Frag} {H : Hp} : ∀ (ps : List (Addr × Str × Int)), (∀ z ∈ ps, H z.1 = some (.tup [.str z.2.1, .int z.2.2])) → Paired (fun p (kv : L2.Key × V) => SqT K H p [kV kv.1, kv.2]) (ps.map (·.1)) ((ps.map (·.2)).map rowK)
  | [], _ => .nil
  | z :: ps, h => .cons (.inl (.inl (h z (by simp)))) (paired_rows ps fun y hy => h y (by simp [hy]))
/-- dict of the pairs of a list, in order by their texts -/
theorem srt_outs {rows qs : List (Str × Int)} (n : (rows.map (·.1)).Nodup) (p : qs.Perm rows) (s : qs.Pairwise fun e f => e.1.cps.toList < f.1.cps.toList) : qs = srt leS (·.1) rows :=
  srt_one totS n p (s.imp fun {a b} h => leS_iff.mpr (List.le_of_lt h))
/-- a World at x -/
def WldAt (K : PySem.W.Frag) (H : Hp) (C x : Addr) (rs : List ActR) : Prop := ∃ dx d zs, Slt H x C dx [some (.ref d)] ∧ ActsAt K H d zs ∧ zs.map (·.r) = rs
section
variable {K : PySem.W.Frag} {H H' : Hp} {b C x : Addr} {rs : List ActR}
theorem WldAt.mv (h : WldAt K H C x rs) (m : Mv [] H H') : WldAt K H' C x rs := by
  obtain ⟨dx, d, zs, h1, h2, h3⟩ := h
  exact ⟨dx, d, zs, Slt.mv h1 m, h2.mv m, h3⟩
theorem WldAt.dr (h : WldAt K H C x rs) (m : Dr b H H') (hB : Bag H b) : WldAt K H' C x rs := by
  obtain ⟨dx, d, zs, h1, h2, h3⟩ := h
  exact ⟨dx, d, zs, Slt.dr h1 m hB, h2.dr m hB, h3⟩
end
end Fm
namespace Fm
open PySem PySem.Spec PyProof.Rows L2 SlX
local macro_rules | `(tactic| walk_at "nn") => `(tactic| dsimp only [tC, tNil, tCons, tCB, tCall, gName, tSeq, tAsg, tPar, tDrop, tRet])
local macro_rules | `(tactic| walk_at "nc") => `(tactic| dsimp only [tC, tNil, tCons, tCB, tCall])
/-- a name of an outcome -/
def On (x : Str) : Prop := isOutc (.str x) = true ∧ x.length ≤ 9
theorem on_nm {x : Str} (h : Nm x) : On x := by
  refine ⟨?_, by have := h.2.1; omega⟩
  have hd : dashed x = false := by
    unfold dashed
    refine decide_eq_false fun e => ?_
    have h1 : 45 ∈ x.cps.toList := List.mem_of_mem_drop (i := x.length - 1) (by rw [e]; simp)
    have := h.2.2 45 h1
    omega
  simp only [isOutc]
  rw [hd]
  exact nmd_nm h
structure ActR.ok (r : ActR) : Prop where
  nm : Nm r.nm
  ar0 : 0 ≤ r.ar
  ar2 : r.ar ≤ 2
  o1 : 1 ≤ r.outs.length
  o6 : r.outs.length ≤ 6
  on : ∀ e ∈ r.outs, On e.1 ∧ 0 ≤ e.2 ∧ e.2 ≤ 2
theorem ActR.ok_norm {r : ActR} (h : r.ok) : r.norm.ok := ⟨h.nm, h.ar0, h.ar2, by simp only [ActR.norm]; rw [srt_len]; exact h.o1, by simp only [ActR.norm]; rw [srt_len]; exact h.o6, fun e he => h.on e (srt_mem.mp he)⟩
def within (m : Int) : Th → Bool
  | .int i => decide (0 ≤ i) && decide (i ≤ m)
  | _ => false
def sp_within (K : PySem.W.Frag) : Sp := fun vs H Q _ => ∃ (v : V) (t : Th) (b : Addr) (m : Int), vs = [v, .int m] ∧ Is K b H v t ∧ ∀ H', Mv [] H H' → Q (.bl (within m t)) H'
def sp_outs : Sp := fun vs H Q _ => ∃ (o : Addr) (rows : List (Str × Int)), vs = [.ref o] ∧ H o = some (.dK (rows.map rowK)) ∧ (rows.map (·.1)).Nodup ∧ 1 ≤ rows.length ∧ rows.length ≤ 6 ∧ (∀ e ∈ rows, On e.1 ∧ 0 ≤ e.2 ∧ e.2 ≤ 2) ∧ ∀ H', Mv [] H H' → Q (.bl true) H'
def sp_act (K : PySem.W.Frag) : Sp := fun vs H Q _ => ∃ (r : ActR) (a o : Addr), vs = [.ref a] ∧ SqT K H a [.int r.ar, .ref o] ∧ H o = some (.dK (r.outs.map rowK)) ∧ (r.outs.map (·.1)).Nodup ∧ r.ok ∧ ∀ H', Mv [] H H' → Q (.bl true) H'
theorem tyx_sqT {K : PySem.W.Frag} {H : Hp} {a : Addr} {xs : List V} (h : SqT K H a xs) : TyX K H (.ref a) (.type "tuple") := by
  rcases h with (hs | ⟨o, hs⟩) | ⟨o, its, n, hk, hc, _⟩
  · exact .base (.tup hs)
  · exact .fTuple hs
  · exact .kTuple hk hc
theorem hu1_of {k : Nat} {A : Around} (h : Room k A) : A.units + 1 < cLine := by
  have := hu65_of h
  omega
section
variable {P : Program} {w : World} {K : PySem.W.Frag} {mg : Str → Option Value} {base : Heap}
theorem ok_is_within (T : TX K mg) {k : Nat} : FnOk P w K mg base CX0 (k + 2) T.d_is_within.f T.d_is_within.fd P_is_within (sp_within K) := by
  have G_is_integer : FnOk P w K mg base CX0 1 T.d_is_integer.f T.d_is_integer.fd P_is_integer (sp_kind K isWhole) := ok_is_integer T
  refine T.d_is_within.F.ok sc_is_within (fun vs H Q E h => ?_) (fun cdv A outer s H vs Q E hr h => ?_)
  · obtain ⟨_, _, _, _, rfl, _⟩ := h
    rfl
  · obtain ⟨v, t, b, m, rfl, hv, q⟩ := h
    refine ⟨_, (pss_one (ps_ret (pe_and (pe_call G_is_integer (hr.mono (by omega)) rfl T.d_is_integer.g T.d_is_integer.F.kp T.d_is_integer.b .nil pass0 (pa_cons (pv 0) pa_nil)) (pe_one (pe_chain op_le op_le pe_int (pv 0) (pv 1)))))), ?_⟩
    refine ⟨v, rfl, v, t, b, rfl, hv, fun H1 m1 => ⟨_, rfl, ?_⟩⟩
    cases t with
    | int i =>
      cases (show v = V.int i from hv)
      refine ⟨.int i, rfl, 0, i, rfl, rfl, _, rfl, ite2 (fun e => ?_) (fun e => ?_)⟩
      · refine ⟨.int m, rfl, i, m, rfl, rfl, ?_⟩
        have := q H1 m1
        simp only [within] at this
        rw [show decide (0 ≤ i) = true from e] at this
        exact this
      · have := q H1 m1
        simp only [within] at this
        rw [show decide (0 ≤ i) = false by simpa using e] at this
        exact this
    | bl c => exact q H1 m1
    | non => exact q H1 m1
    | str x => exact q H1 m1
    | tup ts => exact q H1 m1
    | lst => exact q H1 m1
    | dct => exact q H1 m1
theorem ok_are_outcomes (T : TX K mg) {k : Nat} : FnOk P w K mg base CX0 (k + 3) T.d_are_outcomes.f T.d_are_outcomes.fd P_are_outcomes sp_outs := by
  have G_is_outcome : FnOk P w K mg base CX0 2 T.d_is_outcome.f T.d_is_outcome.fd P_is_outcome (sp_kind K isOutc) := ok_is_outcome T
  have G_is_within : FnOk P w K mg base CX0 2 T.d_is_within.f T.d_is_within.fd P_is_within (sp_within K) := ok_is_within T
  refine T.d_are_outcomes.F.ok sc_are_outcomes (fun vs H Q E h => ?_) (fun cdv A outer s H vs Q E hr h => ?_)
  · obtain ⟨_, _, rfl, _⟩ := h
    rfl
  · obtain ⟨o, rows, rfl, ho, hnd, h1, h6, hon, q⟩ := h
    have hu65 := hu65_of hr
    have hu1 := hu1_of hr
    refine ⟨_, (pss_cons (ps_if (PW.pt (pw_or (pt_not (pt_val (pe_callB (r := rIsi K) call_isi (by rfl) T.b_isinstance bt_isinstance (pa_cons (pv 0) (pa_cons (pe_ty T.b_dict bt_dict) pa_nil))))) (pw_or1 (pt_not (pt_chain op_le op_le pe_int (pe_callB (r := rLenG K) call_lenG (by rfl) T.b_len bt_len (pa_cons (pv 0) pa_nil)) (pe_glob rfl T.c_MOST_OUTCOMES T.r_MOST_OUTCOMES)))))) (pss_one (ps_ret pe_bl)) pss_nil) (pss_one (ps_ret (pe_callB (r := rAll K) (cr_all rfl) (by rfl) T.b_all bt_all (pa_cons (pe_lock (pe_lc (own := [("outcome", 1)]) (g := gName 1) (by rfl) sc_are_outcomes.nd (pi_keys (pv 0)) (blkOk_by (own := [("outcome", 1)]) (N := N_are_outcomes) (sc := defScope s_are_outcomes) (by decide +kernel)) (fun _ _ _ _ _ => pg_name (i := 1) sc_are_outcomes.nd rfl (Or.inl rfl)) (fun _ _ _ _ _ => pts_nil) (fun _ _ _ _ _ => (pe_and (pe_call G_is_outcome (hr.mono (by omega)) rfl T.d_is_outcome.g T.d_is_outcome.F.kp T.d_is_outcome.b .nil pass0 (pa_cons (pv 1) pa_nil)) (pe_one (pe_call G_is_within (hr.mono (by omega)) rfl T.d_is_within.g T.d_is_within.F.kp T.d_is_within.b .nil pass0 (pa_cons (pe_dget hu1 (pv 0) (pv 1) (fun _ _ => rfl)) (pa_cons (pe_glob rfl T.c_MOST_BROUGHT T.r_MOST_BROUGHT) pa_nil)))))))) pa_nil))))), ?_⟩
    refine ⟨.ref o, rfl, ?_⟩
    walk_at "nn"
    refine ⟨_, _, _, _, true, rfl, .ty "dict", .base (.dK ho), kit_ty (by decide +kernel), ?_⟩
    refine ⟨_, rfl, ?_⟩
    refine ⟨.ref o, rfl, ?_⟩
    walk_at "nc"
    refine Or.inr (Or.inr ⟨o, _, rfl, ho, 1, _, rfl, rfl, _, rfl, ?_⟩)
    have hln : (rows.map rowK).length = rows.length := List.length_map _
    rw [hln, show decide ((1 : Int) ≤ ((rows.length : Nat) : Int)) = true from decide_eq_true (by omega)]
    refine ⟨_, 6, rfl, rfl, _, rfl, ?_⟩
    rw [show decide (((rows.length : Nat) : Int) ≤ 6) = true from decide_eq_true (by omega)]
    refine ⟨o, _, ho, trivial, fun od => ?_⟩
    have m0 := Mv.lock (od := od) ho (fun _ z => by cases z) (fun _ _ z => by cases z)
    have e0 : upd H o (.frz od (.dK (rows.map rowK))) o = some (.frz od (.dK (rows.map rowK))) := upd_same
    have un : ∀ H', Mv [] (upd H o (.frz od (.dK (rows.map rowK)))) H' → Mv [] H (upd H' o (.dK (rows.map rowK))) := fun H' m => Mv.unlock ho (fun _ z => by cases z) (fun _ _ z => by cases z) m
    generalize upd H o (.frz od (.dK (rows.map rowK))) = H1 at m0 e0 un ⊢
    refine ⟨.ref o, rfl, o, od, rfl, Or.inl ⟨_, e0, fun D nD => ?_⟩⟩
    refine lc_it walk_keys (fun i H2 => H2 D = some (.lst ((List.replicate i true).map V.bl)) ∧ Mv [] H1 H2) ⟨upd_same, .new nD⟩ (fun i H2 _ h2 => h2.2.same _ _ e0) (fun i x H2 H3 hi h2 y => ?_) (fun H2 h2 => ?_)
    · obtain ⟨e2, m2⟩ := h2
      obtain ⟨rfl, k, v, hk, rfl⟩ := y
      rw [List.getElem?_map] at hk
      obtain ⟨e, he, hk⟩ := Option.map_eq_some_iff.mp hk
      obtain ⟨rfl, rfl⟩ := Prod.mk.inj hk
      have hm := List.mem_of_getElem? he
      obtain ⟨o1, o2, o3⟩ := hon e hm
      refine ⟨rfl, ?_⟩
      refine ⟨.str e.1, rfl, .str e.1, .str e.1, o, rfl, ⟨rfl, by have := o1.2; omega⟩, fun H4 m4 => ?_⟩
      rw [o1.1]
      refine ⟨_, rfl, ?_⟩
      have m14 := m2.trans m4
      refine ⟨.ref o, rfl, .str e.1, rfl, o, .int e.2, rfl, Or.inl ⟨_, .inr e.1, .inr ⟨od, m14.same _ _ e0⟩, rfl, (row_val hnd hm).symm⟩, ?_⟩
      refine ⟨.int e.2, .int e.2, o, 2, rfl, rfl, fun H5 m5 => ?_⟩
      rw [show within 2 (.int e.2) = true by simp [within, o2, o3]]
      have m15 := m14.trans m5
      refine ⟨_, m5.same _ _ (m4.same _ _ e2), ?_, ?_, ?_⟩
      · rw [List.length_map, List.length_replicate]
        have : i < rows.length := by rw [hln] at hi; exact hi
        exact Nat.lt_of_le_of_lt (show i ≤ 10 by omega) (by decide)
      · rw [upd_same, List.replicate_succ', List.map_append]
        rfl
      · exact m15.wr nD
    · obtain ⟨e2, m2⟩ := h2
      refine ⟨m2.same _ _ e0, D, List.replicate (rows.map rowK).length true, rfl, .inl (.inl ?_), ?_⟩
      · rw [upd_ne (by rintro rfl; rw [e0] at nD; cases nD)]
        exact e2
      · rw [show (List.replicate (rows.map rowK).length true).all id = true by simp]
        exact q _ (un H2 m2)
theorem ok_is_act (T : TX K mg) {k : Nat} : FnOk P w K mg base CX0 (k + 4) T.d_is_act.f T.d_is_act.fd P_is_act (sp_act K) := by
  have G_are_outcomes : FnOk P w K mg base CX0 3 T.d_are_outcomes.f T.d_are_outcomes.fd P_are_outcomes sp_outs := ok_are_outcomes T
  have G_is_within : FnOk P w K mg base CX0 2 T.d_is_within.f T.d_is_within.fd P_is_within (sp_within K) := ok_is_within T
  refine T.d_is_act.F.ok sc_is_act (fun vs H Q E h => ?_) (fun cdv A outer s H vs Q E hr h => ?_)
  · obtain ⟨_, _, _, rfl, _⟩ := h
    rfl
  · obtain ⟨r, a, o, rfl, ha, ho, hnd, hok, q⟩ := h
    have hu64 := hr.units
    refine ⟨_, (pss_cons (ps_if (PW.pt (pw_or (pt_not (pt_val (pe_callB (r := rIsi K) call_isi (by rfl) T.b_isinstance bt_isinstance (pa_cons (pv 0) (pa_cons (pe_ty T.b_tuple bt_tuple) pa_nil))))) (pw_or1 (pt_cmpR (r := rNeG K) (op_neG hu64) (pe_callB (r := rLenG K) call_lenG (by rfl) T.b_len bt_len (pa_cons (pv 0) pa_nil)) pe_int (nomark _))))) (pss_one (ps_ret pe_bl)) pss_nil) (pss_one (ps_ret (pe_and (pe_call G_is_within (hr.mono (by omega)) rfl T.d_is_within.g T.d_is_within.F.kp T.d_is_within.b .nil pass0 (pa_cons (pe_ix (r := rIx K) ix_seq (pv 0) pe_int (fun _ _ => rfl)) (pa_cons (pe_glob rfl T.c_MOST_ARGUMENTS T.r_MOST_ARGUMENTS) pa_nil))) (pe_one (pe_call G_are_outcomes (hr.mono (by omega)) rfl T.d_are_outcomes.g T.d_are_outcomes.F.kp T.d_are_outcomes.b .nil pass0 (pa_cons (pe_ix (r := rIx K) ix_seq (pv 0) pe_int (fun _ _ => rfl)) pa_nil))))))), ?_⟩
    refine ⟨.ref a, rfl, ?_⟩
    walk_at "nn"
    refine ⟨_, _, _, _, true, rfl, .ty "tuple", tyx_sqT ha, kit_ty (by decide +kernel), ?_⟩
    refine ⟨_, rfl, ?_⟩
    refine ⟨.ref a, rfl, ?_⟩
    walk_at "nc"
    refine rd_len (.inr ha) (Or.inl ⟨rfl, _, rfl, ?_⟩)
    refine ⟨.ref a, rfl, rd_ixT ha (by decide) (v := .int r.ar) rfl ?_⟩
    refine ⟨.int r.ar, .int r.ar, o, 2, rfl, rfl, fun H1 m1 => ?_⟩
    rw [show within 2 (.int r.ar) = true by simp [within, hok.ar0, hok.ar2]]
    refine ⟨_, rfl, ?_⟩
    refine ⟨.ref a, rfl, rd_ixT (m1.sqT ha) (by decide) (v := .ref o) rfl ?_⟩
    exact ⟨o, r.outs, rfl, m1.same _ _ ho, hnd, hok.o1, hok.o6, hok.on, fun H2 m2 => q H2 (m1.trans m2)⟩
end
end Fm
namespace Fm
open PySem PySem.Spec PyProof.Rows L2 SlX
local macro_rules | `(tactic| walk_at "nn") => `(tactic| dsimp only [tC, tNil, tCons, tCB, tCall, gName, tSeq, tAsg, tPar, tDrop, tRet])
local macro_rules | `(tactic| walk_at "nc") => `(tactic| dsimp only [tC, tNil, tCons, tCB, tCall])
/-- World(d), d a dict of acts -/
def sp_World (K : PySem.W.Frag) (C : Addr) : Sp := fun vs H Q _ => ∃ (x dx d : Addr) (zs : List ActA) (H0 : Hp), vs = [.ref x, .ref d] ∧ H = upd (upd H0 dx (.own x)) x (.ins C dx []) ∧ H0 x = none ∧ H0 dx = none ∧ dx ≠ x ∧ ActsAt K H0 d zs ∧ (∀ z ∈ zs, z.r.ok) ∧ zs.length < 60 ∧
  ∀ H', Mv [] H0 H' → WldAt K H' C x (normW (zs.map (·.r))) → Q .non H'
section
variable {P : Program} {w : World} {K : PySem.W.Frag} {mg : Str → Option Value} {base : Heap}
theorem ok_World___init__ (T : TX K mg) {k : Nat} : FnOk P w K mg base CX0 (k + 5) T.d_World___init__.f T.d_World___init__.fd P_World___init__ (sp_World K T.C_World) := by
  have G_is_name : FnOk P w K mg base CX0 1 T.d_is_name.f T.d_is_name.fd P_is_name (sp_kind K isNamed) := ok_is_name T
  have G_is_act : FnOk P w K mg base CX0 4 T.d_is_act.f T.d_is_act.fd P_is_act (sp_act K) := ok_is_act T
  refine T.d_World___init__.F.ok sc_World___init__ (fun vs H Q E h => ?_) (fun cdv A outer s H vs Q E hr h => ?_)
  · obtain ⟨_, _, _, _, _, rfl, _⟩ := h
    rfl
  · obtain ⟨x, dx, d, zs, H0, rfl, eH, nx, ndx, hne, hA0, hok, hfew, q⟩ := h
    have hu1 := hu1_of hr
    refine ⟨_, (pss_cons (ps_if (PW.pt (pw_or (pt_not (pt_val (pe_callB (r := rIsi K) call_isi (by rfl) T.b_isinstance bt_isinstance (pa_cons (pv 1) (pa_cons (pe_ty T.b_dict bt_dict) pa_nil))))) (pw_or1 (pt_not (pt_val (pe_callB (r := rAll K) (cr_all rfl) (by rfl) T.b_all bt_all (pa_cons (pe_lock (pe_lc (own := [("name", 2)]) (g := gName 2) (by rfl) sc_World___init__.nd (pi_keys (pv 1)) (blkOk_by (own := [("name", 2)]) (N := N_World___init__) (sc := defScope s_World___init__) (by decide +kernel)) (fun _ _ _ _ _ => pg_name (i := 2) sc_World___init__.nd rfl (Or.inl rfl)) (fun _ _ _ _ _ => pts_nil) (fun _ _ _ _ _ => (pe_call G_is_name (hr.mono (by omega)) rfl T.d_is_name.g T.d_is_name.F.kp T.d_is_name.b .nil pass0 (pa_cons (pv 2) pa_nil))))) pa_nil))))))) (pss_one ps_never) pss_nil) (pss_cons (ps_for PassesOwn.never rfl (pi_seq (pe_callB (r := rSortA K) (cr_sortA rfl) (by rfl) T.b_sorted bt_sorted (pa_cons (pv 1) pa_nil))) (pg_name (i := 2) sc_World___init__.nd rfl (Or.inl rfl)) (pss_one (ps_if (pt_not (pt_val (pe_call G_is_act (hr.mono (by omega)) rfl T.d_is_act.g T.d_is_act.F.kp T.d_is_act.b .nil pass0 (pa_cons (pe_dget hu1 (pv 1) (pv 2) (fun _ _ => rfl)) pa_nil)))) (pss_one ps_never) pss_nil))) (pss_one (ps_sl (pv 0) (pe_dc rfl (own := [("name", 2)]) (g := gName 2) sc_World___init__.nd (pi_seq (pe_callB (r := rSortA K) (cr_sortA rfl) (by rfl) T.b_sorted bt_sorted (pa_cons (pv 1) pa_nil))) (blkOk_by (own := [("name", 2)]) (N := N_World___init__) (sc := defScope s_World___init__) (by decide +kernel)) (fun _ _ _ _ _ => pg_name (i := 2) sc_World___init__.nd rfl (Or.inl rfl)) (fun _ _ _ _ _ => pts_nil) (fun _ _ _ _ _ => (pv 2)) (fun _ _ _ _ _ => (pe_tup (pa_cons (pe_ix (r := rIx K) ix_seq (pe_dget hu1 (pv 1) (pv 2) (fun _ _ => rfl)) pe_int (fun _ _ => rfl)) (pa_cons (pe_callTy (r := rDictG K) (call_dictG rfl) (by rfl) T.b_dict bt_dict (pa_cons (pe_callB (r := rSortSI) (cr_sortSI rfl) (by rfl) T.b_sorted bt_sorted (pa_cons (pe_bm0C (K := K) rfl PySem.F.plainAttrs_dict PySem.F.slot_dict_items PySem.F.type_dict_items mt_itemsK (pe_ix (r := rIx K) ix_seq (pe_dget hu1 (pv 1) (pv 2) (fun _ _ => rfl)) pe_int (fun _ _ => rfl))) pa_nil)) pa_nil)) pa_nil))))))))), ?_⟩
    have mH : Mv [] H0 H := by
      rw [eH]
      exact (Mv.new ndx).wr nx
    have hx : H x = some (.ins T.C_World dx []) := by rw [eH]; exact upd_same
    have hdx : H dx = some (.own x) := by rw [eH, upd_ne hne]; exact upd_same
    have hA := hA0.mv mH
    have hd := hA.at_
    clear eH
    refine ⟨.ref d, rfl, ?_⟩
    walk_at "nn"
    refine ⟨_, _, _, _, true, rfl, .ty "dict", .base (.dK hd), kit_ty (by decide +kernel), ?_⟩
    refine ⟨_, rfl, ?_⟩
    refine ⟨d, _, hd, trivial, fun od => ?_⟩
    have e0 : upd H d (.frz od (.dK (zs.map ActA.kv))) d = some (.frz od (.dK (zs.map ActA.kv))) := upd_same
    have un : ∀ H', Mv [] (upd H d (.frz od (.dK (zs.map ActA.kv)))) H' → Mv [] H (upd H' d (.dK (zs.map ActA.kv))) := fun H' m => Mv.unlock hd (fun _ z => by cases z) (fun _ _ z => by cases z) m
    generalize upd H d (.frz od (.dK (zs.map ActA.kv))) = H1 at e0 un ⊢
    refine ⟨.ref d, rfl, d, od, rfl, Or.inl ⟨_, e0, fun D nD => ?_⟩⟩
    refine lc_it walk_keys (fun i H2 => H2 D = some (.lst ((List.replicate i true).map V.bl)) ∧ Mv [] H1 H2) ⟨upd_same, .new nD⟩ (fun i H2 _ h2 => h2.2.same _ _ e0) (fun i y H2 H3 hi h2 yy => ?_) (fun H2 h2 => ?_)
    · obtain ⟨e2, m2⟩ := h2
      obtain ⟨rfl, k, v, hk, rfl⟩ := yy
      rw [List.getElem?_map] at hk
      obtain ⟨z, he, hk⟩ := Option.map_eq_some_iff.mp hk
      obtain ⟨rfl, rfl⟩ := Prod.mk.inj hk
      have hm := List.mem_of_getElem? he
      have o1 := (hok z hm).nm
      refine ⟨rfl, ?_⟩
      refine ⟨.str z.r.nm, rfl, .str z.r.nm, .str z.r.nm, d, rfl, ⟨rfl, by have := o1.2.1; omega⟩, fun H4 m4 => ?_⟩
      rw [show isNamed (.str z.r.nm) = true from nmd_nm o1]
      refine ⟨_, m4.same _ _ e2, ?_, ?_, (m2.trans m4).wr nD⟩
      · rw [List.length_map, List.length_replicate]
        have : i < zs.length := by rw [List.length_map] at hi; exact hi
        exact Nat.lt_of_le_of_lt (show i ≤ 100 by omega) (by decide)
      · rw [upd_same, List.replicate_succ', List.map_append]
        rfl
    · obtain ⟨e2, m2⟩ := h2
      refine ⟨m2.same _ _ e0, D, List.replicate (zs.map ActA.kv).length true, rfl, .inl (.inl ?_), ?_⟩
      · rw [upd_ne (by rintro rfl; rw [e0] at nD; cases nD)]
        exact e2
      · rw [show (List.replicate (zs.map ActA.kv).length true).all id = true by simp]
        have m3 := un H2 m2
        generalize upd H2 d (.dK (zs.map ActA.kv)) = H3 at m3 ⊢
        have hd3 := m3.same _ _ hd
        have hA3 := hA.mv m3
        have hlz : (zs.map (·.r.nm)).length < 64 := by rw [List.length_map]; omega
        refine ⟨_, rfl, ?_⟩
        refine ⟨.ref d, rfl, Or.inl ⟨d, _, zs.map (·.r.nm), rfl, .inl hd3, kv_keys zs, hlz, fun ys p hp hs np => ⟨p, rfl, ?_⟩⟩⟩
        have hys := srt_keys totS hA.nd hp (sortedS_pw ys hs)
        generalize hss : srt leS (fun z : ActA => z.r.nm) zs = ss at hys
        subst hys
        refine for_seq (xs := (ss.map (·.r.nm)).map V.str) (.inl (.inl (.inl upd_same))) (fun i σ H4 => ∃ y, σ = [some (.ref x), some (.ref d), y] ∧ Mv [] (upd H3 p (.lst ((ss.map (·.r.nm)).map V.str))) H4)
          ⟨none, rfl, .refl⟩ (fun i σ H4 h4 => h4.choose_spec.2) (fun i y σ H4 hy h4 => ?_) (fun σ H4 h4 => ?_)
        · obtain ⟨y0, rfl, m4⟩ := h4
          rw [List.getElem?_map, List.getElem?_map, Option.map_map] at hy
          obtain ⟨z, hz, rfl⟩ := Option.map_eq_some_iff.mp hy
          have hzs : z ∈ zs := by rw [← srt_mem (le := leS) (k := fun z : ActA => z.r.nm), hss]; exact List.mem_of_getElem? hz
          have hA4 := hA3.mv ((Mv.new np).trans m4)
          refine ⟨.ref d, rfl, .str z.r.nm, rfl, d, .ref z.a, rfl, Or.inl ⟨_, .inr z.r.nm, .inl hA4.at_, rfl, (hA4.val hzs).symm⟩, ?_⟩
          refine ⟨z.r, z.a, z.o, rfl, hA4.tup z hzs, hA4.out z hzs, hA4.ond z hzs, hok z hzs, fun H5 m5 => ?_⟩
          exact ⟨_, rfl, _, rfl, m4.trans m5⟩
        · obtain ⟨y0, rfl, m4⟩ := h4
          have m34 := (Mv.new np).trans m4
          have hA4 := hA3.mv m34
          have nss : (ss.map (·.r.nm)).Nodup := by rw [← hss]; exact srt_nd hA.nd
          have hsub : ∀ z ∈ ss, z ∈ zs := fun z hz => by rw [← srt_mem (le := leS) (k := fun z : ActA => z.r.nm), hss]; exact hz
          have hls : ss.length < 60 := by rw [← hss, srt_len]; exact hfew
          refine ⟨.ref d, rfl, Or.inl ⟨d, _, zs.map (·.r.nm), rfl, .inl hA4.at_, kv_keys zs, hlz, fun ys2 p2 hp2 hs2 np2 => ⟨p2, rfl, Or.inl ⟨⟨_, .inl (.inl upd_same)⟩, fun D nD => ?_⟩⟩⟩⟩
          have hys2 := srt_keys totS hA.nd hp2 (sortedS_pw ys2 hs2)
          rw [hss] at hys2
          subst hys2
          have e6 : upd H4 p2 (.lst ((ss.map (·.r.nm)).map V.str)) p2 = some (.lst ((ss.map (·.r.nm)).map V.str)) := upd_same
          have m46 : Mv [] H4 (upd H4 p2 (.lst ((ss.map (·.r.nm)).map V.str))) := .new np2
          generalize upd H4 p2 (.lst ((ss.map (·.r.nm)).map V.str)) = H6 at e6 m46 nD ⊢
          have hA6 := hA4.mv m46
          refine dc_it walk_list (fun i H7 => ∃ ws : List ActA, H7 D = some (.dK (ws.map ActA.kv)) ∧ ws.map (·.r) = (ss.take i).map (·.r.norm) ∧ (∀ w ∈ ws, SqT K H7 w.a [.int w.r.ar, .ref w.o] ∧ H7 w.o = some (.dK (w.r.outs.map rowK)) ∧ w.o ≠ D) ∧ Mv [] H6 H7)
            ⟨[], upd_same, by simp, fun _ h => absurd h List.not_mem_nil, .new nD⟩ (fun i H7 _ h7 => .inl (.inl (h7.choose_spec.2.2.2.same _ _ e6))) (fun i y H7' H7 hi h7 yy => ?_) (fun H7 h7 => ?_)
          · obtain ⟨ws, e7, r7, c7, m7⟩ := h7
            obtain ⟨rfl, hy⟩ := yy
            rw [List.getElem?_map, List.getElem?_map, Option.map_map] at hy
            obtain ⟨z, hz, rfl⟩ := Option.map_eq_some_iff.mp hy
            have hzs := hsub z (List.mem_of_getElem? hz)
            have hA7 := hA6.mv m7
            refine ⟨rfl, .str z.r.nm, rfl, ?_⟩
            refine ⟨.ref d, rfl, .str z.r.nm, rfl, d, .ref z.a, rfl, Or.inl ⟨_, .inr z.r.nm, .inl hA7.at_, rfl, (hA7.val hzs).symm⟩, ?_⟩
            refine rd_ixT (hA7.tup z hzs) (by decide) (v := .int z.r.ar) rfl ?_
            refine ⟨.ref d, rfl, .str z.r.nm, rfl, d, .ref z.a, rfl, Or.inl ⟨_, .inr z.r.nm, .inl hA7.at_, rfl, (hA7.val hzs).symm⟩, ?_⟩
            refine rd_ixT (hA7.tup z hzs) (by decide) (v := .ref z.o) rfl ?_
            refine ⟨.inr (.inr (.inl ⟨rfl, .inl ⟨_, hA7.out z hzs⟩⟩)), z.o, _, rfl, rfl, hA7.out z hzs, fun p8 np8 => ?_⟩
            have hzo : z.o ≠ p8 := ne_of_none (hA7.out z hzs) np8
            refine ⟨p8, z.o, z.r.outs, rfl, upd_same, by rw [upd_ne hzo]; exact hA7.out z hzs, fun H9 l ps k9 nl hpm hpw hl hps => ?_⟩
            have hqs := srt_outs (hA7.ond z hzs) hpm hpw
            have m79 : Mv [] H7 H9 := (Mv.new np8).trans (.of_same k9)
            refine Or.inl ⟨l, ps.map (·.1), (ps.map (·.2)).map rowK, rfl, .inl (.inl (by rw [hl, List.map_map]; rfl)), paired_rows ps hps, fun p10 np10 => ?_⟩
            rw [mergeK_nd _ _ (by rw [List.nil_append, row_keys, hqs]; exact nd_inr (srt_nd (hA7.ond z hzs))), List.nil_append, hqs]
            have m710 := m79.trans (Mv.new (o := .dK ((srt leS (·.1) z.r.outs).map rowK)) np10)
            have e10 : upd H9 p10 (.dK ((srt leS (·.1) z.r.outs).map rowK)) p10 = some (.dK ((srt leS (·.1) z.r.outs).map rowK)) := upd_same
            have hpD : p10 ≠ D := (ne_of_none (m79.same _ _ e7) np10).symm
            generalize upd H9 p10 (.dK ((srt leS (·.1) z.r.outs).map rowK)) = H10 at m710 e10 ⊢
            refine ⟨(by decide : 2 ≤ sizeLine), fun p11 np11 => ⟨ws.map ActA.kv, .inr z.r.nm, rfl, ?_, ?_, ?_⟩⟩
            · exact same_new np11 _ _ (m710.same _ _ e7)
            · have : ws.length = (ss.take i).length := by
                have := congrArg List.length r7
                rwa [List.length_map, List.length_map] at this
              rw [List.length_map, this, List.length_take]
              exact Nat.lt_of_le_of_lt (show min i ss.length ≤ 100 by omega) (by decide)
            · have hnew : (.inr z.r.nm : L2.Key) ∉ (ws.map ActA.kv).map (·.1) := by
                rw [kv_keys, show ws.map (fun z : ActA => z.r.nm) = (ss.take i).map (fun z : ActA => z.r.nm) by
                  have := congrArg (List.map ActR.nm) r7
                  rw [List.map_map, List.map_map] at this
                  exact this]
                intro hmem
                obtain ⟨nm, hnm, he⟩ := List.mem_map.mp hmem
                cases he
                have hi' : i < ss.length := (List.getElem?_eq_some_iff.mp hz).1
                have n2 := nss
                rw [show ss = ss.take i ++ z :: ss.drop (i + 1) by rw [← (List.getElem?_eq_some_iff.mp hz).2, List.getElem_cons_drop, List.take_append_drop], List.map_append, List.nodup_append] at n2
                exact n2.2.2 _ hnm z.r.nm (by simp) rfl
              rw [putK_new hnew]
              have hD11 : upd H10 p11 (.tup [.int z.r.ar, .ref p10]) D = some (.dK (ws.map ActA.kv)) := same_new np11 _ _ (m710.same _ _ e7)
              have hm11 := Mv.putD (o := .dK (ws.map ActA.kv ++ [(.inr z.r.nm, .ref p11)])) hD11
              have m711 : Mv [] H7 (upd H10 p11 (.tup [.int z.r.ar, .ref p10])) := m710.trans (.new np11)
              refine ⟨ws ++ [⟨z.r.norm, p11, p10⟩], ?_, ?_, ?_, (m7.trans m711).wr nD⟩
              · rw [upd_same, List.map_append]
                rfl
              · rw [List.map_append, r7, List.take_add_one, hz]
                simp
              · intro w hw
                rcases List.mem_append.mp hw with hw | hw
                · obtain ⟨h1, h2, h3⟩ := c7 w hw
                  exact ⟨hm11.sqT (m711.sqT h1), hm11.keep _ _ (by simpa using h3) (m711.same _ _ h2), h3⟩
                · rw [List.mem_singleton] at hw
                  subst hw
                  refine ⟨hm11.sqT (.inl (.inl upd_same)), hm11.keep _ _ (by simpa using hpD) (same_new np11 _ _ e10), hpD⟩
          · obtain ⟨ws, e7, r7, c7, m7⟩ := h7
            have m37 := m34.trans (m46.trans m7)
            have mH7 := m3.trans m37
            refine ⟨.ref x, rfl, x, T.C_World, dx, T.p_World_its_acts, [], 0, rfl, Or.inl ⟨mH7.same _ _ hx, rfl⟩, T.c_World, T.sl_World_its_acts, ?_⟩
            have hxD : x ≠ D := by rintro rfl; rw [mH7.same _ _ hx] at e7; cases e7
            have hdxD : dx ≠ D := by rintro rfl; rw [mH7.same _ _ hdx] at e7; cases e7
            have hrl : ws.map (·.r) = normW (zs.map (·.r)) := by
              rw [r7, show ((ss.map (·.r.nm)).map V.str).length = ss.length by simp, List.take_length, ← hss]
              unfold normW
              rw [List.map_map, srt_map (k := fun z : ActA => z.r.nm) (l := fun x => x.nm) (f := ActR.norm ∘ fun x : ActA => x.r) totS (fun _ => rfl) hA.nd]
              rfl
            have keep : ∀ p o, H7 p = some o → p ≠ x → p ≠ dx → slH H7 x T.C_World dx (putS 0 (.ref D) []) p = some o := fun p o h h1 h2 => by rw [slH_ne h1 h2]; exact h
            refine q _ ?_ ?_
            · unfold slH
              exact ((mH.trans mH7).wr ndx).wr nx
            · refine ⟨dx, D, ws, slH_slt hne, ⟨keep _ _ e7 hxD.symm hdxD.symm, ?_, fun w hw => ?_, fun w hw => ?_, fun w hw => ?_⟩, hrl⟩
              · rw [show ws.map (fun z : ActA => z.r.nm) = ss.map (fun z : ActA => z.r.nm) by
                  rw [show ((ss.map (·.r.nm)).map V.str).length = ss.length by simp, List.take_length] at r7
                  have := congrArg (List.map ActR.nm) r7
                  rw [List.map_map, List.map_map] at this
                  exact this]
                exact nss
              · have h7x := mH7.same _ _ hx
                have h7d := mH7.same _ _ hdx
                have m1 : Mv [dx] H7 (upd H7 dx (.xd [])) := .put h7d (fun _ z => by cases z) (fun _ _ z => by cases z)
                have m2 : Mv [x] (upd H7 dx (.xd [])) (slH H7 x T.C_World dx (putS 0 (.ref D) [])) := .put (u := .ins T.C_World dx []) (by rw [upd_ne hne.symm]; exact h7x) (fun _ z => by cases z) (fun _ _ z => by cases z)
                exact m2.sqT (m1.sqT (c7 w hw).1)
              · have h2 := (c7 w hw).2.1
                exact keep _ _ h2 (by rintro e; rw [e, mH7.same _ _ hx] at h2; cases h2) (by rintro e; rw [e, mH7.same _ _ hdx] at h2; cases h2)
              · have : w.r ∈ ws.map (·.r) := List.mem_map.mpr ⟨w, hw, rfl⟩
                rw [r7] at this
                obtain ⟨z, hz, e⟩ := List.mem_map.mp this
                rw [← e]
                exact srt_nd (hA.ond z (hsub z (List.mem_of_mem_take hz)))
end
end Fm
namespace Fm
open PySem PySem.Spec PyProof.Rows L2 SlX
local macro_rules | `(tactic| walk_at "nn") => `(tactic| dsimp only [tC, tNil, tCons, tCB, tCall, gName, tSeq, tAsg, tPar, tDrop, tRet])
local macro_rules | `(tactic| walk_at "nc") => `(tactic| dsimp only [tC, tNil, tCons, tCB, tCall])
def sp_Wacts (K : PySem.W.Frag) (C : Addr) : Sp := fun vs H Q _ => ∃ (x : Addr) (rs : List ActR), vs = [.ref x] ∧ WldAt K H C x rs ∧ ∀ p, H p = none → Q (.ref p) (upd H p (.lst ((rs.map (·.nm)).map V.str)))
def sp_Wargs (K : PySem.W.Frag) (C : Addr) : Sp := fun vs H Q _ => ∃ (x : Addr) (rs : List ActR) (r : ActR), vs = [.ref x, .str r.nm] ∧ WldAt K H C x rs ∧ r ∈ rs ∧ Q (.int r.ar) H
def sp_Wouts (K : PySem.W.Frag) (C : Addr) : Sp := fun vs H Q _ => ∃ (x : Addr) (rs : List ActR) (r : ActR), vs = [.ref x, .str r.nm] ∧ WldAt K H C x rs ∧ r ∈ rs ∧ ∀ p, H p = none → Q (.ref p) (upd H p (.lst ((r.outs.map (·.1)).map V.str)))
def sp_Wbrings (K : PySem.W.Frag) (C : Addr) : Sp := fun vs H Q _ => ∃ (x : Addr) (rs : List ActR) (r : ActR) (y : Str) (i : Int), vs = [.ref x, .str r.nm, .str y] ∧ WldAt K H C x rs ∧ r ∈ rs ∧ (y, i) ∈ r.outs ∧ Q (.int i) H
section
variable {P : Program} {w : World} {K : PySem.W.Frag} {mg : Str → Option Value} {base : Heap}
theorem ok_World_acts (T : TX K mg) {k : Nat} : FnOk P w K mg base CX0 (k + 1) T.d_World_acts.f T.d_World_acts.fd P_World_acts (sp_Wacts K T.C_World) := by
  refine T.d_World_acts.F.ok sc_World_acts (fun vs H Q E h => ?_) (fun cdv A outer s H vs Q E hr h => ?_)
  · obtain ⟨_, _, rfl, _⟩ := h
    rfl
  · obtain ⟨x, rs, rfl, ⟨dx, d, zs, hs, hA, rfl⟩, q⟩ := h
    refine ⟨_, (pss_one (ps_ret (pe_callTy (r := rListG K) (call_listA rfl) (by rfl) T.b_list bt_list (pa_cons (pe_slC (K := K) rfl (pv 0)) pa_nil)))), ?_⟩
    refine ⟨.ref x, rfl, x, T.C_World, dx, T.p_World_its_acts, _, 0, .ref d, rfl, hs, T.c_World, T.sl_World_its_acts, rfl, ?_⟩
    refine Or.inr ⟨d, _, rfl, hA.at_, fun p np => ?_⟩
    have := q p np
    rw [List.map_map, List.map_map] at this
    rw [List.map_map]
    exact this
theorem ok_World_arguments (T : TX K mg) {k : Nat} : FnOk P w K mg base CX0 (k + 1) T.d_World_arguments.f T.d_World_arguments.fd P_World_arguments (sp_Wargs K T.C_World) := by
  refine T.d_World_arguments.F.ok sc_World_arguments (fun vs H Q E h => ?_) (fun cdv A outer s H vs Q E hr h => ?_)
  · obtain ⟨_, _, _, rfl, _⟩ := h
    rfl
  · obtain ⟨x, rs, r, rfl, ⟨dx, d, zs, hs, hA, rfl⟩, hr', q⟩ := h
    obtain ⟨z, hz, rfl⟩ := List.mem_map.mp hr'
    have hu1 := hu1_of hr
    refine ⟨_, (pss_one (ps_ret (pe_ix (r := rIx K) ix_seq (pe_dget hu1 (pe_slC (K := K) rfl (pv 0)) (pv 1) (fun _ _ => rfl)) pe_int (fun _ _ => rfl)))), ?_⟩
    refine ⟨.ref x, rfl, x, T.C_World, dx, T.p_World_its_acts, _, 0, .ref d, rfl, hs, T.c_World, T.sl_World_its_acts, rfl, ?_⟩
    refine ⟨.str z.r.nm, rfl, d, .ref z.a, rfl, Or.inl ⟨_, .inr z.r.nm, .inl hA.at_, rfl, (hA.val hz).symm⟩, ?_⟩
    exact rd_ixT (hA.tup z hz) (by decide) (v := .int z.r.ar) rfl q
theorem ok_World_outcomes (T : TX K mg) {k : Nat} : FnOk P w K mg base CX0 (k + 1) T.d_World_outcomes.f T.d_World_outcomes.fd P_World_outcomes (sp_Wouts K T.C_World) := by
  refine T.d_World_outcomes.F.ok sc_World_outcomes (fun vs H Q E h => ?_) (fun cdv A outer s H vs Q E hr h => ?_)
  · obtain ⟨_, _, _, rfl, _⟩ := h
    rfl
  · obtain ⟨x, rs, r, rfl, ⟨dx, d, zs, hs, hA, rfl⟩, hr', q⟩ := h
    obtain ⟨z, hz, rfl⟩ := List.mem_map.mp hr'
    have hu1 := hu1_of hr
    refine ⟨_, (pss_one (ps_ret (pe_callTy (r := rListG K) (call_listA rfl) (by rfl) T.b_list bt_list (pa_cons (pe_ix (r := rIx K) ix_seq (pe_dget hu1 (pe_slC (K := K) rfl (pv 0)) (pv 1) (fun _ _ => rfl)) pe_int (fun _ _ => rfl)) pa_nil)))), ?_⟩
    refine ⟨.ref x, rfl, x, T.C_World, dx, T.p_World_its_acts, _, 0, .ref d, rfl, hs, T.c_World, T.sl_World_its_acts, rfl, ?_⟩
    refine ⟨.str z.r.nm, rfl, d, .ref z.a, rfl, Or.inl ⟨_, .inr z.r.nm, .inl hA.at_, rfl, (hA.val hz).symm⟩, ?_⟩
    refine rd_ixT (hA.tup z hz) (by decide) (v := .ref z.o) rfl ?_
    refine Or.inr ⟨z.o, _, rfl, hA.out z hz, fun p np => ?_⟩
    have := q p np
    rw [List.map_map] at this ⊢
    exact this
theorem ok_World_brings (T : TX K mg) {k : Nat} : FnOk P w K mg base CX0 (k + 1) T.d_World_brings.f T.d_World_brings.fd P_World_brings (sp_Wbrings K T.C_World) := by
  refine T.d_World_brings.F.ok sc_World_brings (fun vs H Q E h => ?_) (fun cdv A outer s H vs Q E hr h => ?_)
  · obtain ⟨_, _, _, _, _, rfl, _⟩ := h
    rfl
  · obtain ⟨x, rs, r, y, i, rfl, ⟨dx, d, zs, hs, hA, rfl⟩, hr', hy, q⟩ := h
    obtain ⟨z, hz, rfl⟩ := List.mem_map.mp hr'
    have hu1 := hu1_of hr
    refine ⟨_, (pss_one (ps_ret (pe_dget hu1 (pe_ix (r := rIx K) ix_seq (pe_dget hu1 (pe_slC (K := K) rfl (pv 0)) (pv 1) (fun _ _ => rfl)) pe_int (fun _ _ => rfl)) (pv 2) (fun _ _ => rfl)))), ?_⟩
    refine ⟨.ref x, rfl, x, T.C_World, dx, T.p_World_its_acts, _, 0, .ref d, rfl, hs, T.c_World, T.sl_World_its_acts, rfl, ?_⟩
    refine ⟨.str z.r.nm, rfl, d, .ref z.a, rfl, Or.inl ⟨_, .inr z.r.nm, .inl hA.at_, rfl, (hA.val hz).symm⟩, ?_⟩
    refine rd_ixT (hA.tup z hz) (by decide) (v := .ref z.o) rfl ?_
    exact ⟨.str y, rfl, z.o, .int i, rfl, Or.inl ⟨_, .inr y, .inl (hA.out z hz), rfl, (row_val (hA.ond z hz) hy).symm⟩, q⟩
end
end Fm
namespace Fm
open PySem PySem.Spec PyProof.Rows L2 SlX
local macro_rules | `(tactic| walk_at "nn") => `(tactic| dsimp only [tC, tNil, tCons, tCB, tCall, gName, tSeq, tAsg, tPar, tDrop, tRet])
local macro_rules | `(tactic| walk_at "nc") => `(tactic| dsimp only [tC, tNil, tCons, tCB, tCall])
/-! statements -/
inductive Sta where
  | set (chs : List (Int × Tm)) (goal : Int)
  | ask (act : Str) (ts : List Tm) (ways : List (Str × List Int × Int))
  | fin (word : Str) (ts : List Tm)
def chD (c : Int × Tm) : PyData := .tuple [.int c.1, c.2.d]
def wayD (w : Str × List Int × Int) : PyData := .tuple [.str w.1, .tuple (w.2.1.map .int), .int w.2.2]
def Sta.d : Sta → PyData
  | .set chs goal => .tuple [.str "set", .tuple (chs.map chD), .int goal]
  | .ask act ts ways => .tuple [.str "ask", .str act, .tuple (Tm.ds ts), .tuple (ways.map wayD)]
  | .fin word ts => .tuple [.str "end", .str word, .tuple (Tm.ds ts)]
def TmOver (many : Int) (t : Tm) : Prop := t.ok (fun i => 0 ≤ i ∧ i < many) ∧ t.th.cnt ≤ 5000 ∧ t.dep ≤ 50
def ChOk (many : Int) (chs : List (Int × Tm)) : Prop := (chs.map (·.1)).Nodup ∧ chs.length ≤ 24 ∧ ∀ c ∈ chs, 0 ≤ c.1 ∧ c.1 < many ∧ TmOver many c.2
def WayOk (r : ActR) (many places : Int) (w : Str × List Int × Int) : Prop := ∃ i, (w.1, i) ∈ r.outs ∧ (w.2.1.length : Int) = i ∧ w.2.1.Nodup ∧ (∀ j ∈ w.2.1, 0 ≤ j ∧ j < many) ∧ 0 ≤ w.2.2 ∧ w.2.2 < places
structure AskOk (r : ActR) (many places : Int) (ts : List Tm) (ways : List (Str × List Int × Int)) : Prop where
  len : (ts.length : Int) = r.ar
  ts : ∀ t ∈ ts, TmOver many t
  pm : (ways.map (·.1)).Perm (r.outs.map (·.1))
  ways : ∀ w ∈ ways, WayOk r many places w
def Sta.ok (rs : List ActR) (many places : Int) : Sta → Prop
  | .set chs goal => ChOk many chs ∧ 0 ≤ goal ∧ goal < places
  | .ask act ts ways => ∃ r ∈ rs, r.nm = act ∧ AskOk r many places ts ways
  | .fin word ts => Nm word ∧ ts.length ≤ 2 ∧ ∀ t ∈ ts, TmOver many t
/-- worlds as they are kept: in order -/
structure WOk (rs : List ActR) : Prop where
  ok : ∀ r ∈ rs, r.ok
  nd : (rs.map (·.nm)).Nodup
  few : rs.length < 60
  ond : ∀ r ∈ rs, (r.outs.map (·.1)).Nodup
  pw : ∀ r ∈ rs, (r.outs.map (·.1)).Pairwise fun a b => leS a b = true
def inPl (places : Int) : Th → Bool
  | .int i => decide (0 ≤ i) && decide (i < places)
  | _ => false
def sp_diff (K : PySem.W.Frag) : Sp := fun vs H Q _ => ∃ (many : Int) (a : Addr) (ns : List Int), vs = [.int many, .ref a] ∧ SqT K H a (ns.map V.int) ∧ ns.Nodup ∧ ns.length ≤ 1000 ∧ (∀ i ∈ ns, 0 ≤ i ∧ i < many) ∧ ∀ H', Mv [] H H' → Q (.bl true) H'
def sp_termsOver (K : PySem.W.Frag) : Sp := fun vs H Q _ => ∃ (many : Int) (v : V) (ts : List Tm), vs = [.int many, v] ∧ Im K H v (.tuple (Tm.ds ts)) ∧ ts.length ≤ 1000 ∧ (∀ t ∈ ts, TmOver many t) ∧ ∀ H', Mv [] H H' → Q (.bl true) H'
def sp_place (K : PySem.W.Frag) : Sp := fun vs H Q _ => ∃ (places : Int) (v : V) (t : Th) (b : Addr), vs = [.int places, v] ∧ Is K b H v t ∧ ∀ H', Mv [] H H' → Q (.bl (inPl places t)) H'
def sp_pair (K : PySem.W.Frag) : Sp := fun vs H Q _ => ∃ (v : V) (d e : PyData), vs = [v] ∧ Im K H v (.tuple [d, e]) ∧ Q (.bl true) H
section
variable {P : Program} {w : World} {K : PySem.W.Frag} {mg : Str → Option Value} {base : Heap}
theorem ok_is_place (T : TX K mg) {k : Nat} : FnOk P w K mg base CX0 (k + 2) T.d_is_place.f T.d_is_place.fd P_is_place (sp_place K) := by
  have G_is_integer : FnOk P w K mg base CX0 1 T.d_is_integer.f T.d_is_integer.fd P_is_integer (sp_kind K isWhole) := ok_is_integer T
  refine T.d_is_place.F.ok sc_is_place (fun vs H Q E h => ?_) (fun cdv A outer s H vs Q E hr h => ?_)
  · obtain ⟨_, _, _, _, rfl, _⟩ := h
    rfl
  · obtain ⟨m, v, t, b, rfl, hv, q⟩ := h
    refine ⟨_, (pss_one (ps_ret (pe_and (pe_call G_is_integer (hr.mono (by omega)) rfl T.d_is_integer.g T.d_is_integer.F.kp T.d_is_integer.b .nil pass0 (pa_cons (pv 1) pa_nil)) (pe_one (pe_chain op_le op_lt pe_int (pv 1) (pv 0)))))), ?_⟩
    refine ⟨v, rfl, v, t, b, rfl, hv, fun H1 m1 => ⟨_, rfl, ?_⟩⟩
    cases t with
    | int i =>
      cases (show v = V.int i from hv)
      refine ⟨.int i, rfl, 0, i, rfl, rfl, _, rfl, ite2 (fun e => ?_) (fun e => ?_)⟩
      · refine ⟨.int m, rfl, i, m, rfl, rfl, ?_⟩
        have := q H1 m1
        simp only [inPl] at this
        rw [show decide (0 ≤ i) = true from e] at this
        exact this
      · have := q H1 m1
        simp only [inPl] at this
        rw [show decide (0 ≤ i) = false by simpa using e] at this
        exact this
    | bl c => exact q H1 m1
    | non => exact q H1 m1
    | str x => exact q H1 m1
    | tup ts => exact q H1 m1
    | lst => exact q H1 m1
    | dct => exact q H1 m1
theorem ok_is_pair (T : TX K mg) {k : Nat} : FnOk P w K mg base CX0 (k + 1) T.d_is_pair.f T.d_is_pair.fd P_is_pair (sp_pair K) := by
  refine T.d_is_pair.F.ok sc_is_pair (fun vs H Q E h => ?_) (fun cdv A outer s H vs Q E hr h => ?_)
  · obtain ⟨_, _, _, rfl, _⟩ := h
    rfl
  · obtain ⟨v, d, e, rfl, hv, q⟩ := h
    have hu64 := hr.units
    obtain ⟨a, xs, rfl, ha, hx⟩ := hv.tupI
    have hl := hx.length
    refine ⟨_, (pss_one (ps_ret (pe_and (pe_callB (r := rIsi K) call_isi (by rfl) T.b_isinstance bt_isinstance (pa_cons (pv 0) (pa_cons (pe_ty T.b_tuple bt_tuple) pa_nil))) (pe_one (pe_cmpR (r := rEqG K) (op_eqG hu64) (pe_callB (r := rLenG K) call_lenG (by rfl) T.b_len bt_len (pa_cons (pv 0) pa_nil)) pe_int (nomark _)))))), ?_⟩
    refine ⟨.ref a, rfl, ?_⟩
    walk_at "nn"
    refine ⟨_, _, _, _, true, rfl, .ty "tuple", tyx_sqT ha, kit_ty (by decide +kernel), ?_⟩
    refine ⟨_, rfl, ?_⟩
    refine ⟨.ref a, rfl, ?_⟩
    walk_at "nc"
    refine rd_len (.inr ha) (Or.inl ⟨rfl, ?_⟩)
    rw [hl]
    exact q
theorem ok_are_different (T : TX K mg) {k : Nat} : FnOk P w K mg base CX0 (k + 2) T.d_are_different.f T.d_are_different.fd P_are_different (sp_diff K) := by
  have G_is_integer : FnOk P w K mg base CX0 1 T.d_is_integer.f T.d_is_integer.fd P_is_integer (sp_kind K isWhole) := ok_is_integer T
  refine T.d_are_different.F.ok sc_are_different (fun vs H Q E h => ?_) (fun cdv A outer s H vs Q E hr h => ?_)
  · obtain ⟨_, _, _, rfl, _⟩ := h
    rfl
  · obtain ⟨many, a, ns, rfl, ha, hnd, hln, hin, q⟩ := h
    have hu64 := hr.units
    refine ⟨_, (pss_cons (ps_if (PW.pt (pw_or (pt_not (pt_val (pe_callB (r := rIsi K) call_isi (by rfl) T.b_isinstance bt_isinstance (pa_cons (pv 1) (pa_cons (pe_ty T.b_tuple bt_tuple) pa_nil))))) (pw_or1 (pt_not (pt_val (pe_callB (r := rAll K) (cr_all rfl) (by rfl) T.b_all bt_all (pa_cons (pe_lc (own := [("one", 2)]) (g := gName 2) (by rfl) sc_are_different.nd (pi_seq (pv 1)) (blkOk_by (own := [("one", 2)]) (N := N_are_different) (sc := defScope s_are_different) (by decide +kernel)) (fun _ _ _ _ _ => pg_name (i := 2) sc_are_different.nd rfl (Or.inl rfl)) (fun _ _ _ _ _ => pts_nil) (fun _ _ _ _ _ => (pe_and (pe_call G_is_integer (hr.mono (by omega)) rfl T.d_is_integer.g T.d_is_integer.F.kp T.d_is_integer.b .nil pass0 (pa_cons (pv 2) pa_nil)) (pe_one (pe_chain op_le op_lt pe_int (pv 2) (pv 0)))))) pa_nil))))))) (pss_one (ps_ret pe_bl)) pss_nil) (pss_one (ps_ret (pe_cmpR (r := rEqG K) (op_eqG hu64) (pe_lenSetG rfl (by rfl) T.b_len (by rfl) T.b_set (pv 1)) (pe_callB (r := rLenG K) call_lenG (by rfl) T.b_len bt_len (pa_cons (pv 1) pa_nil)) (nomark _))))), ?_⟩
    refine ⟨.ref a, rfl, ?_⟩
    walk_at "nn"
    refine ⟨_, _, _, _, true, rfl, .ty "tuple", tyx_sqT ha, kit_ty (by decide +kernel), ?_⟩
    refine ⟨_, rfl, ?_⟩
    refine ⟨.ref a, rfl, a, rfl, ?_⟩
    refine lc_seq (xs := ns.map V.int) (.inr ha) (fun i D H1 => H1 D = some (.lst ((List.replicate i true).map V.bl)) ∧ Mv [] H H1)
      (fun D nD => ⟨upd_same, .new nD⟩) (fun i D H1 nD h1 => h1.2) (fun D nD i x H1 hx h1 => ?_) (fun D H1 nD h1 => ?_)
    · obtain ⟨e1, m1⟩ := h1
      rw [List.getElem?_map] at hx
      obtain ⟨j, hj, rfl⟩ := Option.map_eq_some_iff.mp hx
      have hij := (List.getElem?_eq_some_iff.mp hj).1
      obtain ⟨j0, j1⟩ := hin j (List.mem_of_getElem? hj)
      refine ⟨rfl, .int j, rfl, .int j, .int j, a, rfl, rfl, fun H2 m2 => ⟨_, rfl, ?_⟩⟩
      refine ⟨.int j, rfl, 0, j, rfl, rfl, _, rfl, ?_⟩
      rw [show decide (0 ≤ j) = true from decide_eq_true j0]
      refine ⟨.int many, rfl, j, many, rfl, rfl, ?_⟩
      dsimp only
      rw [show decide (j < many) = true from decide_eq_true j1]
      refine ⟨_, m2.same _ _ e1, ?_, ?_, (m1.trans m2).wr nD⟩
      · rw [List.length_map, List.length_replicate]
        exact Nat.lt_of_le_of_lt (show i ≤ 1000 by omega) (by decide)
      · rw [upd_same, List.replicate_succ', List.map_append]
        rfl
    · obtain ⟨e1, m1⟩ := h1
      refine ⟨D, List.replicate (ns.map V.int).length true, rfl, .inl (.inl e1), ?_⟩
      rw [show (List.replicate (ns.map V.int).length true).all id = true by simp]
      refine ⟨_, rfl, ?_⟩
      refine ⟨.ref a, rfl, a, ns, rfl, .inr (m1.sqT ha), by omega, fun ks hk hmem => ?_⟩
      refine ⟨.ref a, rfl, ?_⟩
      walk_at "nc"
      refine rd_len (.inr (m1.sqT ha)) (Or.inl ⟨rfl, ?_⟩)
      have hp : ks.Perm ns := (List.perm_ext_iff_of_nodup hk hnd).mpr hmem
      rw [hp.length_eq, List.length_map]
      simp only [decide_true]
      exact q H1 m1
theorem ok_are_terms_over (T : TX K mg) {k : Nat} : FnOk P w K mg base CX0 (k + 4) T.d_are_terms_over.f T.d_are_terms_over.fd P_are_terms_over (sp_termsOver K) := by
  have G_is_term_over : FnOk P w K mg base CX0 3 T.d_is_term_over.f T.d_is_term_over.fd P_is_term_over (sp_termOver K) := ok_is_term_over T
  refine T.d_are_terms_over.F.ok sc_are_terms_over (fun vs H Q E h => ?_) (fun cdv A outer s H vs Q E hr h => ?_)
  · obtain ⟨_, _, _, rfl, _⟩ := h
    rfl
  · obtain ⟨many, v, ts, rfl, hv, hln, hts, q⟩ := h
    obtain ⟨a, xs, rfl, ha, hxs⟩ := hv.tupI
    have hl := hxs.length
    rw [Tm.ds_map, List.length_map] at hl
    refine ⟨_, (pss_one (ps_ret (pe_and (pe_callB (r := rIsi K) call_isi (by rfl) T.b_isinstance bt_isinstance (pa_cons (pv 1) (pa_cons (pe_ty T.b_tuple bt_tuple) pa_nil))) (pe_one (pe_callB (r := rAll K) (cr_all rfl) (by rfl) T.b_all bt_all (pa_cons (pe_lc (own := [("term", 2)]) (g := gName 2) (by rfl) sc_are_terms_over.nd (pi_seq (pv 1)) (blkOk_by (own := [("term", 2)]) (N := N_are_terms_over) (sc := defScope s_are_terms_over) (by decide +kernel)) (fun _ _ _ _ _ => pg_name (i := 2) sc_are_terms_over.nd rfl (Or.inl rfl)) (fun _ _ _ _ _ => pts_nil) (fun _ _ _ _ _ => (pe_call G_is_term_over (hr.mono (by omega)) rfl T.d_is_term_over.g T.d_is_term_over.F.kp T.d_is_term_over.b .nil pass0 (pa_cons (pv 0) (pa_cons (pv 2) pa_nil))))) pa_nil)))))), ?_⟩
    refine ⟨.ref a, rfl, ?_⟩
    walk_at "nn"
    refine ⟨_, _, _, _, true, rfl, .ty "tuple", tyx_sqT ha, kit_ty (by decide +kernel), ?_⟩
    refine ⟨_, rfl, ?_⟩
    refine ⟨.ref a, rfl, a, rfl, ?_⟩
    refine lc_seq (xs := xs) (.inr ha) (fun i D H1 => H1 D = some (.lst ((List.replicate i true).map V.bl)) ∧ Mv [] H H1)
      (fun D nD => ⟨upd_same, .new nD⟩) (fun i D H1 nD h1 => h1.2) (fun D nD i x H1 hx h1 => ?_) (fun D H1 nD h1 => ?_)
    · obtain ⟨e1, m1⟩ := h1
      obtain ⟨d, hd, him⟩ := hxs.get hx
      rw [Tm.ds_map, List.getElem?_map] at hd
      obtain ⟨t, ht, rfl⟩ := Option.map_eq_some_iff.mp hd
      have hij := (List.getElem?_eq_some_iff.mp ht).1
      obtain ⟨t1, t2, t3⟩ := hts t (List.mem_of_getElem? ht)
      refine ⟨rfl, .int many, rfl, x, rfl, many, x, t.th, a, rfl, Is.of_im t x t1 (him.mv m1), by omega, fun H2 m2 => ?_⟩
      rw [isTerm_th (fun i h => h.1) t t1, under_th (fun i h => h.2) t t1]
      refine ⟨_, m2.same _ _ e1, ?_, ?_, (m1.trans m2).wr nD⟩
      · rw [List.length_map, List.length_replicate]
        exact Nat.lt_of_le_of_lt (show i ≤ 1000 by omega) (by decide)
      · rw [upd_same, List.replicate_succ', List.map_append]
        rfl
    · obtain ⟨e1, m1⟩ := h1
      refine ⟨D, List.replicate xs.length true, rfl, .inl (.inl e1), ?_⟩
      rw [show (List.replicate xs.length true).all id = true by simp]
      exact q H1 m1
end
end Fm
namespace Fm
open PySem PySem.Spec PyProof.Rows L2 SlX
local macro_rules | `(tactic| walk_at "nn") => `(tactic| dsimp only [tC, tNil, tCons, tCB, tCall, gName, tSeq, tAsg, tPar, tDrop, tRet])
local macro_rules | `(tactic| walk_at "nc") => `(tactic| dsimp only [tC, tNil, tCons, tCB, tCall])
def sp_set (K : PySem.W.Frag) : Sp := fun vs H Q _ => ∃ (many places : Int) (v : V) (chs : List (Int × Tm)) (goal : Int), vs = [.int many, .int places, v] ∧ Im K H v (Sta.set chs goal).d ∧ ChOk many chs ∧ 0 ≤ goal ∧ goal < places ∧ ∀ H', Mv [] H H' → Q (.bl true) H'
def sp_end (K : PySem.W.Frag) : Sp := fun vs H Q _ => ∃ (many : Int) (v : V) (word : Str) (ts : List Tm), vs = [.int many, v] ∧ Im K H v (Sta.fin word ts).d ∧ Nm word ∧ ts.length ≤ 2 ∧ (∀ t ∈ ts, TmOver many t) ∧ ∀ H', Mv [] H H' → Q (.bl true) H'
def sp_way (K : PySem.W.Frag) (C : Addr) : Sp := fun vs H Q _ => ∃ (x : Addr) (many places : Int) (v : V) (rs : List ActR) (r : ActR) (wy : Str × List Int × Int), vs = [.ref x, .int many, .int places, .str r.nm, v] ∧ WldAt K H C x rs ∧ r ∈ rs ∧ Im K H v (wayD wy) ∧ WayOk r many places wy ∧
  (∀ e ∈ r.outs, 0 ≤ e.2 ∧ e.2 ≤ 2) ∧ ∀ H', Mv [] H H' → Q (.bl true) H'
theorem Im.tup3 {K : PySem.W.Frag} {H : Hp} {v : V} {d e f : PyData} (h : Im K H v (.tuple [d, e, f])) : ∃ a x y z, v = .ref a ∧ SqT K H a [x, y, z] ∧ Im K H x d ∧ Im K H y e ∧ Im K H z f := by
  obtain ⟨a, xs, rfl, ha, hx⟩ := h.tupI
  obtain ⟨x, xs1, rfl, h1, hx⟩ := hx.invD
  obtain ⟨y, xs2, rfl, h2, hx⟩ := hx.invD
  obtain ⟨z, xs3, rfl, h3, hx⟩ := hx.invD
  rw [hx.nilD] at ha
  exact ⟨a, x, y, z, rfl, ha, h1, h2, h3⟩
theorem Im.tup2 {K : PySem.W.Frag} {H : Hp} {v : V} {d e : PyData} (h : Im K H v (.tuple [d, e])) : ∃ a x y, v = .ref a ∧ SqT K H a [x, y] ∧ Im K H x d ∧ Im K H y e := by
  obtain ⟨a, xs, rfl, ha, hx⟩ := h.tupI
  obtain ⟨x, xs1, rfl, h1, hx⟩ := hx.invD
  obtain ⟨y, xs2, rfl, h2, hx⟩ := hx.invD
  rw [hx.nilD] at ha
  exact ⟨a, x, y, rfl, ha, h1, h2⟩
theorem Im.tup4 {K : PySem.W.Frag} {H : Hp} {v : V} {d e f g : PyData} (h : Im K H v (.tuple [d, e, f, g])) : ∃ a x y z u, v = .ref a ∧ SqT K H a [x, y, z, u] ∧ Im K H x d ∧ Im K H y e ∧ Im K H z f ∧ Im K H u g := by
  obtain ⟨a, xs, rfl, ha, hx⟩ := h.tupI
  obtain ⟨x, xs1, rfl, h1, hx⟩ := hx.invD
  obtain ⟨y, xs2, rfl, h2, hx⟩ := hx.invD
  obtain ⟨z, xs3, rfl, h3, hx⟩ := hx.invD
  obtain ⟨u, xs4, rfl, h4, hx⟩ := hx.invD
  rw [hx.nilD] at ha
  exact ⟨a, x, y, z, u, rfl, ha, h1, h2, h3, h4⟩
theorem imm_ints (ns : List Int) : immAll (ns.map PyData.int) = true := immAll_iff.mpr fun x h => by
  obtain ⟨n, _, rfl⟩ := List.mem_map.mp h
  rfl
theorem Ims.intsI {K : PySem.W.Frag} {H : Hp} : ∀ {ns : List Int} {xs : List V}, Ims K H xs (ns.map PyData.int) → xs = ns.map V.int
  | [], _, h => h.nilD
  | n :: ns, _, h => by
    obtain ⟨v, vs, rfl, h1, h2⟩ := h.invD
    rw [h1.intI, Ims.intsI h2]
    rfl
theorem Ims.ofInts {K : PySem.W.Frag} {H : Hp} : ∀ (ns : List Int), Ims K H (ns.map V.int) (ns.map PyData.int)
  | [] => .nil
  | n :: ns => .cons (.int n) (Ims.ofInts ns)
section
variable {P : Program} {w : World} {K : PySem.W.Frag} {mg : Str → Option Value} {base : Heap}
theorem ok_is_set (T : TX K mg) {k : Nat} : FnOk P w K mg base CX0 (k + 5) T.d_is_set.f T.d_is_set.fd P_is_set (sp_set K) := by
  have G_is_pair : FnOk P w K mg base CX0 1 T.d_is_pair.f T.d_is_pair.fd P_is_pair (sp_pair K) := ok_is_pair T
  have G_is_place : FnOk P w K mg base CX0 2 T.d_is_place.f T.d_is_place.fd P_is_place (sp_place K) := ok_is_place T
  have G_are_different : FnOk P w K mg base CX0 2 T.d_are_different.f T.d_are_different.fd P_are_different (sp_diff K) := ok_are_different T
  have G_are_terms_over : FnOk P w K mg base CX0 4 T.d_are_terms_over.f T.d_are_terms_over.fd P_are_terms_over (sp_termsOver K) := ok_are_terms_over T
  refine T.d_is_set.F.ok sc_is_set (fun vs H Q E h => ?_) (fun cdv A outer s H vs Q E hr h => ?_)
  · obtain ⟨_, _, _, _, _, rfl, _⟩ := h
    rfl
  · obtain ⟨many, places, v, chs, goal, rfl, hv, ⟨cnd, cln, cok⟩, g0, g1, q⟩ := h
    have hu64 := hr.units
    obtain ⟨a, x0, x1, x2, rfl, ha, h0, h1, h2⟩ := hv.tup3
    cases h2.intI
    obtain ⟨a1, xs, rfl, ha1, hxs⟩ := h1.tupI
    have hl := hxs.length
    rw [List.length_map] at hl
    have row : ∀ (i : Nat) (x : V) (H' : Hp), Mv [] H H' → xs[i]? = some x → ∃ c ac y, chs[i]? = some c ∧ x = .ref ac ∧ SqT K H' ac [.int c.1, y] ∧ Im K H' y c.2.d ∧ Im K H' x (chD c) := fun i x H' m hx => by
      obtain ⟨d, hd, him⟩ := hxs.get hx
      rw [List.getElem?_map] at hd
      obtain ⟨c, hc, rfl⟩ := Option.map_eq_some_iff.mp hd
      obtain ⟨ac, y0, y, rfl, hac, k0, k1⟩ := (him.mv m).tup2
      rw [k0.intI] at hac
      exact ⟨c, ac, y, hc, rfl, hac, k1, him.mv m⟩
    refine ⟨_, (pss_cons (ps_if (PW.pt (pw_or (pt_cmpR (r := rNeG K) (op_neG hu64) (pe_callB (r := rLenG K) call_lenG (by rfl) T.b_len bt_len (pa_cons (pv 2) pa_nil)) pe_int (nomark _)) (pw_or (pt_not (pt_val (pe_callB (r := rIsi K) call_isi (by rfl) T.b_isinstance bt_isinstance (pa_cons (pe_ix (r := rIx K) ix_seq (pv 2) pe_int (fun _ _ => rfl)) (pa_cons (pe_ty T.b_tuple bt_tuple) pa_nil))))) (pw_or1 (pt_not (pt_val (pe_callB (r := rAll K) (cr_all rfl) (by rfl) T.b_all bt_all (pa_cons (pe_lc (own := [("change", 3)]) (g := gName 3) (by rfl) sc_is_set.nd (pi_seq (pe_ix (r := rIx K) ix_seq (pv 2) pe_int (fun _ _ => rfl))) (blkOk_by (own := [("change", 3)]) (N := N_is_set) (sc := defScope s_is_set) (by decide +kernel)) (fun _ _ _ _ _ => pg_name (i := 3) sc_is_set.nd rfl (Or.inl rfl)) (fun _ _ _ _ _ => pts_nil) (fun _ _ _ _ _ => (pe_call G_is_pair (hr.mono (by omega)) rfl T.d_is_pair.g T.d_is_pair.F.kp T.d_is_pair.b .nil pass0 (pa_cons (pv 3) pa_nil)))) pa_nil)))))))) (pss_one (ps_ret pe_bl)) pss_nil) (pss_cons (ps_if (pt_not (pt_val (pe_call G_are_different (hr.mono (by omega)) rfl T.d_are_different.g T.d_are_different.F.kp T.d_are_different.b .nil pass0 (pa_cons (pv 0) (pa_cons (pe_callTy (r := rTupOf K) call_tupG (by rfl) T.b_tuple bt_tuple (pa_cons (pe_lc (own := [("change", 3)]) (g := gName 3) (by rfl) sc_is_set.nd (pi_seq (pe_ix (r := rIx K) ix_seq (pv 2) pe_int (fun _ _ => rfl))) (blkOk_by (own := [("change", 3)]) (N := N_is_set) (sc := defScope s_is_set) (by decide +kernel)) (fun _ _ _ _ _ => pg_name (i := 3) sc_is_set.nd rfl (Or.inl rfl)) (fun _ _ _ _ _ => pts_nil) (fun _ _ _ _ _ => (pe_ix (r := rIx K) ix_seq (pv 3) pe_int (fun _ _ => rfl)))) pa_nil)) pa_nil))))) (pss_one (ps_ret pe_bl)) pss_nil) (pss_one (ps_ret (pe_and (pe_call G_are_terms_over (hr.mono (by omega)) rfl T.d_are_terms_over.g T.d_are_terms_over.F.kp T.d_are_terms_over.b .nil pass0 (pa_cons (pv 0) (pa_cons (pe_callTy (r := rTupOf K) call_tupG (by rfl) T.b_tuple bt_tuple (pa_cons (pe_lc (own := [("change", 3)]) (g := gName 3) (by rfl) sc_is_set.nd (pi_seq (pe_ix (r := rIx K) ix_seq (pv 2) pe_int (fun _ _ => rfl))) (blkOk_by (own := [("change", 3)]) (N := N_is_set) (sc := defScope s_is_set) (by decide +kernel)) (fun _ _ _ _ _ => pg_name (i := 3) sc_is_set.nd rfl (Or.inl rfl)) (fun _ _ _ _ _ => pts_nil) (fun _ _ _ _ _ => (pe_ix (r := rIx K) ix_seq (pv 3) pe_int (fun _ _ => rfl)))) pa_nil)) pa_nil))) (pe_one (pe_call G_is_place (hr.mono (by omega)) rfl T.d_is_place.g T.d_is_place.F.kp T.d_is_place.b .nil pass0 (pa_cons (pv 1) (pa_cons (pe_ix (r := rIx K) ix_seq (pv 2) pe_int (fun _ _ => rfl)) pa_nil))))))))), ?_⟩
    refine ⟨.ref a, rfl, ?_⟩
    walk_at "nc"
    refine rd_len (.inr ha) (Or.inl ⟨rfl, _, rfl, ?_⟩)
    refine ⟨.ref a, rfl, rd_ixT ha (by decide) (v := .ref a1) rfl ?_⟩
    walk_at "nn"
    refine ⟨_, _, _, _, true, rfl, .ty "tuple", tyx_sqT ha1, kit_ty (by decide +kernel), ?_⟩
    refine ⟨_, rfl, ?_⟩
    refine ⟨.ref a, rfl, rd_ixT ha (by decide) (v := .ref a1) rfl ⟨a1, rfl, ?_⟩⟩
    refine lc_seq (xs := xs) (.inr ha1) (fun i D H1 => H1 D = some (.lst ((List.replicate i true).map V.bl)) ∧ Mv [] H H1)
      (fun D nD => ⟨upd_same, .new nD⟩) (fun i D H1 nD h1 => h1.2) (fun D nD i x H1 hx h1 => ?_) (fun D H1 nD h1 => ?_)
    · obtain ⟨e1, m1⟩ := h1
      obtain ⟨c, ac, y, hc, rfl, hac, hy, him⟩ := row i x H1 m1 hx
      have hi := (List.getElem?_eq_some_iff.mp hc).1
      refine ⟨rfl, .ref ac, rfl, .ref ac, _, _, rfl, him, ?_⟩
      refine ⟨_, e1, ?_, ?_, m1.wr nD⟩
      · rw [List.length_map, List.length_replicate]
        exact Nat.lt_of_le_of_lt (show i ≤ 1000 by omega) (by decide)
      · rw [upd_same, List.replicate_succ', List.map_append]
        rfl
    obtain ⟨e1, m1⟩ := h1
    refine ⟨D, List.replicate xs.length true, rfl, .inl (.inl e1), ?_⟩
    rw [show (List.replicate xs.length true).all id = true by simp]
    refine ⟨_, rfl, ?_⟩
    clear e1 nD
    -- are_different
    refine ⟨.int many, rfl, .ref a, rfl, rd_ixT (m1.sqT ha) (by decide) (v := .ref a1) rfl ⟨a1, rfl, ?_⟩⟩
    refine lc_seq (xs := xs) (.inr (m1.sqT ha1)) (fun i D H2 => H2 D = some (.lst (((chs.take i).map (·.1)).map V.int)) ∧ Mv [] H1 H2)
      (fun D nD => ⟨upd_same, .new nD⟩) (fun i D H2 nD h2 => h2.2) (fun D nD i x H2 hx h2 => ?_) (fun D H2 nD h2 => ?_)
    · obtain ⟨e2, m2⟩ := h2
      obtain ⟨c, ac, y, hc, rfl, hac, hy, him⟩ := row i x H2 (m1.trans m2) hx
      have hi := (List.getElem?_eq_some_iff.mp hc).1
      refine ⟨rfl, .ref ac, rfl, rd_ixT hac (by decide) (v := .int c.1) rfl ?_⟩
      refine ⟨_, e2, ?_, ?_, m2.wr nD⟩
      · rw [List.length_map, List.length_map, List.length_take]
        exact Nat.lt_of_le_of_lt (show min i chs.length ≤ 1000 by omega) (by decide)
      · rw [upd_same, List.take_add_one, hc]
        simp
    obtain ⟨e2, m2⟩ := h2
    rw [hl, List.take_length] at e2
    walk_at "nc"
    refine rd_tupOf (.inl (.inl e2)) fun p H3 m3 e3 => ?_
    refine ⟨many, p, chs.map (·.1), rfl, e3, cnd, by rw [List.length_map]; omega, fun j hj => ?_, fun H4 m4 => ⟨_, rfl, ?_⟩⟩
    · obtain ⟨c, hc, rfl⟩ := List.mem_map.mp hj
      exact ⟨(cok c hc).1, (cok c hc).2.1⟩
    have m04 := m1.trans (m2.trans (m3.trans m4))
    -- are_terms_over
    refine ⟨.int many, rfl, .ref a, rfl, rd_ixT (m04.sqT ha) (by decide) (v := .ref a1) rfl ⟨a1, rfl, ?_⟩⟩
    refine lc_seq (xs := xs) (.inr (m04.sqT ha1)) (fun i D H5 => ∃ ys, H5 D = some (.lst ys) ∧ Ims K H5 ys (Tm.ds ((chs.take i).map (·.2))) ∧ Mv [] H4 H5)
      (fun D nD => ⟨[], upd_same, by simpa [Tm.ds] using Ims.nil, .new nD⟩) (fun i D H5 nD h5 => h5.choose_spec.2.2) (fun D nD i x H5 hx h5 => ?_) (fun D H5 nD h5 => ?_)
    · obtain ⟨ys, e5, i5, m5⟩ := h5
      obtain ⟨c, ac, y, hc, rfl, hac, hy, him⟩ := row i x H5 (m04.trans m5) hx
      have hi := (List.getElem?_eq_some_iff.mp hc).1
      refine ⟨rfl, .ref ac, rfl, rd_ixT hac (by decide) (v := y) rfl ?_⟩
      have hw : Mv [D] H5 (upd H5 D (.lst (ys ++ [y]))) := .set e5 (by simp)
      refine ⟨ys, e5, ?_, _, upd_same, ?_, m5.wr nD⟩
      · rw [i5.length, Tm.ds_map, List.length_map, List.length_map, List.length_take]
        exact Nat.lt_of_le_of_lt (show min i chs.length ≤ 1000 by omega) (by decide)
      · rw [List.take_add_one, hc]
        rw [show Tm.ds ((chs.take i ++ (some c).toList).map (·.2)) = Tm.ds ((chs.take i).map (·.2)) ++ [c.2.d] by simp [Tm.ds_map]]
        exact (i5.append (.cons hy .nil)).mv hw
    obtain ⟨ys, e5, i5, m5⟩ := h5
    rw [hl, List.take_length] at i5
    walk_at "nc"
    refine rd_tupOf (.inl (.inl e5)) fun p6 H6 m6 e6 => ?_
    refine ⟨many, .ref p6, chs.map (·.2), rfl, .tup e6 (i5.mv m6), by rw [List.length_map]; omega, fun t ht => ?_, fun H7 m7 => ⟨_, rfl, ?_⟩⟩
    · obtain ⟨c, hc, rfl⟩ := List.mem_map.mp ht
      exact (cok c hc).2.2
    have m07 := m04.trans (m5.trans (m6.trans m7))
    refine ⟨.int places, rfl, .ref a, rfl, rd_ixT (m07.sqT ha) (by decide) (v := .int goal) rfl ?_⟩
    refine ⟨places, .int goal, .int goal, a, rfl, rfl, fun H8 m8 => ?_⟩
    rw [show inPl places (.int goal) = true by simp [inPl, g0, g1]]
    exact q H8 (m07.trans m8)
theorem ok_is_end (T : TX K mg) {k : Nat} : FnOk P w K mg base CX0 (k + 5) T.d_is_end.f T.d_is_end.fd P_is_end (sp_end K) := by
  have G_is_name : FnOk P w K mg base CX0 1 T.d_is_name.f T.d_is_name.fd P_is_name (sp_kind K isNamed) := ok_is_name T
  have G_are_terms_over : FnOk P w K mg base CX0 4 T.d_are_terms_over.f T.d_are_terms_over.fd P_are_terms_over (sp_termsOver K) := ok_are_terms_over T
  refine T.d_is_end.F.ok sc_is_end (fun vs H Q E h => ?_) (fun cdv A outer s H vs Q E hr h => ?_)
  · obtain ⟨_, _, _, _, rfl, _⟩ := h
    rfl
  · obtain ⟨many, v, word, ts, rfl, hv, hw, hl, hts, q⟩ := h
    have hu64 := hr.units
    obtain ⟨a, x0, x1, x2, rfl, ha, h0, h1, h2⟩ := hv.tup3
    cases h1.strI
    refine ⟨_, (pss_cons (ps_if (PW.pt (pw_or (pt_cmpR (r := rNeG K) (op_neG hu64) (pe_callB (r := rLenG K) call_lenG (by rfl) T.b_len bt_len (pa_cons (pv 1) pa_nil)) pe_int (nomark _)) (pw_or (pt_not (pt_val (pe_call G_is_name (hr.mono (by omega)) rfl T.d_is_name.g T.d_is_name.F.kp T.d_is_name.b .nil pass0 (pa_cons (pe_ix (r := rIx K) ix_seq (pv 1) pe_int (fun _ _ => rfl)) pa_nil)))) (pw_or1 (pt_not (pt_val (pe_call G_are_terms_over (hr.mono (by omega)) rfl T.d_are_terms_over.g T.d_are_terms_over.F.kp T.d_are_terms_over.b .nil pass0 (pa_cons (pv 0) (pa_cons (pe_ix (r := rIx K) ix_seq (pv 1) pe_int (fun _ _ => rfl)) pa_nil))))))))) (pss_one (ps_ret pe_bl)) pss_nil) (pss_one (ps_ret (pe_cmpR op_le (pe_callB (r := rLenG K) call_lenG (by rfl) T.b_len bt_len (pa_cons (pe_ix (r := rIx K) ix_seq (pv 1) pe_int (fun _ _ => rfl)) pa_nil)) (pe_glob rfl T.c_MOST_TOLD T.r_MOST_TOLD) (nomark _))))), ?_⟩
    refine ⟨.ref a, rfl, ?_⟩
    walk_at "nc"
    refine rd_len (.inr ha) (Or.inl ⟨rfl, _, rfl, ?_⟩)
    refine ⟨.ref a, rfl, rd_ixT ha (by decide) (v := .str word) rfl ?_⟩
    refine ⟨.str word, .str word, a, rfl, ⟨rfl, by have := hw.2.1; omega⟩, fun H1 m1 => ?_⟩
    rw [show isNamed (.str word) = true from nmd_nm hw]
    refine ⟨_, rfl, ?_⟩
    refine ⟨.int many, rfl, .ref a, rfl, rd_ixT (m1.sqT ha) (by decide) (v := x2) rfl ?_⟩
    refine ⟨many, x2, ts, rfl, h2.mv m1, by omega, hts, fun H2 m2 => ⟨_, rfl, ?_⟩⟩
    have m02 := m1.trans m2
    obtain ⟨a2, xs, rfl, ha2, hx2⟩ := h2.tupI
    refine ⟨.ref a, rfl, rd_ixT (m02.sqT ha) (by decide) (v := .ref a2) rfl ?_⟩
    walk_at "nc"
    have hl2 := hx2.length
    rw [Tm.ds_map, List.length_map] at hl2
    refine rd_len (.inr (m02.sqT ha2)) ⟨_, 2, rfl, rfl, ?_⟩
    rw [hl2]
    dsimp only
    rw [show decide (((ts.length : Nat) : Int) ≤ 2) = true from decide_eq_true (by omega)]
    exact q H2 m02
end
end Fm
namespace Fm
open PySem PySem.Spec PyProof.Rows L2 SlX
local macro_rules | `(tactic| walk_at "nn") => `(tactic| dsimp only [tC, tNil, tCons, tCB, tCall, gName, tSeq, tAsg, tPar, tDrop, tRet])
local macro_rules | `(tactic| walk_at "nc") => `(tactic| dsimp only [tC, tNil, tCons, tCB, tCall])
theorem on_ok {x : Str} (h : On x) : PyData.strOk x = true := by
  show x.cps.all (· < 0x110000) = true
  rw [Array.all_eq_true_iff_forall_mem]
  have low : ∀ z : Str, nmd z = true → ∀ c ∈ z.cps.toList, c < 0x110000 := fun z hz c hc => by
    unfold nmd at hz
    rw [Bool.and_eq_true, List.all_eq_true] at hz
    have := hz.2 c hc
    have k : ∀ c ∈ lettersS.cps.toList, c < 0x110000 := by decide +kernel
    exact k c (of_decide_eq_true this)
  intro c hc
  have hc' : c ∈ x.cps.toList := by simpa using hc
  have h1 := h.1
  simp only [isOutc] at h1
  simp only [decide_eq_true_eq]
  split at h1
  · rename_i hd
    have hd' : x.cps.toList.drop (x.length - 1) = [45] := of_decide_eq_true hd
    rw [← List.take_append_drop (x.length - 1) x.cps.toList, hd'] at hc'
    rcases List.mem_append.mp hc' with hc' | hc'
    · exact low _ h1 c (by simpa [initS] using hc')
    · rw [List.mem_singleton] at hc'
      omega
  · exact low x h1 c hc'
def sp_ask (K : PySem.W.Frag) (C : Addr) : Sp := fun vs H Q _ => ∃ (x : Addr) (many places : Int) (v : V) (rs : List ActR) (r : ActR) (ts : List Tm) (ways : List (Str × List Int × Int)), vs = [.ref x, .int many, .int places, v] ∧ WldAt K H C x rs ∧ WOk rs ∧ r ∈ rs ∧ Im K H v (Sta.ask r.nm ts ways).d ∧ AskOk r many places ts ways ∧
  ∀ H', Mv [] H H' → Q (.bl true) H'
section
variable {P : Program} {w : World} {K : PySem.W.Frag} {mg : Str → Option Value} {base : Heap}
theorem ok_is_way (T : TX K mg) {k : Nat} : FnOk P w K mg base CX0 (k + 3) T.d_is_way.f T.d_is_way.fd P_is_way (sp_way K T.C_World) := by
  have G_is_place : FnOk P w K mg base CX0 2 T.d_is_place.f T.d_is_place.fd P_is_place (sp_place K) := ok_is_place T
  have G_are_different : FnOk P w K mg base CX0 2 T.d_are_different.f T.d_are_different.fd P_are_different (sp_diff K) := ok_are_different T
  have G_World_outcomes : FnOk P w K mg base CX0 1 T.d_World_outcomes.f T.d_World_outcomes.fd P_World_outcomes (sp_Wouts K T.C_World) := ok_World_outcomes T
  have G_World_brings : FnOk P w K mg base CX0 1 T.d_World_brings.f T.d_World_brings.fd P_World_brings (sp_Wbrings K T.C_World) := ok_World_brings T
  refine T.d_is_way.F.ok sc_is_way (fun vs H Q E h => ?_) (fun cdv A outer s H vs Q E hr h => ?_)
  · obtain ⟨_, _, _, _, _, _, _, rfl, _⟩ := h
    rfl
  · obtain ⟨x, many, places, v, rs, r, wy, rfl, hW, hrs, hv, ⟨i, hi, hil, wnd, win, g0, g1⟩, hb, q⟩ := h
    have hu64 := hr.units
    have hu65 := hu65_of hr
    obtain ⟨a, x0, x1, x2, rfl, ha, h0, h1, h2⟩ := hv.tup3
    cases h0.strI
    cases h2.intI
    obtain ⟨a1, xs, rfl, ha1, hxs⟩ := h1.tupI
    have hxi := hxs.intsI
    subst hxi
    have hi2 := hb _ hi
    refine ⟨_, (pss_cons (ps_if (PW.pt (pw_or (pt_not (pt_val (pe_callB (r := rIsi K) call_isi (by rfl) T.b_isinstance bt_isinstance (pa_cons (pv 4) (pa_cons (pe_ty T.b_tuple bt_tuple) pa_nil))))) (pw_or (pt_cmpR (r := rNeG K) (op_neG hu64) (pe_callB (r := rLenG K) call_lenG (by rfl) T.b_len bt_len (pa_cons (pv 4) pa_nil)) pe_int (nomark _)) (pw_or1 (pt_not (pt_val (pe_callB (r := rIsi K) call_isi (by rfl) T.b_isinstance bt_isinstance (pa_cons (pe_ix (r := rIx K) ix_seq (pv 4) pe_int (fun _ _ => rfl)) (pa_cons (pe_ty T.b_str bt_str) pa_nil))))))))) (pss_one (ps_ret pe_bl)) pss_nil) (pss_cons (ps_if (PW.pt (pw_or (pt_cmpR (r := rIn K true) op_notIn_seq (pe_ix (r := rIx K) ix_seq (pv 4) pe_int (fun _ _ => rfl)) (pe_methSl (pv 0) T.c_World T.d_World_outcomes.M (fnR_of G_World_outcomes T.d_World_outcomes.b) (hr.mono (by omega)) pass0 (pa_cons (pv 3) pa_nil)) rfl) (pw_or1 (pt_not (pt_val (pe_call G_are_different (hr.mono (by omega)) rfl T.d_are_different.g T.d_are_different.F.kp T.d_are_different.b .nil pass0 (pa_cons (pv 1) (pa_cons (pe_ix (r := rIx K) ix_seq (pv 4) pe_int (fun _ _ => rfl)) pa_nil)))))))) (pss_one (ps_ret pe_bl)) pss_nil) (pss_one (ps_ret (pe_and (pe_cmpR (r := rEqG K) (op_eqG hu64) (pe_callB (r := rLenG K) call_lenG (by rfl) T.b_len bt_len (pa_cons (pe_ix (r := rIx K) ix_seq (pv 4) pe_int (fun _ _ => rfl)) pa_nil)) (pe_methSl (pv 0) T.c_World T.d_World_brings.M (fnR_of G_World_brings T.d_World_brings.b) (hr.mono (by omega)) pass0 (pa_cons (pv 3) (pa_cons (pe_ix (r := rIx K) ix_seq (pv 4) pe_int (fun _ _ => rfl)) pa_nil))) (nomark _)) (pe_one (pe_call G_is_place (hr.mono (by omega)) rfl T.d_is_place.g T.d_is_place.F.kp T.d_is_place.b .nil pass0 (pa_cons (pv 2) (pa_cons (pe_ix (r := rIx K) ix_seq (pv 4) pe_int (fun _ _ => rfl)) pa_nil))))))))), ?_⟩
    refine ⟨.ref a, rfl, ?_⟩
    walk_at "nn"
    refine ⟨_, _, _, _, true, rfl, .ty "tuple", tyx_sqT ha, kit_ty (by decide +kernel), ?_⟩
    refine ⟨_, rfl, ?_⟩
    refine ⟨.ref a, rfl, ?_⟩
    walk_at "nc"
    refine rd_len (.inr ha) (Or.inl ⟨rfl, _, rfl, ?_⟩)
    refine ⟨.ref a, rfl, rd_ixT ha (by decide) (v := .str wy.1) rfl ?_⟩
    walk_at "nn"
    refine ⟨_, _, _, _, true, rfl, .ty "str", .base (.str _), kit_ty (by decide +kernel), ?_⟩
    refine ⟨_, rfl, ?_⟩
    -- in the outcomes
    refine ⟨.ref a, rfl, rd_ixT ha (by decide) (v := .str wy.1) rfl ?_⟩
    obtain ⟨dx, d, zs, hs, hA, hz⟩ := id hW
    refine ⟨.ref x, rfl, x, dx, _, rfl, hs, .str r.nm, rfl, x, rs, r, rfl, hW, hrs, fun p np => ?_⟩
    refine rd_notS upd_same ⟨_, rfl, ?_⟩
    rw [show decide (wy.1 ∈ r.outs.map (·.1)) = true from decide_eq_true (List.mem_map.mpr ⟨_, hi, rfl⟩)]
    have m1 : Mv [] H (upd H p (.lst ((r.outs.map (·.1)).map V.str))) := .new np
    generalize upd H p (.lst ((r.outs.map (·.1)).map V.str)) = H1 at m1 ⊢
    refine ⟨.int many, rfl, .ref a, rfl, rd_ixT (m1.sqT ha) (by decide) (v := .ref a1) rfl ?_⟩
    refine ⟨many, a1, wy.2.1, rfl, m1.sqT ha1, wnd, by omega, win, fun H2 m2 => ⟨_, rfl, ?_⟩⟩
    have m02 := m1.trans m2
    -- as many as it brings
    refine ⟨.ref a, rfl, rd_ixT (m02.sqT ha) (by decide) (v := .ref a1) rfl ?_⟩
    walk_at "nc"
    refine rd_len (.inr (m02.sqT ha1)) ?_
    refine ⟨.ref x, rfl, x, dx, _, rfl, Slt.mv hs m02, .str r.nm, rfl, .ref a, rfl, rd_ixT (m02.sqT ha) (by decide) (v := .str wy.1) rfl ?_⟩
    refine ⟨x, rs, r, wy.1, i, rfl, hW.mv m02, hrs, hi, Or.inl ⟨rfl, _, rfl, ?_⟩⟩
    rw [List.length_map, hil]
    simp only [decide_true]
    refine ⟨.int places, rfl, .ref a, rfl, rd_ixT (m02.sqT ha) (by decide) (v := .int wy.2.2) rfl ?_⟩
    refine ⟨places, .int wy.2.2, .int wy.2.2, a, rfl, rfl, fun H8 m8 => ?_⟩
    rw [show inPl places (.int wy.2.2) = true by simp [inPl, g0, g1]]
    exact q H8 (m02.trans m8)
end
end Fm
namespace Fm
open PySem PySem.Spec PyProof.Rows L2 SlX
local macro_rules | `(tactic| walk_at "nn") => `(tactic| dsimp only [tC, tNil, tCons, tCB, tCall, gName, tSeq, tAsg, tPar, tDrop, tRet])
local macro_rules | `(tactic| walk_at "nc") => `(tactic| dsimp only [tC, tNil, tCons, tCB, tCall])
section
variable {P : Program} {w : World} {K : PySem.W.Frag} {mg : Str → Option Value} {base : Heap}
theorem ok_is_ask (T : TX K mg) {k : Nat} : FnOk P w K mg base CX0 (k + 5) T.d_is_ask.f T.d_is_ask.fd P_is_ask (sp_ask K T.C_World) := by
  have G_is_way : FnOk P w K mg base CX0 3 T.d_is_way.f T.d_is_way.fd P_is_way (sp_way K T.C_World) := ok_is_way T
  have G_are_terms_over : FnOk P w K mg base CX0 4 T.d_are_terms_over.f T.d_are_terms_over.fd P_are_terms_over (sp_termsOver K) := ok_are_terms_over T
  have G_World_acts : FnOk P w K mg base CX0 1 T.d_World_acts.f T.d_World_acts.fd P_World_acts (sp_Wacts K T.C_World) := ok_World_acts T
  have G_World_outcomes : FnOk P w K mg base CX0 1 T.d_World_outcomes.f T.d_World_outcomes.fd P_World_outcomes (sp_Wouts K T.C_World) := ok_World_outcomes T
  have G_World_arguments : FnOk P w K mg base CX0 1 T.d_World_arguments.f T.d_World_arguments.fd P_World_arguments (sp_Wargs K T.C_World) := ok_World_arguments T
  refine T.d_is_ask.F.ok sc_is_ask (fun vs H Q E h => ?_) (fun cdv A outer s H vs Q E hr h => ?_)
  · obtain ⟨_, _, _, _, _, _, _, _, rfl, _⟩ := h
    rfl
  · obtain ⟨x, many, places, v, rs, r, ts, ways, rfl, hW, hWo, hrs, hv, hok, q⟩ := h
    have hu64 := hr.units
    have hu65 := hu65_of hr
    have hro := hWo.ok r hrs
    obtain ⟨a, x0, x1, x2, x3, rfl, ha, h0, h1, h2, h3⟩ := hv.tup4
    cases h1.strI
    obtain ⟨a2, xs2, rfl, ha2, hxs2⟩ := h2.tupI
    obtain ⟨a3, xs3, rfl, ha3, hxs3⟩ := h3.tupI
    have hl2 := hxs2.length
    rw [Tm.ds_map, List.length_map] at hl2
    have hl3 := hxs3.length
    rw [List.length_map] at hl3
    have hwl : ways.length = r.outs.length := by
      have := hok.pm.length_eq
      rwa [List.length_map, List.length_map] at this
    have hw6 := hro.o6
    have row : ∀ (i : Nat) (y : V) (H' : Hp), Mv [] H H' → xs3[i]? = some y → ∃ c ac y1 y2, ways[i]? = some c ∧ y = .ref ac ∧ SqT K H' ac [.str c.1, y1, y2] ∧ Im K H' y (wayD c) := fun i y H' m hx => by
      obtain ⟨d, hd, him⟩ := hxs3.get hx
      rw [List.getElem?_map] at hd
      obtain ⟨c, hc, rfl⟩ := Option.map_eq_some_iff.mp hd
      obtain ⟨ac, y0, y1, y2, rfl, hac, k0, k1, k2⟩ := (him.mv m).tup3
      rw [k0.strI] at hac
      exact ⟨c, ac, y1, y2, hc, rfl, hac, him.mv m⟩
    obtain ⟨dx, d, zs, hs, hA, hz⟩ := id hW
    refine ⟨_, (pss_cons (ps_if (PW.pt (pw_or (pt_cmpR (r := rNeG K) (op_neG hu64) (pe_callB (r := rLenG K) call_lenG (by rfl) T.b_len bt_len (pa_cons (pv 3) pa_nil)) pe_int (nomark _)) (pw_or (pt_not (pt_val (pe_callB (r := rIsi K) call_isi (by rfl) T.b_isinstance bt_isinstance (pa_cons (pe_ix (r := rIx K) ix_seq (pv 3) pe_int (fun _ _ => rfl)) (pa_cons (pe_ty T.b_str bt_str) pa_nil))))) (pw_or1 (pt_cmpR (r := rIn K true) op_notIn_seq (pe_ix (r := rIx K) ix_seq (pv 3) pe_int (fun _ _ => rfl)) (pe_methSl0 (pv 0) T.c_World T.d_World_acts.M (fnR_of G_World_acts T.d_World_acts.b) (hr.mono (by omega)) pass0) rfl))))) (pss_one (ps_ret pe_bl)) pss_nil) (pss_cons (ps_asg (pv 3) (pg_tup rfl (pgs_cons (pg_name (i := 4) sc_is_ask.nd rfl (Or.inl rfl)) (pgs_cons (pg_name (i := 5) sc_is_ask.nd rfl (Or.inr rfl)) (pgs_cons (pg_name (i := 6) sc_is_ask.nd rfl (Or.inl rfl)) (pgs_cons (pg_name (i := 7) sc_is_ask.nd rfl (Or.inl rfl)) pgs_nil)))))) (pss_cons (ps_if (PW.pt (pw_or (pt_not (pt_val (pe_call G_are_terms_over (hr.mono (by omega)) rfl T.d_are_terms_over.g T.d_are_terms_over.F.kp T.d_are_terms_over.b .nil pass0 (pa_cons (pv 1) (pa_cons (pv 6) pa_nil))))) (pw_or (pt_cmpR (r := rNeG K) (op_neG hu64) (pe_callB (r := rLenG K) call_lenG (by rfl) T.b_len bt_len (pa_cons (pv 6) pa_nil)) (pe_methSl (pv 0) T.c_World T.d_World_arguments.M (fnR_of G_World_arguments T.d_World_arguments.b) (hr.mono (by omega)) pass0 (pa_cons (pv 5) pa_nil)) (nomark _)) (pw_or1 (pt_not (pt_val (pe_callB (r := rIsi K) call_isi (by rfl) T.b_isinstance bt_isinstance (pa_cons (pv 7) (pa_cons (pe_ty T.b_tuple bt_tuple) pa_nil))))))))) (pss_one (ps_ret pe_bl)) pss_nil) (pss_cons (ps_if (pt_not (pt_val (pe_callB (r := rAll K) (cr_all rfl) (by rfl) T.b_all bt_all (pa_cons (pe_lc (own := [("way", 8)]) (g := gName 8) (by rfl) sc_is_ask.nd (pi_seq (pv 7)) (blkOk_by (own := [("way", 8)]) (N := N_is_ask) (sc := defScope s_is_ask) (by decide +kernel)) (fun _ _ _ _ _ => pg_name (i := 8) sc_is_ask.nd rfl (Or.inl rfl)) (fun _ _ _ _ _ => pts_nil) (fun _ _ _ _ _ => (pe_call G_is_way (hr.mono (by omega)) rfl T.d_is_way.g T.d_is_way.F.kp T.d_is_way.b .nil pass0 (pa_cons (pv 0) (pa_cons (pv 1) (pa_cons (pv 2) (pa_cons (pv 5) (pa_cons (pv 8) pa_nil)))))))) pa_nil)))) (pss_one (ps_ret pe_bl)) pss_nil) (pss_one (ps_ret (pe_cmpR (r := rEqG K) (op_eqG hu64) (pe_callB (r := rSortA K) (cr_sortA rfl) (by rfl) T.b_sorted bt_sorted (pa_cons (pe_lc (own := [("way", 8)]) (g := gName 8) (by rfl) sc_is_ask.nd (pi_seq (pv 7)) (blkOk_by (own := [("way", 8)]) (N := N_is_ask) (sc := defScope s_is_ask) (by decide +kernel)) (fun _ _ _ _ _ => pg_name (i := 8) sc_is_ask.nd rfl (Or.inl rfl)) (fun _ _ _ _ _ => pts_nil) (fun _ _ _ _ _ => (pe_ix (r := rIx K) ix_seq (pv 8) pe_int (fun _ _ => rfl)))) pa_nil)) (pe_methSl (pv 0) T.c_World T.d_World_outcomes.M (fnR_of G_World_outcomes T.d_World_outcomes.b) (hr.mono (by omega)) pass0 (pa_cons (pv 5) pa_nil)) (nomark _)))))))), ?_⟩
    refine ⟨.ref a, rfl, ?_⟩
    walk_at "nc"
    refine rd_len (.inr ha) (Or.inl ⟨rfl, _, rfl, ?_⟩)
    refine ⟨.ref a, rfl, rd_ixT ha (by decide) (v := .str r.nm) rfl ?_⟩
    walk_at "nn"
    refine ⟨_, _, _, _, true, rfl, .ty "str", .base (.str _), kit_ty (by decide +kernel), ?_⟩
    refine ⟨_, rfl, ?_⟩
    refine ⟨.ref a, rfl, rd_ixT ha (by decide) (v := .str r.nm) rfl ?_⟩
    refine ⟨.ref x, rfl, x, dx, _, rfl, hs, x, rs, rfl, hW, fun p np => ?_⟩
    refine rd_notS upd_same ⟨_, rfl, ?_⟩
    rw [show decide (r.nm ∈ rs.map (·.nm)) = true from decide_eq_true (List.mem_map.mpr ⟨_, hrs, rfl⟩)]
    have m1 : Mv [] H (upd H p (.lst ((rs.map (·.nm)).map V.str))) := .new np
    generalize upd H p (.lst ((rs.map (·.nm)).map V.str)) = H1 at m1 ⊢
    -- word, act, terms, ways = thing
    refine ⟨.ref a, rfl, a, _, rfl, m1.sqT ha, rfl, _, _, rfl, _, _, rfl, _, _, rfl, _, _, rfl, rfl, ?_⟩
    refine ⟨.int many, rfl, .ref a2, rfl, many, .ref a2, ts, rfl, h2.mv m1, ?_, hok.ts, fun H2 m2 => ⟨_, rfl, ?_⟩⟩
    · have := hok.len
      have := hro.ar2
      omega
    have m02 := m1.trans m2
    refine ⟨.ref a2, rfl, ?_⟩
    walk_at "nc"
    refine rd_len (.inr (m02.sqT ha2)) ?_
    refine ⟨.ref x, rfl, x, dx, _, rfl, Slt.mv hs m02, .str r.nm, rfl, x, rs, r, rfl, hW.mv m02, hrs, Or.inl ⟨rfl, _, rfl, ?_⟩⟩
    rw [hl2, hok.len]
    simp only [decide_true]
    refine ⟨.ref a3, rfl, ?_⟩
    walk_at "nn"
    refine ⟨_, _, _, _, true, rfl, .ty "tuple", tyx_sqT (m02.sqT ha3), kit_ty (by decide +kernel), ?_⟩
    refine ⟨_, rfl, ?_⟩
    -- all are ways
    refine ⟨.ref a3, rfl, a3, rfl, ?_⟩
    refine lc_seq (xs := xs3) (.inr (m02.sqT ha3)) (fun i D H3 => H3 D = some (.lst ((List.replicate i true).map V.bl)) ∧ Mv [] H2 H3)
      (fun D nD => ⟨upd_same, .new nD⟩) (fun i D H3 nD h3 => h3.2) (fun D nD i y H3 hx h3 => ?_) (fun D H3 nD h3 => ?_)
    · obtain ⟨e3, m3⟩ := h3
      obtain ⟨c, ac, y1, y2, hc, rfl, hac, him⟩ := row i y H3 (m02.trans m3) hx
      have hi := (List.getElem?_eq_some_iff.mp hc).1
      refine ⟨rfl, .ref x, rfl, .int many, rfl, .int places, rfl, .str r.nm, rfl, .ref ac, rfl, ?_⟩
      refine ⟨x, many, places, .ref ac, rs, r, c, rfl, hW.mv (m02.trans m3), hrs, him, hok.ways c (List.mem_of_getElem? hc), fun e he => (hro.on e he).2, fun H4 m4 => ?_⟩
      refine ⟨_, m4.same _ _ e3, ?_, ?_, (m3.trans m4).wr nD⟩
      · rw [List.length_map, List.length_replicate]
        exact Nat.lt_of_le_of_lt (show i ≤ 1000 by omega) (by decide)
      · rw [upd_same, List.replicate_succ', List.map_append]
        rfl
    obtain ⟨e3, m3⟩ := h3
    refine ⟨D, List.replicate xs3.length true, rfl, .inl (.inl e3), ?_⟩
    rw [show (List.replicate xs3.length true).all id = true by simp]
    refine ⟨_, rfl, ?_⟩
    have m03 := m02.trans m3
    clear e3 nD
    -- sorted of the words
    refine ⟨.ref a3, rfl, a3, rfl, ?_⟩
    refine lc_seq (xs := xs3) (.inr (m03.sqT ha3)) (fun i D H4 => H4 D = some (.lst (((ways.take i).map (·.1)).map V.str)) ∧ Mv [] H3 H4)
      (fun D nD => ⟨upd_same, .new nD⟩) (fun i D H4 nD h4 => h4.2) (fun D nD i y H4 hx h4 => ?_) (fun D H4 nD h4 => ?_)
    · obtain ⟨e4, m4⟩ := h4
      obtain ⟨c, ac, y1, y2, hc, rfl, hac, him⟩ := row i y H4 (m03.trans m4) hx
      have hi := (List.getElem?_eq_some_iff.mp hc).1
      refine ⟨rfl, .ref ac, rfl, rd_ixT hac (by decide) (v := .str c.1) rfl ?_⟩
      refine ⟨_, e4, ?_, ?_, m4.wr nD⟩
      · rw [List.length_map, List.length_map, List.length_take]
        exact Nat.lt_of_le_of_lt (show min i ways.length ≤ 1000 by omega) (by decide)
      · rw [upd_same, List.take_add_one, hc]
        simp
    obtain ⟨e4, m4⟩ := h4
    rw [hl3, List.take_length] at e4
    walk_at "nc"
    refine Or.inr (Or.inl ⟨D, ways.map (·.1), rfl, .inl (.inl e4), by rw [List.length_map]; omega, fun ys p5 hp hsd np5 => ?_⟩)
    have hys : ys = r.outs.map (·.1) := List.Perm.eq_of_pairwise (le := fun a b => leS a b = true) (fun a b _ _ h h' => totS.an _ _ h h') (sortedS_pw ys hsd) (hWo.pw r hrs) (hp.trans hok.pm)
    subst hys
    have m35 : Mv [] H3 (upd H4 p5 (.lst ((r.outs.map (·.1)).map V.str))) := m4.trans (.new np5)
    have e5 : upd H4 p5 (.lst ((r.outs.map (·.1)).map V.str)) p5 = some (.lst ((r.outs.map (·.1)).map V.str)) := upd_same
    generalize upd H4 p5 (.lst ((r.outs.map (·.1)).map V.str)) = H5 at m35 e5 ⊢
    have m05 := m03.trans m35
    refine ⟨.ref x, rfl, x, dx, _, rfl, Slt.mv hs m05, .str r.nm, rfl, x, rs, r, rfl, hW.mv m05, hrs, fun p6 np6 => ?_⟩
    refine rd_eqS (same_new np6 _ _ e5) upd_same (fun s hs => ?_) (q _ (m05.trans (.new np6)))
    obtain ⟨e, he, rfl⟩ := List.mem_map.mp hs
    exact on_ok (hro.on e he).1
end
end Fm
namespace Fm
open PySem PySem.Spec PyProof.Rows L2 SlX
local macro_rules | `(tactic| walk_at "nn") => `(tactic| dsimp only [tC, tNil, tCons, tCB, tCall, gName, tSeq, tAsg, tPar, tDrop, tRet])
local macro_rules | `(tactic| walk_at "nc") => `(tactic| dsimp only [tC, tNil, tCons, tCB, tCall])
/-! rows put in order by their first part -/
theorem Ims.pairs {α : Type} {K : PySem.W.Frag} {H : Hp} {D : α → PyData} : ∀ {rows : List α} {xs : List V}, Ims K H xs (rows.map D) → ∀ z ∈ rows.zip xs, Im K H z.2 (D z.1)
  | [], _, _, z, hz => by simp at hz
  | r :: rows, _, h, z, hz => by
    obtain ⟨v, vs, rfl, h1, h2⟩ := h.invD
    rw [List.zip_cons_cons, List.mem_cons] at hz
    rcases hz with rfl | hz
    · exact h1
    · exact Ims.pairs h2 z hz
theorem Ims.ofPairs {α : Type} {K : PySem.W.Frag} {H : Hp} {D : α → PyData} : ∀ (zs : List (α × V)), (∀ z ∈ zs, Im K H z.2 (D z.1)) → Ims K H (zs.map (·.2)) ((zs.map (·.1)).map D)
  | [], _ => .nil
  | z :: zs, h => .cons (h z (by simp)) (Ims.ofPairs zs fun y hy => h y (by simp [hy]))
theorem sorted_rows {α κ : Type} {K : PySem.W.Frag} {H : Hp} {D : α → PyData} {le : κ → κ → Bool} (t : TotO le) {key : α → κ} {mk : κ → V} {kf : V → κ} (hm : ∀ k, kf (mk k) = k) (hlt : ∀ i j, ltV (mk j) (mk i) = false → le i j = true)
    {rows : List α} {xs : List V} (h : Ims K H xs (rows.map D)) (n : (rows.map key).Nodup) {ps : List (V × V)} (p : ps.Perm ((rows.map fun r => mk (key r)).zip xs)) (s : ps.Pairwise fun p q => ltV q.1 p.1 = false) :
    Ims K H (ps.map (·.2)) ((srt le key rows).map D) := by
  have hl : rows.length = xs.length := by
    have := h.length
    rw [List.length_map] at this
    exact this.symm
  have e1 : (rows.map fun r => mk (key r)).zip xs = (rows.zip xs).map fun z => (mk (key z.1), z.2) := by
    clear h n p
    induction rows generalizing xs with
    | nil => simp
    | cons r rows ih =>
      cases xs with
      | nil => simp at hl
      | cons x xs => simp [ih (xs := xs) (by simpa using hl)]
  rw [e1] at p
  have nz : ((rows.zip xs).map fun z => key z.1).Nodup := by
    have : (rows.zip xs).map (fun z => key z.1) = rows.map key := by
      rw [show (fun z : α × V => key z.1) = key ∘ Prod.fst from rfl, ← List.map_map, List.map_fst_zip (by omega)]
    rw [this]
    exact n
  have n2 : (((rows.zip xs).map fun z => (mk (key z.1), z.2)).map fun z => kf z.1).Nodup := by
    rw [List.map_map]
    rw [show ((fun z : V × V => kf z.1) ∘ fun z : α × V => (mk (key z.1), z.2)) = fun z => key z.1 from funext fun z => hm _]
    exact nz
  have hps : ps = srt le (fun z => kf z.1) ((rows.zip xs).map fun z => (mk (key z.1), z.2)) := by
    refine srt_one t n2 p ?_
    refine List.Pairwise.imp_of_mem ?_ s
    intro a b ha hb hab
    obtain ⟨za, _, rfl⟩ := List.mem_map.mp (p.mem_iff.mp ha)
    obtain ⟨zb, _, rfl⟩ := List.mem_map.mp (p.mem_iff.mp hb)
    simp only [hm]
    exact hlt _ _ hab
  rw [hps, srt_map (k := fun z : α × V => key z.1) (l := fun z : V × V => kf z.1) (f := fun z : α × V => (mk (key z.1), z.2)) t (fun z => hm _) nz, List.map_map]
  have e2 : srt le key rows = (srt le (fun z : α × V => key z.1) (rows.zip xs)).map (·.1) := by
    rw [← srt_map (f := fun z : α × V => z.1) (k := fun z : α × V => key z.1) (l := key) t (fun _ => rfl) nz, List.map_fst_zip (by omega)]
  rw [e2]
  refine Ims.ofPairs (D := D) (srt le (fun z : α × V => key z.1) (rows.zip xs)) fun z hz => ?_
  exact h.pairs z (srt_mem.mp hz)
def kI : V → Int
  | .int i => i
  | _ => 0
def kS : V → Str
  | .str x => x
  | _ => ""
def Sta.ord : Sta → Sta
  | .set chs goal => .set (srt leZ (·.1) chs) goal
  | .ask act ts ways => .ask act ts (srt leS (·.1) ways)
  | .fin word ts => .fin word ts
/-- what ordered needs -/
def Sta.keyed : Sta → Prop
  | .set chs _ => (chs.map (·.1)).Nodup ∧ chs.length ≤ 1000
  | .ask _ _ ways => (ways.map (·.1)).Nodup ∧ ways.length ≤ 1000
  | .fin _ _ => True
theorem fineAll_ints {ns : List Int} (h : ∀ n ∈ ns, n.natAbs < 10 ^ 40) : fineAll (ns.map PyData.int) := fineAll_iff.mpr fun x hx => by
  obtain ⟨n, hn, rfl⟩ := List.mem_map.mp hx
  exact h n hn
theorem nat_of {i n : Int} (h0 : 0 ≤ i) (h1 : i < n) (hn : n ≤ 1000000) : i.natAbs < 10 ^ 40 := by
  have : i.natAbs < 1000001 := by omega
  exact Nat.lt_trans this (by decide)
theorem fine_over {many : Int} {t : Tm} (h : TmOver many t) (hm : many ≤ 1000000) : fine t.d := fine_d (fun i hi => nat_of hi.1 hi.2 hm) t h.1
theorem fineAll_over {many : Int} {ts : List Tm} (h : ∀ t ∈ ts, TmOver many t) (hm : many ≤ 1000000) : fineAll (Tm.ds ts) := by
  rw [Tm.ds_map]
  exact fineAll_iff.mpr fun x hx => by
    obtain ⟨t, ht, rfl⟩ := List.mem_map.mp hx
    exact fine_over (h t ht) hm
theorem depthAll_le {n : Nat} : ∀ {ds : List PyData}, (∀ d ∈ ds, d.depth ≤ n) → PyData.depthAll ds ≤ n
  | [], _ => by simp [PyData.depthAll]
  | d :: ds, h => by
    have h1 := h d (by simp)
    have h2 := depthAll_le (ds := ds) fun e he => h e (by simp [he])
    simp only [PyData.depthAll]
    omega
theorem strOk_set : PyData.strOk "set" = true := by decide +kernel
theorem strOk_ask : PyData.strOk "ask" = true := by decide +kernel
theorem strOk_end : PyData.strOk "end" = true := by decide +kernel
theorem depth_over {many : Int} {ts : List Tm} (h : ∀ t ∈ ts, TmOver many t) : PyData.depthAll (Tm.ds ts) ≤ 50 := by
  rw [Tm.ds_map]
  exact depthAll_le fun d hd => by
    obtain ⟨t, ht, rfl⟩ := List.mem_map.mp hd
    rw [depth_d]
    exact (h t ht).2.2
theorem sta_fine {rs : List ActR} {many places : Int} (hW : WOk rs) (hm : many ≤ 1000000) (hp : places ≤ 1000000) : ∀ {st : Sta}, st.ok rs many places → fine st.d ∧ st.d.depth ≤ 55
  | .set chs goal, ⟨⟨_, _, hc⟩, g0, g1⟩ => by
    constructor
    · simp only [Sta.d, fine, fineAll]
      refine ⟨strOk_set, fineAll_iff.mpr fun x hx => ?_, nat_of g0 g1 hp, trivial⟩
      obtain ⟨c, hc', rfl⟩ := List.mem_map.mp hx
      obtain ⟨c0, c1, c2⟩ := hc c hc'
      exact ⟨nat_of c0 c1 hm, fine_over c2 hm, trivial⟩
    · have : PyData.depthAll (chs.map chD) ≤ 51 := depthAll_le fun d hd => by
        obtain ⟨c, hc', rfl⟩ := List.mem_map.mp hd
        obtain ⟨c0, c1, c2⟩ := hc c hc'
        have := c2.2.2
        simp only [chD, PyData.depth, PyData.depthAll, depth_d]
        omega
      simp only [Sta.d, PyData.depth, PyData.depthAll]
      omega
  | .ask act ts ways, ⟨r, hr, hnm, hk⟩ => by
    subst hnm
    have hro := hW.ok r hr
    constructor
    · simp only [Sta.d, fine, fineAll]
      refine ⟨strOk_ask, nm_ok hro.nm, fineAll_over hk.ts hm, fineAll_iff.mpr fun x hx => ?_, trivial⟩
      obtain ⟨c, hc', rfl⟩ := List.mem_map.mp hx
      obtain ⟨i, hi, _, _, hj, g0, g1⟩ := hk.ways c hc'
      exact ⟨on_ok (hro.on _ hi).1, fineAll_ints fun n hn => nat_of (hj n hn).1 (hj n hn).2 hm, nat_of g0 g1 hp, trivial⟩
    · have : PyData.depthAll (ways.map wayD) ≤ 2 := depthAll_le fun d hd => by
        obtain ⟨c, hc', rfl⟩ := List.mem_map.mp hd
        have : PyData.depthAll (c.2.1.map PyData.int) ≤ 0 := depthAll_le fun d hd => by
          obtain ⟨n, _, rfl⟩ := List.mem_map.mp hd
          simp [PyData.depth]
        simp only [wayD, PyData.depth, PyData.depthAll]
        omega
      have h2 := depth_over hk.ts
      simp only [Sta.d, PyData.depth, PyData.depthAll]
      omega
  | .fin word ts, ⟨hn, _, hts⟩ => by
    constructor
    · simp only [Sta.d, fine, fineAll]
      exact ⟨strOk_end, nm_ok hn, fineAll_over hts hm, trivial⟩
    · have h2 := depth_over hts
      simp only [Sta.d, PyData.depth, PyData.depthAll]
      omega
theorem sta_keyed {rs : List ActR} {many places : Int} (hW : WOk rs) : ∀ {st : Sta}, st.ok rs many places → st.keyed
  | .set chs goal, ⟨⟨h1, h2, _⟩, _, _⟩ => ⟨h1, by omega⟩
  | .ask act ts ways, ⟨r, hr, _, hk⟩ => by
    have := hk.pm.length_eq
    rw [List.length_map, List.length_map] at this
    have := (hW.ok r hr).o6
    exact ⟨(hk.pm.nodup_iff).mpr (hW.ond r hr), by omega⟩
  | .fin word ts, _ => trivial
theorem shaped_of {d : PyData} (h : fine d) (k : d.depth ≤ 55) : SeqAt.shaped d = true := by
  show (d.canLay0 && decide (d.depth ≤ 64)) = true
  rw [(fine_lay d h).1, decide_eq_true (by omega)]
  rfl
def sp_stmt (K : PySem.W.Frag) (C : Addr) : Sp := fun vs H Q _ => ∃ (x : Addr) (many places : Int) (v : V) (rs : List ActR) (st : Sta), vs = [.ref x, .int many, .int places, v] ∧ WldAt K H C x rs ∧ WOk rs ∧ Im K H v st.d ∧ st.ok rs many places ∧ many ≤ 1000000 ∧ places ≤ 1000000 ∧
  ∀ H', Mv [] H H' → Q (.bl true) H'
theorem sta_tup : ∀ st : Sta, ∃ y e es, st.d = .tuple (.str y :: e :: es)
  | .set _ _ => ⟨_, _, _, rfl⟩
  | .ask _ _ _ => ⟨_, _, _, rfl⟩
  | .fin _ _ => ⟨_, _, _, rfl⟩
theorem ne_str {x y : Str} (h : x ≠ y) : decide (V.str x = V.str y) = false := decide_eq_false fun e => h (V.str.inj e)
theorem eqv_unit (d : PyData) (ds : List PyData) : PyData.eqv (.tuple (d :: ds)) (.tuple []) = false := by simp [PyData.eqv, PyData.eqvAll]
section
variable {P : Program} {w : World} {K : PySem.W.Frag} {mg : Str → Option Value} {base : Heap}
theorem ok_is_statement (T : TX K mg) {k : Nat} : FnOk P w K mg base CX0 (k + 6) T.d_is_statement.f T.d_is_statement.fd P_is_statement (sp_stmt K T.C_World) := by
  have G_is_set : FnOk P w K mg base CX0 5 T.d_is_set.f T.d_is_set.fd P_is_set (sp_set K) := ok_is_set T
  have G_is_ask : FnOk P w K mg base CX0 5 T.d_is_ask.f T.d_is_ask.fd P_is_ask (sp_ask K T.C_World) := ok_is_ask T
  have G_is_end : FnOk P w K mg base CX0 5 T.d_is_end.f T.d_is_end.fd P_is_end (sp_end K) := ok_is_end T
  refine T.d_is_statement.F.ok sc_is_statement (fun vs H Q E h => ?_) (fun cdv A outer s H vs Q E hr h => ?_)
  · obtain ⟨_, _, _, _, _, _, rfl, _⟩ := h
    rfl
  · obtain ⟨x, many, places, v, rs, st, rfl, hW, hWo, hv, hok, hm, hp, q⟩ := h
    have hu64 := hr.units
    obtain ⟨hf, hd⟩ := sta_fine hWo hm hp hok
    have hsh := shaped_of hf hd
    obtain ⟨y, e1, es, hst⟩ := sta_tup st
    have hv0 := hv
    rw [hst] at hv0
    obtain ⟨a, xs, rfl, ha, hxs⟩ := hv0.tupI
    obtain ⟨x0, xs', rfl, h0, hxs'⟩ := hxs.invD
    cases h0.strI
    refine ⟨_, (pss_cons (ps_if (PW.pt (pw_or (pt_not (pt_val (pe_callB (r := rIsi K) call_isi (by rfl) T.b_isinstance bt_isinstance (pa_cons (pv 3) (pa_cons (pe_ty T.b_tuple bt_tuple) pa_nil))))) (pw_or (pt_cmpR (r := rEqG K) (op_eqG hu64) (pv 3) (pe_tup pa_nil) (nomark _)) (pw_or1 (pt_not (pt_val (pe_callB (r := rIsi K) call_isi (by rfl) T.b_isinstance bt_isinstance (pa_cons (pe_ix (r := rIx K) ix_seq (pv 3) pe_int (fun _ _ => rfl)) (pa_cons (pe_ty T.b_str bt_str) pa_nil))))))))) (pss_one (ps_ret pe_bl)) pss_nil) (pss_cons (ps_if (pt_cmpR (r := rEqG K) (op_eqG hu64) (pe_ix (r := rIx K) ix_seq (pv 3) pe_int (fun _ _ => rfl)) pe_str (nomark _)) (pss_one (ps_ret (pe_call G_is_set (hr.mono (by omega)) rfl T.d_is_set.g T.d_is_set.F.kp T.d_is_set.b .nil pass0 (pa_cons (pv 1) (pa_cons (pv 2) (pa_cons (pv 3) pa_nil)))))) pss_nil) (pss_cons (ps_if (pt_cmpR (r := rEqG K) (op_eqG hu64) (pe_ix (r := rIx K) ix_seq (pv 3) pe_int (fun _ _ => rfl)) pe_str (nomark _)) (pss_one (ps_ret (pe_call G_is_ask (hr.mono (by omega)) rfl T.d_is_ask.g T.d_is_ask.F.kp T.d_is_ask.b .nil pass0 (pa_cons (pv 0) (pa_cons (pv 1) (pa_cons (pv 2) (pa_cons (pv 3) pa_nil))))))) pss_nil) (pss_one (ps_ret (pe_and (pe_cmpR (r := rEqG K) (op_eqG hu64) (pe_ix (r := rIx K) ix_seq (pv 3) pe_int (fun _ _ => rfl)) pe_str (nomark _)) (pe_one (pe_call G_is_end (hr.mono (by omega)) rfl T.d_is_end.g T.d_is_end.F.kp T.d_is_end.b .nil pass0 (pa_cons (pv 1) (pa_cons (pv 3) pa_nil)))))))))), ?_⟩
    refine ⟨.ref a, rfl, ?_⟩
    walk_at "nn"
    refine ⟨_, _, _, _, true, rfl, .ty "tuple", tyx_sqT ha, kit_ty (by decide +kernel), ?_⟩
    refine ⟨_, rfl, ?_⟩
    refine ⟨.ref a, rfl, Nat.zero_le _, fun p1 np1 => ?_⟩
    have m1 : Mv [] H (upd H p1 (.tup [])) := .new np1
    refine Or.inr ⟨_, .tuple [], (hv.mv m1).dp, .tup (.inl (.inl upd_same)) .nil, hsh, rfl, _, rfl, ?_⟩
    rw [hst, eqv_unit]
    generalize upd H p1 (.tup []) = H1 at m1 ⊢
    refine ⟨.ref a, rfl, rd_ixT (m1.sqT ha) (by decide) (v := .str y) rfl ?_⟩
    walk_at "nn"
    refine ⟨_, _, _, _, true, rfl, .ty "str", .base (.str _), kit_ty (by decide +kernel), ?_⟩
    refine ⟨_, rfl, ?_⟩
    refine ⟨.ref a, rfl, rd_ixT (m1.sqT ha) (by decide) (v := .str y) rfl ?_⟩
    refine Or.inl ⟨rfl, _, rfl, ?_⟩
    cases st with
    | set chs goal =>
      have hy : y = "set" := by simp only [Sta.d, PyData.tuple.injEq, List.cons.injEq, PyData.str.injEq] at hst; exact hst.1.symm
      subst hy
      rw [show decide (V.str "set" = V.str "set") = true from decide_eq_true rfl]
      exact ⟨.int many, rfl, .int places, rfl, .ref a, rfl, many, places, .ref a, chs, goal, rfl, hv.mv m1, hok.1, hok.2.1, hok.2.2, fun H2 m2 => q H2 (m1.trans m2)⟩
    | ask act ts ways =>
      have hy : y = "ask" := by simp only [Sta.d, PyData.tuple.injEq, List.cons.injEq, PyData.str.injEq] at hst; exact hst.1.symm
      subst hy
      obtain ⟨r, hrs, rfl, hak⟩ := hok
      rw [ne_str (by decide +kernel)]
      refine ⟨.ref a, rfl, rd_ixT (m1.sqT ha) (by decide) (v := .str "ask") rfl ?_⟩
      refine Or.inl ⟨rfl, _, rfl, ?_⟩
      rw [show decide (V.str "ask" = V.str "ask") = true from decide_eq_true rfl]
      exact ⟨.ref x, rfl, .int many, rfl, .int places, rfl, .ref a, rfl, x, many, places, .ref a, rs, r, ts, ways, rfl, hW.mv m1, hWo, hrs, hv.mv m1, hak, fun H2 m2 => q H2 (m1.trans m2)⟩
    | fin word ts =>
      have hy : y = "end" := by simp only [Sta.d, PyData.tuple.injEq, List.cons.injEq, PyData.str.injEq] at hst; exact hst.1.symm
      subst hy
      rw [ne_str (by decide +kernel)]
      refine ⟨.ref a, rfl, rd_ixT (m1.sqT ha) (by decide) (v := .str "end") rfl ?_⟩
      refine Or.inl ⟨rfl, _, rfl, ?_⟩
      rw [ne_str (by decide +kernel)]
      refine ⟨.ref a, rfl, rd_ixT (m1.sqT ha) (by decide) (v := .str "end") rfl ?_⟩
      refine Or.inl ⟨rfl, _, rfl, ?_⟩
      rw [show decide (V.str "end" = V.str "end") = true from decide_eq_true rfl]
      exact ⟨.int many, rfl, .ref a, rfl, many, .ref a, word, ts, rfl, hv.mv m1, hok.1, hok.2.1, hok.2.2, fun H2 m2 => q H2 (m1.trans m2)⟩
end
end Fm
namespace Fm
open PySem PySem.Spec PyProof.Rows L2 SlX
local macro_rules | `(tactic| walk_at "nn") => `(tactic| dsimp only [tC, tNil, tCons, tCB, tCall, gName, tSeq, tAsg, tPar, tDrop, tRet])
local macro_rules | `(tactic| walk_at "nc") => `(tactic| dsimp only [tC, tNil, tCons, tCB, tCall])
def sp_first_of (K : PySem.W.Frag) : Sp := fun vs H Q _ => ∃ (a : Addr) (x : V) (xs : List V), vs = [.ref a] ∧ SqT K H a (x :: xs) ∧ Q x H
def sp_ordered (K : PySem.W.Frag) : Sp := fun vs H Q _ => ∃ (v : V) (st : Sta), vs = [v] ∧ Im K H v st.d ∧ st.keyed ∧ ∀ v' H', Mv [] H H' → Im K H' v' st.ord.d → Q v' H'
/-- t[:3] of a tuple of four -/
theorem rd_sl3 {K : PySem.W.Frag} {H : Hp} {Q : VK} {a : Addr} {x y z u : V} (ha : SqT K H a [x, y, z, u]) (h : ∀ p H', Mv [] H H' → SqT K H' p [x, y, z] → Q (.ref p) H') : rSlG K (.ref a) none (some 3) H Q := by
  refine rd_slT ha fun p H' m e => h p H' m ?_
  rw [show (some 3 : Option Int) = some ((3 : Nat) : Int) from rfl, cut_hi] at e
  exact e
section
variable {P : Program} {w : World} {K : PySem.W.Frag} {mg : Str → Option Value} {base : Heap}
theorem ok_first_of (T : TX K mg) {k : Nat} : FnOk P w K mg base CX0 (k + 1) T.d_first_of.f T.d_first_of.fd P_first_of (sp_first_of K) := by
  refine T.d_first_of.F.ok sc_first_of (fun vs H Q E h => ?_) (fun cdv A outer s H vs Q E hr h => ?_)
  · obtain ⟨_, _, _, rfl, _⟩ := h
    rfl
  · obtain ⟨a, x, xs, rfl, ha, q⟩ := h
    refine ⟨_, (pss_one (ps_ret (pe_ix (r := rIx K) ix_seq (pv 0) pe_int (fun _ _ => rfl)))), ?_⟩
    exact ⟨.ref a, rfl, rd_ixT ha (by decide) (v := x) rfl q⟩
theorem ok_ordered (T : TX K mg) {k : Nat} : FnOk P w K mg base CX0 (k + 4) T.d_ordered.f T.d_ordered.fd P_ordered (sp_ordered K) := by
  have G_first_of : FnOk P w K mg base CX0 1 T.d_first_of.f T.d_first_of.fd P_first_of (sp_first_of K) := ok_first_of T
  refine T.d_ordered.F.ok sc_ordered (fun vs H Q E h => ?_) (fun cdv A outer s H vs Q E hr h => ?_)
  · obtain ⟨_, _, rfl, _⟩ := h
    rfl
  · obtain ⟨v, st, rfl, hv, hk, q⟩ := h
    have hu64 := hr.units
    refine ⟨_, (pss_cons (ps_if (pt_cmpR (r := rEqG K) (op_eqG hu64) (pe_ix (r := rIx K) ix_seq (pv 0) pe_int (fun _ _ => rfl)) pe_str (nomark _)) (pss_one (ps_ret (pe_tup (pa_cons pe_str (pa_cons (pe_callTy (r := rTupOf K) call_tupG (by rfl) T.b_tuple bt_tuple (pa_cons (pe_callBK (r := rSortK K T.d_first_of.f (sp_first_of K)) (cr_sortKey (fnR_of G_first_of T.d_first_of.b) (hr.mono (by omega))) (by rfl) T.b_sorted bt_sorted (pa_cons (pe_ix (r := rIx K) ix_seq (pv 0) pe_int (fun _ _ => rfl)) pa_nil) (pk_cons (pe_glob rfl T.d_first_of.g (show L2.RelV (.ref T.d_first_of.f) _ from rfl)) pk_nil)) pa_nil)) (pa_cons (pe_ix (r := rIx K) ix_seq (pv 0) pe_int (fun _ _ => rfl)) pa_nil)))))) pss_nil) (pss_cons (ps_if (pt_cmpR (r := rEqG K) (op_eqG hu64) (pe_ix (r := rIx K) ix_seq (pv 0) pe_int (fun _ _ => rfl)) pe_str (nomark _)) (pss_one (ps_ret (pe_op (r := rAddG K) op_addG (pe_slice (r := rSlG K) sl_G (pv 0) po_none (po_some pe_int)) (pe_tup (pa_cons (pe_callTy (r := rTupOf K) call_tupG (by rfl) T.b_tuple bt_tuple (pa_cons (pe_callBK (r := rSortK K T.d_first_of.f (sp_first_of K)) (cr_sortKey (fnR_of G_first_of T.d_first_of.b) (hr.mono (by omega))) (by rfl) T.b_sorted bt_sorted (pa_cons (pe_ix (r := rIx K) ix_seq (pv 0) pe_int (fun _ _ => rfl)) pa_nil) (pk_cons (pe_glob rfl T.d_first_of.g (show L2.RelV (.ref T.d_first_of.f) _ from rfl)) pk_nil)) pa_nil)) pa_nil))))) pss_nil) (pss_one (ps_ret (pv 0))))), ?_⟩
    cases st with
    | set chs goal =>
      obtain ⟨a, x0, x1, x2, rfl, ha, h0, h1, h2⟩ := hv.tup3
      cases h0.strI
      cases h2.intI
      obtain ⟨a1, xs, rfl, ha1, hxs⟩ := h1.tupI
      refine ⟨.ref a, rfl, rd_ixT ha (by decide) (v := .str "set") rfl ?_⟩
      refine Or.inl ⟨rfl, _, rfl, ?_⟩
      rw [show decide (V.str "set" = V.str "set") = true from decide_eq_true rfl]
      refine ⟨.ref a, rfl, rd_ixT ha (by decide) (v := .ref a1) rfl ?_⟩
      have hl := hxs.length
      rw [List.length_map] at hl
      refine ⟨a1, xs, chs.map fun c => V.int c.1, rfl, rfl, .inr ha1, by rw [List.length_map]; omega, .inl ⟨chs.map (·.1), by rw [List.map_map]; rfl⟩, fun i y c hy hc Q' q' => ?_, fun ps p H1 hpm hpw np keep hp => ?_⟩
      · rw [List.getElem?_map] at hc
        obtain ⟨c, hc', rfl⟩ := Option.map_eq_some_iff.mp hc
        obtain ⟨d, hd, him⟩ := hxs.get hy
        rw [List.getElem?_map, hc'] at hd
        cases hd
        obtain ⟨ac, y0, y1, rfl, hac, k0, k1⟩ := him.tup2
        rw [k0.intI] at hac
        exact ⟨ac, _, _, rfl, hac, q'⟩
      · have m1 : Mv [] H H1 := .of_same keep
        have hI := sorted_rows (D := chD) (key := fun c : Int × Tm => c.1) (mk := V.int) (kf := kI) totZ (fun _ => rfl) (fun i j h => by
          have : decide (j < i) = false := h
          exact decide_eq_true (by have := of_decide_eq_false this; omega)) hxs hk.1 hpm hpw
        walk_at "nc"
        refine rd_tupOf (.inl (.inl hp)) fun p2 H2 m2 e2 => ?_
        have m02 := m1.trans m2
        refine ⟨.ref a, rfl, rd_ixT (m02.sqT ha) (by decide) (v := .int goal) rfl ?_⟩
        refine ⟨(by decide : 3 ≤ sizeLine), fun p3 np3 => ?_⟩
        refine q (.ref p3) _ (m02.trans (.new np3)) ?_
        have m23 : Mv [] H2 (upd H2 p3 (.tup [.str "set", .ref p2, .int goal])) := .new np3
        exact .tup (.inl (.inl upd_same)) (.cons (.str _) (.cons (.tup (m23.sqT e2) (hI.mv (m02.trans m23))) (.cons (.int _) .nil)))
    | ask act ts ways =>
      obtain ⟨a, x0, x1, x2, x3, rfl, ha, h0, h1, h2, h3⟩ := hv.tup4
      cases h0.strI
      obtain ⟨a3, xs, rfl, ha3, hxs⟩ := h3.tupI
      refine ⟨.ref a, rfl, rd_ixT ha (by decide) (v := .str "ask") rfl ?_⟩
      refine Or.inl ⟨rfl, _, rfl, ?_⟩
      rw [ne_str (by decide +kernel)]
      refine ⟨.ref a, rfl, rd_ixT ha (by decide) (v := .str "ask") rfl ?_⟩
      refine Or.inl ⟨rfl, _, rfl, ?_⟩
      rw [show decide (V.str "ask" = V.str "ask") = true from decide_eq_true rfl]
      refine ⟨.ref a, rfl, 3, rfl, rd_sl3 ha fun p0 H0 m0 e0 => ?_⟩
      refine ⟨.ref a, rfl, rd_ixT (m0.sqT ha) (by decide) (v := .ref a3) rfl ?_⟩
      have hl := hxs.length
      rw [List.length_map] at hl
      refine ⟨a3, xs, ways.map fun c => V.str c.1, rfl, rfl, .inr (m0.sqT ha3), by rw [List.length_map]; omega, .inr ⟨ways.map (·.1), by rw [List.map_map]; rfl⟩, fun i y c hy hc Q' q' => ?_, fun ps p H1 hpm hpw np keep hp => ?_⟩
      · rw [List.getElem?_map] at hc
        obtain ⟨c, hc', rfl⟩ := Option.map_eq_some_iff.mp hc
        obtain ⟨d, hd, him⟩ := hxs.get hy
        rw [List.getElem?_map, hc'] at hd
        cases hd
        obtain ⟨ac, y0, y1, y2, rfl, hac, k0, k1, k2⟩ := (him.mv m0).tup3
        rw [k0.strI] at hac
        exact ⟨ac, _, _, rfl, hac, q'⟩
      · have m1 : Mv [] H0 H1 := .of_same keep
        have hI := sorted_rows (D := wayD) (key := fun c : Str × List Int × Int => c.1) (mk := V.str) (kf := kS) totS (fun _ => rfl) (fun i j h => by
          have : decide (j.cps.toList < i.cps.toList) = false := h
          unfold leS
          rw [this]
          rfl) hxs hk.1 hpm hpw
        walk_at "nc"
        refine rd_tupOf (.inl (.inl hp)) fun p2 H2 m2 e2 => ?_
        have m02 := (m0.trans m1).trans m2
        refine ⟨(by decide : 1 ≤ sizeLine), fun p3 np3 => ?_⟩
        have m23 : Mv [] H2 (upd H2 p3 (.tup [.ref p2])) := .new np3
        have e3 : SqT K (upd H2 p3 (.tup [.ref p2])) p3 [.ref p2] := .inl (.inl upd_same)
        generalize upd H2 p3 (.tup [.ref p2]) = H3 at m23 e3 ⊢
        refine rd_cat (m23.sqT (m2.sqT (m1.sqT e0))) e3 (by decide : 4 ≤ sizeLine) fun p4 H4 m4 e4 => ?_
        have m04 := m02.trans (m23.trans m4)
        exact q (.ref p4) _ m04 (.tup e4 (.cons (.str _) (.cons (h1.mv m04) (.cons (h2.mv m04) (.cons (.tup ((m23.trans m4).sqT e2) (hI.mv m04)) .nil)))))
    | fin word ts =>
      obtain ⟨a, x0, x1, x2, rfl, ha, h0, h1, h2⟩ := hv.tup3
      cases h0.strI
      refine ⟨.ref a, rfl, rd_ixT ha (by decide) (v := .str "end") rfl ?_⟩
      refine Or.inl ⟨rfl, _, rfl, ?_⟩
      rw [ne_str (by decide +kernel)]
      refine ⟨.ref a, rfl, rd_ixT ha (by decide) (v := .str "end") rfl ?_⟩
      refine Or.inl ⟨rfl, _, rfl, ?_⟩
      rw [ne_str (by decide +kernel)]
      exact ⟨.ref a, rfl, q (.ref a) H .refl hv⟩
end
end Fm
namespace Fm
open PySem PySem.Spec PyProof.Rows L2 SlX
local macro_rules | `(tactic| walk_at "nn") => `(tactic| dsimp only [tC, tNil, tCons, tCB, tCall, gName, tSeq, tAsg, tPar, tDrop, tRet])
local macro_rules | `(tactic| walk_at "nc") => `(tactic| dsimp only [tC, tNil, tCons, tCB, tCall])
theorem kitOne_self {K : PySem.W.Frag} (C : Addr) : PySem.W.kitOne K (.ref C) (.ref C) = some true := by
  unfold PySem.W.kitOne
  rw [if_pos (by simp)]
section
variable {H0 H : Hp} {x dx C : Addr} {vs : List (Option V)}
theorem Mv.sl (m : Mv [] H0 H) (nx : H0 x = none) (ndx : H0 dx = none) : Mv [] H0 (slH H x C dx vs) := by
  unfold slH
  exact (m.wr ndx).wr nx
theorem Mv.slP {u u2 : HO} (hne : dx ≠ x) (hx : H x = some u) (h1 : ∀ xs, u ≠ .tup xs) (h2 : ∀ o xs, u ≠ .frz o (.tup xs)) (hd : H dx = some u2) (h3 : ∀ xs, u2 ≠ .tup xs) (h4 : ∀ o xs, u2 ≠ .frz o (.tup xs)) : Mv [x, dx] H (slH H x C dx vs) := by
  have m1 : Mv [x, dx] H (upd H dx (.xd [])) := (Mv.put hd h3 h4).mono (by simp)
  have m2 : Mv [x, dx] (upd H dx (.xd [])) (slH H x C dx vs) := (Mv.put (u := u) (by rw [upd_ne hne.symm]; exact hx) h1 h2).mono (by simp)
  exact m1.trans m2
theorem slH_x : slH H x C dx vs x = some (SlO x C dx vs) := upd_same
theorem slH_dx (hne : dx ≠ x) : slH H x C dx vs dx = some (.xd []) := by
  unfold slH
  rw [upd_ne hne]
  exact upd_same
theorem slO_notup {xs : List V} : SlO x C dx vs ≠ .tup xs := fun z => by
  unfold SlO at z
  cases z
theorem slO_nofrz {o : Obj} {xs : List V} : SlO x C dx vs ≠ .frz o (.tup xs) := fun z => by
  unfold SlO at z
  cases z
theorem Mv.slA (hne : dx ≠ x) (hx : H x = some (.ins C dx [])) (hd : H dx = some (.own x)) {us : List (Option V)} : Mv [x, dx] H (slH H x C dx us) := .slP hne hx (fun _ z => by cases z) (fun _ _ z => by cases z) hd (fun _ z => by cases z) (fun _ _ z => by cases z)
theorem Mv.slB (hne : dx ≠ x) (hx : H x = some (SlO x C dx vs)) (hd : H dx = some (.xd [])) {us : List (Option V)} : Mv [x, dx] H (slH H x C dx us) := .slP hne hx (fun _ => slO_notup) (fun _ _ => slO_nofrz) hd (fun _ z => by cases z) (fun _ _ z => by cases z)
end
/-- a Code at x over the World at wx -/
def CodAt (K : PySem.W.Frag) (H : Hp) (C CW x wx : Addr) (rs : List ActR) (many given : Int) (sts : List Sta) : Prop := ∃ dx l xs, Slt H x C dx [some (.int given), some (.ref l), some (.int many), some (.ref wx)] ∧ WldAt K H CW wx rs ∧ H l = some (.lst xs) ∧ Ims K H xs (sts.map Sta.d)
/-- the same, its list of statements at l -/
def CodL (K : PySem.W.Frag) (H : Hp) (C CW l x wx : Addr) (rs : List ActR) (many given : Int) (sts : List Sta) : Prop := ∃ dx xs, Slt H x C dx [some (.int given), some (.ref l), some (.int many), some (.ref wx)] ∧ WldAt K H CW wx rs ∧ H l = some (.lst xs) ∧ Ims K H xs (sts.map Sta.d)
theorem CodL.at_ {K : PySem.W.Frag} {H : Hp} {C CW l x wx : Addr} {rs : List ActR} {many given : Int} {sts : List Sta} : CodL K H C CW l x wx rs many given sts → CodAt K H C CW x wx rs many given sts := fun ⟨dx, xs, h⟩ => ⟨dx, l, xs, h⟩
theorem Slt.put {H : Hp} {p a C dx : Addr} {o : HO} {zs : List V} {vs : List (Option V)} (h : Slt H a C dx vs) (hp : H p = some (.lst zs)) : Slt (upd H p o) a C dx vs := by
  have ne : ∀ {q u}, H q = some u → (∀ xs, u ≠ .lst xs) → q ≠ p := fun e n z => by
    subst z
    rw [hp] at e
    exact n _ (Option.some.inj e).symm
  rcases h with ⟨h1, h2⟩ | ⟨h1, h2⟩
  · exact .inl ⟨by rw [upd_ne (ne h1 (fun _ z => by cases z))]; exact h1, h2⟩
  · exact .inr ⟨by rw [upd_ne (ne h1 slO_nolst)]; exact h1, by rw [upd_ne (ne h2 (fun _ z => by cases z))]; exact h2⟩
theorem CodL.put {K : PySem.W.Frag} {H : Hp} {C CW l x wx p : Addr} {o : HO} {zs : List V} {rs : List ActR} {many given : Int} {sts : List Sta} (h : CodL K H C CW l x wx rs many given sts) (hp : H p = some (.lst zs)) (hl : l ≠ p) (hW : WldAt K (upd H p o) CW wx rs) : CodL K (upd H p o) C CW l x wx rs many given sts := by
  obtain ⟨dx, xs, h1, _, h3, h4⟩ := h
  exact ⟨dx, xs, Slt.put h1 hp, hW, by rw [upd_ne hl]; exact h3, h4.mv (Mv.set (S := [p]) hp (by simp))⟩
theorem Bag.ne_sta {K : PySem.W.Frag} {H : Hp} {b l : Addr} {xs : List V} {sts : List Sta} (hB : Bag H b) (hl : H l = some (.lst xs)) (hx : Ims K H xs (sts.map Sta.d)) : l ≠ b := by
  rintro rfl
  obtain ⟨c, s, m, k, ns, h1, _⟩ := hB
  rw [h1] at hl
  have := Option.some.inj hl
  injection this with this
  subst this
  cases sts with
  | nil => have := hx.nilD; cases this
  | cons st sts =>
    obtain ⟨v, vs, e, h2, _⟩ := hx.invD
    cases e
    obtain ⟨y, e1, es, hst⟩ := sta_tup st
    rw [hst] at h2
    obtain ⟨a, xs, e, _⟩ := h2.tupI
    cases e
section
variable {K : PySem.W.Frag} {H H' : Hp} {b C CW x wx : Addr} {rs : List ActR} {many given : Int} {sts : List Sta}
theorem CodAt.mv (h : CodAt K H C CW x wx rs many given sts) (m : Mv [] H H') : CodAt K H' C CW x wx rs many given sts := by
  obtain ⟨dx, l, xs, h1, h2, h3, h4⟩ := h
  exact ⟨dx, l, xs, Slt.mv h1 m, h2.mv m, m.same _ _ h3, h4.mv m⟩
theorem CodL.dr {l : Addr} (h : CodL K H C CW l x wx rs many given sts) (m : Dr b H H') (hB : Bag H b) : CodL K H' C CW l x wx rs many given sts := by
  obtain ⟨dx, xs, h1, h2, h3, h4⟩ := h
  exact ⟨dx, xs, Slt.dr h1 m hB, h2.dr m hB, m.get (hB.ne_sta h3 h4) h3, h4.mv m.mv⟩
theorem CodAt.dr (h : CodAt K H C CW x wx rs many given sts) (m : Dr b H H') (hB : Bag H b) : CodAt K H' C CW x wx rs many given sts := by
  obtain ⟨dx, l, xs, h1, h2, h3, h4⟩ := h
  exact ⟨dx, l, xs, Slt.dr h1 m hB, h2.dr m hB, m.get (hB.ne_sta h3 h4) h3, h4.mv m.mv⟩
end
def sp_Code (K : PySem.W.Frag) (C CW : Addr) : Sp := fun vs H Q _ => ∃ (x dx wx sl : Addr) (rs : List ActR) (many given : Int) (xs : List V) (sts : List Sta) (H0 : Hp), vs = [.ref x, .ref wx, .int many, .int given, .ref sl] ∧ H = upd (upd H0 dx (.own x)) x (.ins C dx []) ∧ H0 x = none ∧ H0 dx = none ∧ dx ≠ x ∧
  WldAt K H0 CW wx rs ∧ WOk rs ∧ 0 ≤ many ∧ many ≤ 24 ∧ 0 ≤ given ∧ given ≤ many ∧ (H0 sl = some (.lst xs) ∨ SqT K H0 sl xs) ∧ Ims K H0 xs (sts.map Sta.d) ∧ (∀ st ∈ sts, st.ok rs many sts.length) ∧ 0 < sts.length ∧ sts.length ≤ 1000 ∧
  ∀ l H', Mv [] H0 H' → H0 l = none → CodL K H' C CW l x wx rs many given (sts.map Sta.ord) → Q .non H'
theorem Mv.seq {K : PySem.W.Frag} {H H' : Hp} {a : Addr} {xs : List V} (m : Mv [] H H') (h : SqL K H a xs ∨ SqT K H a xs) : SqL K H' a xs ∨ SqT K H' a xs := h.imp (fun h => m.same.seq h) fun h => m.sqT h
section
variable {P : Program} {w : World} {K : PySem.W.Frag} {mg : Str → Option Value} {base : Heap}
theorem ok_Code___init__ (T : TX K mg) {k : Nat} : FnOk P w K mg base CX0 (k + 7) T.d_Code___init__.f T.d_Code___init__.fd P_Code___init__ (sp_Code K T.C_Code T.C_World) := by
  have G_is_integer : FnOk P w K mg base CX0 1 T.d_is_integer.f T.d_is_integer.fd P_is_integer (sp_kind K isWhole) := ok_is_integer T
  have G_is_statement : FnOk P w K mg base CX0 6 T.d_is_statement.f T.d_is_statement.fd P_is_statement (sp_stmt K T.C_World) := ok_is_statement T
  have G_ordered : FnOk P w K mg base CX0 4 T.d_ordered.f T.d_ordered.fd P_ordered (sp_ordered K) := ok_ordered T
  refine T.d_Code___init__.F.ok sc_Code___init__ (fun vs H Q E h => ?_) (fun cdv A outer s H vs Q E hr h => ?_)
  · obtain ⟨_, _, _, _, _, _, _, _, _, _, rfl, _⟩ := h
    rfl
  · obtain ⟨x, dx, wx, sl, rs, many, given, xs, sts, H0, rfl, eH, nx, ndx, hne, hW0, hWo, hm0, hm1, hg0, hg1, hS0, hxs0, hok, hl0, hl1, q⟩ := h
    have hu65 := hu65_of hr
    have hu64 := hr.units
    refine ⟨_, (pss_cons (ps_set (i := 5) sc_Code___init__.nd rfl (Or.inl rfl) (pe_lst (pa_cons (pe_callB (r := rIsiSl K (.ref T.C_World)) (call_isiSl (.ref T.C_World)) (by rfl) T.b_isinstance bt_isinstance (pa_cons (pv 1) (pa_cons (pe_glob rfl T.g_World (show L2.RelV (.ref T.C_World) _ from rfl)) pa_nil))) (pa_cons (pe_and (pe_call G_is_integer (hr.mono (by omega)) rfl T.d_is_integer.g T.d_is_integer.F.kp T.d_is_integer.b .nil pass0 (pa_cons (pv 2) pa_nil)) (pe_one (pe_chain op_le op_le pe_int (pv 2) (pe_glob rfl T.c_MOST_VARIABLES T.r_MOST_VARIABLES)))) pa_nil)))) (pss_cons (ps_expr (pe_bm PySem.F.plainAttrs_list PySem.F.slot_list_append PySem.F.type_list_append mt_append (pv 5) (pa_cons (pe_and (pe_call G_is_integer (hr.mono (by omega)) rfl T.d_is_integer.g T.d_is_integer.F.kp T.d_is_integer.b .nil pass0 (pa_cons (pv 3) pa_nil)) (pe_and (pe_cmpR op_le pe_int (pv 3) (nomark _)) (pe_one (pe_or (pe_not (pe_ix (r := rIx K) ix_seq (pv 5) pe_int (fun _ _ => rfl))) (pe_one (pe_cmpR op_le (pv 3) (pv 2) (nomark _))))))) pa_nil))) (pss_cons (ps_expr (pe_bm PySem.F.plainAttrs_list PySem.F.slot_list_append PySem.F.type_list_append mt_append (pv 5) (pa_cons (pe_and (pe_callB (r := rIsiT K) call_isiT (by rfl) T.b_isinstance bt_isinstance (pa_cons (pv 4) (pa_cons (pe_tup (pa_cons (pe_ty T.b_list bt_list) (pa_cons (pe_ty T.b_tuple bt_tuple) pa_nil))) pa_nil))) (pe_one (pe_cmpR op_gt (pe_callB (r := rLenG K) call_lenG (by rfl) T.b_len bt_len (pa_cons (pv 4) pa_nil)) pe_int (nomark _)))) pa_nil))) (pss_cons (ps_if (pt_cmpR (r := rInG K) (op_inG hu65) pe_bl (pv 5) rfl) (pss_one ps_never) pss_nil) (pss_cons (ps_for PassesOwn.never rfl (pi_enumG (by rfl) T.b_enumerate (pa_cons (pv 4) pa_nil)) (pg_tup rfl (pgs_cons (pg_name (i := 6) sc_Code___init__.nd rfl (Or.inl rfl)) (pgs_cons (pg_name (i := 7) sc_Code___init__.nd rfl (Or.inl rfl)) pgs_nil))) (pss_one (ps_if (pt_not (pt_val (pe_call G_is_statement (hr.mono (by omega)) rfl T.d_is_statement.g T.d_is_statement.F.kp T.d_is_statement.b .nil pass0 (pa_cons (pv 1) (pa_cons (pv 2) (pa_cons (pe_callB (r := rLenG K) call_lenG (by rfl) T.b_len bt_len (pa_cons (pv 4) pa_nil)) (pa_cons (pv 7) pa_nil))))))) (pss_one ps_never) pss_nil))) (pss_cons (ps_asg (pe_tup (pa_cons (pv 1) (pa_cons (pv 2) (pa_cons (pv 3) pa_nil)))) (pg_tup rfl (pgs_cons (pg_sl (pv 0)) (pgs_cons (pg_sl (pv 0)) (pgs_cons (pg_sl (pv 0)) pgs_nil))))) (pss_one (ps_sl (pv 0) (pe_lc (own := [("statement", 7)]) (g := gName 7) (by rfl) sc_Code___init__.nd (pi_seq (pv 4)) (blkOk_by (own := [("statement", 7)]) (N := N_Code___init__) (sc := defScope s_Code___init__) (by decide +kernel)) (fun _ _ _ _ _ => pg_name (i := 7) sc_Code___init__.nd rfl (Or.inl rfl)) (fun _ _ _ _ _ => pts_nil) (fun _ _ _ _ _ => (pe_call G_ordered (hr.mono (by omega)) rfl T.d_ordered.g T.d_ordered.F.kp T.d_ordered.b .nil pass0 (pa_cons (pv 7) pa_nil)))))))))))), ?_⟩
    have mH : Mv [] H0 H := by
      rw [eH]
      exact (Mv.new ndx).wr nx
    have hx : H x = some (.ins T.C_Code dx []) := by rw [eH]; exact upd_same
    have hdx : H dx = some (.own x) := by rw [eH, upd_ne hne]; exact upd_same
    clear eH
    have hW := hW0.mv mH
    have hS1 : H sl = some (.lst xs) ∨ SqT K H sl xs := hS0.imp (mH.same _ _) mH.sqT
    have hS : SqL K H sl xs ∨ SqT K H sl xs := hS1.imp (fun h => .inl (.inl h)) id
    obtain ⟨dw, d, zs, hs, hA, hz⟩ := id hW
    refine ⟨.ref wx, rfl, ?_⟩
    walk_at "nn"
    refine ⟨wx, T.C_World, dw, _, .ref T.C_World, true, rfl, rfl, fun _ h => h, hs, T.c_World, T.is_World, kitOne_self _, ?_⟩
    refine ⟨.int many, rfl, .int many, .int many, x, rfl, rfl, fun H1 m1 => ⟨_, rfl, .int many, rfl, 0, many, rfl, rfl, _, rfl, ?_⟩⟩
    rw [show decide ((0 : Int) ≤ many) = true from decide_eq_true hm0]
    refine ⟨many, 24, rfl, rfl, ?_⟩
    dsimp only
    rw [show decide (many ≤ (24 : Int)) = true from decide_eq_true hm1]
    refine ⟨(by decide : 2 ≤ sizeLine), fun l nl => ?_⟩
    have e2 : upd H1 l (.lst [.bl true, .bl true]) l = some (.lst [.bl true, .bl true]) := upd_same
    have m2 : Mv [] H (upd H1 l (.lst [.bl true, .bl true])) := m1.trans (.new nl)
    have nlH := m1.free nl
    generalize upd H1 l (.lst [.bl true, .bl true]) = H2 at e2 m2 ⊢
    refine ⟨.ref l, rfl, .inl ⟨rfl, _, .inl (.inl e2)⟩, ?_⟩
    refine ⟨.int given, rfl, .int given, .int given, x, rfl, rfl, fun H3 m3 => ⟨_, rfl, .int given, rfl, 0, given, rfl, rfl, _, rfl, ?_⟩⟩
    rw [show decide ((0 : Int) ≤ given) = true from decide_eq_true hg0]
    have e3 := m3.same _ _ e2
    refine ⟨.ref l, rfl, rd_ixL (.inl (.inl e3)) (by decide) (v := .bl true) rfl ?_⟩
    refine ⟨_, rfl, _, rfl, .int given, rfl, .int many, rfl, given, many, rfl, rfl, ?_⟩
    dsimp only
    rw [show decide (given ≤ many) = true from decide_eq_true hg1]
    refine ⟨l, _, _, rfl, rfl, e3, (by decide : 2 < sizeLine), ?_⟩
    have m4 : Mv [] H (upd H3 l (.lst ([.bl true, .bl true] ++ [.bl true]))) := (m2.trans m3).wr nlH
    have e4 : upd H3 l (.lst ([.bl true, .bl true] ++ [.bl true])) l = some (.lst [.bl true, .bl true, .bl true]) := upd_same
    generalize upd H3 l (.lst ([.bl true, .bl true] ++ [.bl true])) = H4 at m4 e4 ⊢
    refine ⟨.ref l, rfl, .inl ⟨rfl, _, .inl (.inl e4)⟩, ?_⟩
    have hS4 := m4.seq hS
    have hxl : xs.length = sts.length := by
      have := hxs0.length
      rwa [List.length_map] at this
    refine ⟨.ref sl, rfl, (by decide : 2 ≤ sizeLine), fun p5 np5 => ?_⟩
    have m5 : Mv [] H4 (upd H4 p5 (.tup [.ty "list", .ty "tuple"])) := .new np5
    have e5 : upd H4 p5 (.tup [.ty "list", .ty "tuple"]) p5 = some (.tup [.ty "list", .ty "tuple"]) := upd_same
    generalize upd H4 p5 (.tup [.ty "list", .ty "tuple"]) = H5 at m5 e5 ⊢
    have ty5 : ∃ t, TyX K H5 (.ref sl) t ∧ PySem.W.kitAny K t [.type "list", .type "tuple"] = some true := by
      rcases hS1 with h | h
      · exact ⟨_, .base (.lst (m5.same _ _ (m4.same _ _ h))), kitAny_cons (b := true) (kit_ty (b := "list") (by decide +kernel)) (fun z => by cases z) (fun _ => rfl)⟩
      · exact ⟨_, tyx_sqT (m5.sqT (m4.sqT h)), kitAny_cons (r := true) (kit_ty (a := "tuple") (b := "list") (r := false) (by decide +kernel)) (fun _ => kitAny_cons (b := true) (kit_ty (by decide +kernel)) (fun z => by cases z) (fun _ => rfl)) (fun z => by cases z)⟩
    obtain ⟨ty, hty, hka⟩ := ty5
    refine ⟨_, p5, _, ty, [.type "list", .type "tuple"], true, rfl, e5, .cons (.ty "list") (.cons (.ty "tuple") .nil), hty, hka, ?_⟩
    refine ⟨_, rfl, .ref sl, rfl, ?_⟩
    walk_at "nc"
    refine rd_len (m5.seq hS4) ⟨_, 0, rfl, rfl, ?_⟩
    dsimp only
    rw [show decide ((0 : Int) < ((xs.length : Nat) : Int)) = true from decide_eq_true (by omega)]
    refine ⟨l, _, _, rfl, rfl, m5.same _ _ e4, (by decide : 3 < sizeLine), ?_⟩
    have m6 : Mv [] H (upd H5 l (.lst ([.bl true, .bl true, .bl true] ++ [.bl true]))) := (m4.trans m5).wr nlH
    have e6 : upd H5 l (.lst ([.bl true, .bl true, .bl true] ++ [.bl true])) l = some (.lst [.bl true, .bl true, .bl true, .bl true]) := upd_same
    generalize upd H5 l (.lst ([.bl true, .bl true, .bl true] ++ [.bl true])) = H6 at m6 e6 ⊢
    refine ⟨.ref l, rfl, Or.inl ⟨.bool false, [.bool true, .bool true, .bool true, .bool true], .bl false, .lst (.inl (.inl e6)) (.cons (.bl _) (.cons (.bl _) (.cons (.bl _) (.cons (.bl _) .nil)))), rfl, rfl, ?_⟩⟩
    refine ⟨_, rfl, ?_⟩
    rw [show (List.any [PyData.bool true, .bool true, .bool true, .bool true] fun z => PyData.eqv z (.bool false)) = false from rfl]
    -- the loop
    refine ⟨.ref sl, rfl, sl, xs, rfl, ?_⟩
    refine for_enumG (R := True) (xs := xs) (m6.seq hS) (fun i σ H7 => ∃ y z, σ = [some (.ref x), some (.ref wx), some (.int many), some (.int given), some (.ref sl), some (.ref l), y, z] ∧ Mv [] H6 H7)
      ⟨none, none, rfl, .refl⟩ (fun i σ H7 h7 => h7.choose_spec.choose_spec.2) (fun i y t σ H7 hy h7 nt => ?_) (fun σ H7 h7 => ?_)
    · obtain ⟨y0, z0, rfl, m7⟩ := h7
      have m8 : Mv [] H7 (upd H7 t (.tup [.int (i : Nat), y])) := .new nt
      have e8 : SqT K (upd H7 t (.tup [.int (i : Nat), y])) t [.int (i : Nat), y] := .inl (.inl upd_same)
      generalize upd H7 t (.tup [.int (i : Nat), y]) = H8 at m8 e8 ⊢
      have m08 := m6.trans (m7.trans m8)
      obtain ⟨d1, hd1, him⟩ := hxs0.get hy
      rw [List.getElem?_map] at hd1
      obtain ⟨st, hst, rfl⟩ := Option.map_eq_some_iff.mp hd1
      refine ⟨t, _, rfl, e8, rfl, _, _, rfl, _, _, rfl, rfl, ?_⟩
      refine ⟨.ref wx, rfl, .int many, rfl, .ref sl, rfl, ?_⟩
      walk_at "nc"
      refine rd_len (m08.seq hS) ?_
      refine ⟨y, rfl, wx, many, _, y, rs, st, rfl, hW.mv m08, hWo, him.mv (mH.trans m08), ?_, by omega, by omega, fun H9 m9 => ⟨_, rfl, _, _, rfl, (m7.trans m8).trans m9⟩⟩
      rw [hxl]
      exact hok st (List.mem_of_getElem? hst)
    · obtain ⟨y0, z0, rfl, m7⟩ := h7
      have m07 := m6.trans m7
      refine ⟨.ref wx, rfl, .int many, rfl, .int given, rfl, (by decide : 3 ≤ sizeLine), fun p8 np8 => ?_⟩
      have m8 : Mv [] H (upd H7 p8 (.tup [.ref wx, .int many, .int given])) := m07.trans (.new np8)
      have e8 : SqT K (upd H7 p8 (.tup [.ref wx, .int many, .int given])) p8 [.ref wx, .int many, .int given] := .inl (.inl upd_same)
      generalize upd H7 p8 (.tup [.ref wx, .int many, .int given]) = H8 at m8 e8 ⊢
      refine ⟨p8, _, rfl, e8, rfl, _, _, rfl, ?_⟩
      have hx8 := m8.same _ _ hx
      have hd8 := m8.same _ _ hdx
      refine ⟨.ref x, rfl, x, T.C_Code, dx, T.p_Code_its_world, [], 3, rfl, Or.inl ⟨hx8, rfl⟩, T.c_Code, T.sl_Code_its_world, ?_⟩
      have k9 := Mv.slA hne hx8 hd8 (us := putS 3 (.ref wx) [])
      have m9 := (mH.trans m8).sl (C := T.C_Code) (vs := putS 3 (.ref wx) []) nx ndx
      have hx9 := slH_x (H := H8) (x := x) (C := T.C_Code) (dx := dx) (vs := putS 3 (.ref wx) [])
      have hd9 := slH_dx (H := H8) (C := T.C_Code) (vs := putS 3 (.ref wx) []) hne
      have hs9 := slH_slt (H := H8) (C := T.C_Code) (vs := putS 3 (.ref wx) []) hne
      generalize slH H8 x T.C_Code dx (putS 3 (.ref wx) []) = H9 at k9 m9 hx9 hd9 hs9 ⊢
      refine ⟨_, _, rfl, ?_⟩
      refine ⟨.ref x, rfl, x, T.C_Code, dx, T.p_Code_its_variables, _, 2, rfl, hs9, T.c_Code, T.sl_Code_its_variables, ?_⟩
      have m10 := m9.sl (C := T.C_Code) (vs := putS 2 (.int many) (putS 3 (.ref wx) [])) nx ndx
      have hx10 := slH_x (H := H9) (x := x) (C := T.C_Code) (dx := dx) (vs := putS 2 (.int many) (putS 3 (.ref wx) []))
      have hd10 := slH_dx (H := H9) (C := T.C_Code) (vs := putS 2 (.int many) (putS 3 (.ref wx) [])) hne
      have hs10 := slH_slt (H := H9) (C := T.C_Code) (vs := putS 2 (.int many) (putS 3 (.ref wx) [])) hne
      generalize slH H9 x T.C_Code dx (putS 2 (.int many) (putS 3 (.ref wx) [])) = H10 at m10 hx10 hd10 hs10 ⊢
      refine ⟨_, _, rfl, ?_⟩
      refine ⟨.ref x, rfl, x, T.C_Code, dx, T.p_Code_its_given, _, 0, rfl, hs10, T.c_Code, T.sl_Code_its_given, ?_⟩
      have m11 := m10.sl (C := T.C_Code) (vs := putS 0 (.int given) (putS 2 (.int many) (putS 3 (.ref wx) []))) nx ndx
      have hx11 := slH_x (H := H10) (x := x) (C := T.C_Code) (dx := dx) (vs := putS 0 (.int given) (putS 2 (.int many) (putS 3 (.ref wx) [])))
      have hd11 := slH_dx (H := H10) (C := T.C_Code) (vs := putS 0 (.int given) (putS 2 (.int many) (putS 3 (.ref wx) []))) hne
      have hs11 := slH_slt (H := H10) (C := T.C_Code) (vs := putS 0 (.int given) (putS 2 (.int many) (putS 3 (.ref wx) []))) hne
      generalize slH H10 x T.C_Code dx (putS 0 (.int given) (putS 2 (.int many) (putS 3 (.ref wx) []))) = H11 at m11 hx11 hd11 hs11 ⊢
      refine ⟨rfl, ?_⟩
      -- the statements in order
      refine ⟨.ref sl, rfl, sl, rfl, ?_⟩
      have hS11 : SqL K H11 sl xs ∨ SqT K H11 sl xs := m11.seq (hS0.imp (fun h => .inl (.inl h)) id)
      refine lc_seq (xs := xs) hS11 (fun i D H12 => ∃ ys, H12 D = some (.lst ys) ∧ Ims K H12 ys ((sts.take i).map fun st => st.ord.d) ∧ Mv [] H11 H12)
        (fun D nD => ⟨[], upd_same, Ims.nil, .new nD⟩) (fun i D H12 nD h12 => h12.choose_spec.2.2) (fun D nD i y H12 hy h12 => ?_) (fun D H12 nD h12 => ?_)
      · obtain ⟨ys, e12, i12, m12⟩ := h12
        obtain ⟨d1, hd1, him⟩ := hxs0.get hy
        rw [List.getElem?_map] at hd1
        obtain ⟨st, hst, rfl⟩ := Option.map_eq_some_iff.mp hd1
        have hi := (List.getElem?_eq_some_iff.mp hst).1
        refine ⟨rfl, y, rfl, y, st, rfl, him.mv (m11.trans m12), sta_keyed hWo (hok st (List.mem_of_getElem? hst)), fun v H13 m13 i13 => ?_⟩
        have e13 := m13.same _ _ e12
        have hw : Mv [D] H13 (upd H13 D (.lst (ys ++ [v]))) := .set e13 (by simp)
        refine ⟨ys, e13, ?_, _, upd_same, ?_, (m12.trans m13).wr nD⟩
        · rw [i12.length, List.length_map, List.length_take]
          exact Nat.lt_of_le_of_lt (show min i sts.length ≤ 1000 by omega) (by decide)
        · rw [List.take_add_one, hst, List.map_append]
          exact ((i12.mv m13).append (.cons i13 .nil)).mv hw
      · obtain ⟨ys, e12, i12, m12⟩ := h12
        rw [hxl, List.take_length] at i12
        refine ⟨.ref x, rfl, x, T.C_Code, dx, T.p_Code_its_statements, _, 1, rfl, Slt.mv hs11 m12, T.c_Code, T.sl_Code_its_statements, ?_⟩
        have hx12 := m12.same _ _ hx11
        have hd12 := m12.same _ _ hd11
        refine q D _ ((m11.trans m12).sl nx ndx) (m11.free nD) ⟨dx, ys, slH_slt hne, hW0.mv ((m11.trans m12).sl nx ndx), ?_, ?_⟩
        · rw [slH_ne (by rintro rfl; rw [hx12] at e12; exact slO_nolst ys (Option.some.inj e12)) (by rintro rfl; rw [hd12] at e12; cases e12)]
          exact e12
        · rw [List.map_map]
          exact i12.mv (Mv.slB hne hx12 hd12)
end
end Fm
namespace Fm
open PySem PySem.Spec PyProof.Rows L2 SlX
local macro_rules | `(tactic| walk_at "nn") => `(tactic| dsimp only [tC, tNil, tCons, tCB, tCall, gName, tSeq, tAsg, tPar, tDrop, tRet])
local macro_rules | `(tactic| walk_at "nc") => `(tactic| dsimp only [tC, tNil, tCons, tCB, tCall])
/-- code.statement(i): the statement, or NoPlace -/
def sp_stAt (K : PySem.W.Frag) (C CW D : Addr) : Sp := fun vs H Q E => ∃ (x wx : Addr) (rs : List ActR) (many given : Int) (sts : List Sta) (i : Int), vs = [.ref x, .int i] ∧ CodAt K H C CW x wx rs many given sts ∧
  (0 ≤ i → i < sts.length → ∀ v st H', sts[i.toNat]? = some st → Mv [] H H' → Im K H' v st.d → Q v H') ∧
  (¬ (0 ≤ i ∧ i < sts.length) → ∀ d H', Mv [] H H' → H' d = none → E (.ref D) (some d) (upd H' d (.xd [("place", .int i)])))
/-! what a place shows -/
def isSet (sts : List Sta) (p : Int) : Bool := match sts[p.toNat]? with
  | some (.set _ _) => true
  | _ => false
def stp (sts : List Sta) (p : Int) : Int := match sts[p.toNat]? with
  | some (.set _ g) => g
  | _ => p
def orb (sts : List Sta) (p : Int) : Nat → Int
  | 0 => p
  | n + 1 => stp sts (orb sts p n)
/-- r is what the place p shows -/
def Shows (sts : List Sta) (p : Int) : Option Int → Prop
  | some q => ∃ n, orb sts p n = q ∧ isSet sts q = false
  | none => ∀ n, isSet sts (orb sts p n) = true
theorem stp_no {sts : List Sta} {p : Int} (h : isSet sts p = false) : stp sts p = p := by
  unfold isSet at h
  unfold stp
  split
  · rename_i e
    rw [e] at h
    cases h
  · rfl
theorem orb_stay {sts : List Sta} {p : Int} {n : Nat} (h : isSet sts (orb sts p n) = false) : ∀ m, orb sts p (n + m) = orb sts p n
  | 0 => rfl
  | m + 1 => by
    show stp sts (orb sts p (n + m)) = _
    rw [orb_stay h m, stp_no h]
theorem shows_one {sts : List Sta} {p : Int} : ∀ {r s : Option Int}, Shows sts p r → Shows sts p s → r = s
  | none, none, _, _ => rfl
  | some q, some q', ⟨n, h1, h2⟩, ⟨m, k1, k2⟩ => by
    rcases Nat.le_total n m with h | h
    · have := orb_stay (sts := sts) (p := p) (n := n) (by rw [h1]; exact h2) (m - n)
      rw [Nat.add_sub_cancel' h, k1, h1] at this
      rw [this]
    · have := orb_stay (sts := sts) (p := p) (n := m) (by rw [k1]; exact k2) (n - m)
      rw [Nat.add_sub_cancel' h, k1, h1] at this
      rw [this]
  | some q, none, ⟨n, h1, h2⟩, k => by
    have := k n
    rw [h1, h2] at this
    cases this
  | none, some q, k, ⟨n, h1, h2⟩ => by
    have := k n
    rw [h1, h2] at this
    cases this
theorem orb_add {sts : List Sta} {p : Int} (n : Nat) : ∀ m, orb sts p (n + m) = orb sts (orb sts p n) m
  | 0 => rfl
  | m + 1 => by
    show stp sts (orb sts p (n + m)) = stp sts (orb sts (orb sts p n) m)
    rw [orb_add n m]
theorem orb_loop {sts : List Sta} {p : Int} {i n : Nat} (hi : i < n) (e : orb sts p n = orb sts p i) (h : ∀ m, m < n → isSet sts (orb sts p m) = true) : ∀ m, isSet sts (orb sts p m) = true := by
  intro m
  induction m using Nat.strongRecOn with
  | _ m ih =>
    by_cases hm : m < n
    · exact h m hm
    · have : orb sts p m = orb sts p (i + (m - n)) := by
        rw [orb_add i, ← e, ← orb_add n, Nat.add_sub_cancel' (by omega)]
      rw [this]
      exact ih _ (by omega)
theorem pigeon : ∀ {n : Nat} {xs : List Int}, xs.Nodup → (∀ x ∈ xs, 0 ≤ x ∧ x < n) → xs.length ≤ n
  | 0, xs, _, h => by
    cases xs with
    | nil => exact Nat.le_refl _
    | cons x xs =>
      have := h x (by simp)
      omega
  | n + 1, xs, nd, h => by
    have h1 : (xs.erase (n : Int)).length ≤ n := pigeon (nd.erase _) fun x hx => by
      have hx' := (nd.mem_erase_iff).mp hx
      have := h x hx'.2
      have := hx'.1
      omega
    have h2 := List.length_erase (a := (n : Int)) (l := xs)
    split at h2 <;> omega
theorem isSet_some {sts : List Sta} {p : Int} (h : isSet sts p = true) : ∃ chs g, sts[p.toNat]? = some (.set chs g) ∧ stp sts p = g := by
  unfold isSet at h
  unfold stp
  split at h
  · rename_i chs g e
    rw [e]
    exact ⟨chs, g, rfl, rfl⟩
  · cases h
def optV : Option Int → V
  | some i => .int i
  | none => .non
def sp_showing (K : PySem.W.Frag) (C CW D : Addr) : Sp := fun vs H Q E => ∃ (x wx : Addr) (rs : List ActR) (many given : Int) (sts : List Sta) (i : Int), vs = [.ref x, .int i] ∧ CodAt K H C CW x wx rs many given sts ∧ sts.length ≤ 1000 ∧ (∀ chs g, Sta.set chs g ∈ sts → 0 ≤ g ∧ g < sts.length) ∧
  (0 ≤ i → i < sts.length → ∀ r H', Shows sts i r → Mv [] H H' → Q (optV r) H') ∧
  (¬ (0 ≤ i ∧ i < sts.length) → ∀ d H', Mv [] H H' → H' d = none → E (.ref D) (some d) (upd H' d (.xd [("place", .int i)])))
section
variable {P : Program} {w : World} {K : PySem.W.Frag} {mg : Str → Option Value} {base : Heap}
theorem ok_Code_statement (T : TX K mg) (Y : TY P K mg) {k : Nat} : FnOk P w K mg base (CX P w) (k + 4) T.d_Code_statement.f T.d_Code_statement.fd P_Code_statement (sp_stAt K T.C_Code T.C_World Y.C_NoPlace) := by
  have G_is_place : FnOk P w K mg base CX0 2 T.d_is_place.f T.d_is_place.fd P_is_place (sp_place K) := ok_is_place T
  refine T.d_Code_statement.F.okX sc_Code_statement (fun vs H Q E h => ?_) (fun cdv A outer s H vs Q E hr h => ?_)
  · obtain ⟨_, _, _, _, _, _, _, rfl, _⟩ := h
    rfl
  · obtain ⟨x, wx, rs, many, given, sts, i, rfl, ⟨dx, l, xs, hs, hW, hl, hxs⟩, q1, q2⟩ := h
    refine ⟨_, (pss_cons (ps_if (pt_not (pt_val (pe_call G_is_place (hr.mono (by omega)) rfl T.d_is_place.g T.d_is_place.F.kp T.d_is_place.b .nil pass0 (pa_cons (pe_callB (r := rLenG K) call_lenG (by rfl) T.b_len bt_len (pa_cons (pe_slC (K := K) rfl (pv 0)) pa_nil)) (pa_cons (pv 1) pa_nil))))) (pss_one (ps_raise rfl (takes_of rfl rfl rfl rfl) (pmk_x Y.x_NoPlace hr (pa_cons (pv 1) pa_nil)))) pss_nil) (pss_one (ps_ret (pe_ix (r := rIx K) ix_seq (pe_slC (K := K) rfl (pv 0)) (pv 1) (fun _ _ => rfl))))), ?_⟩
    have hxl : xs.length = sts.length := by
      have := hxs.length
      rwa [List.length_map] at this
    refine ⟨.ref x, rfl, x, T.C_Code, dx, T.p_Code_its_statements, _, 1, .ref l, rfl, hs, T.c_Code, T.sl_Code_its_statements, rfl, ?_⟩
    walk_at "nc"
    refine rd_len (.inl (.inl (.inl hl))) ?_
    refine ⟨.int i, rfl, _, .int i, .int i, x, rfl, rfl, fun H1 m1 => ⟨_, rfl, ite2 (fun e => ?_) (fun e => ?_)⟩⟩
    · have hn : ¬ (0 ≤ i ∧ i < sts.length) := by
        have e' : i < 0 ∨ (xs.length : Int) ≤ i := by simpa [inPl] using e
        omega
      exact ⟨.int i, rfl, .int i, rfl, fun d nd => q2 hn d H1 m1 nd⟩
    · have hn : 0 ≤ i ∧ i < sts.length := by
        rw [← hxl]
        simpa [inPl] using e
      have hi : i.toNat < xs.length := by omega
      refine ⟨.ref x, rfl, x, T.C_Code, dx, T.p_Code_its_statements, _, 1, .ref l, rfl, Slt.mv hs m1, T.c_Code, T.sl_Code_its_statements, rfl, ?_⟩
      obtain ⟨d1, hd1, him⟩ := hxs.get (List.getElem?_eq_getElem hi)
      rw [List.getElem?_map] at hd1
      obtain ⟨st, hst, rfl⟩ := Option.map_eq_some_iff.mp hd1
      exact ⟨.int i, rfl, rd_ixL (.inl (.inl (m1.same _ _ hl))) hn.1 (v := xs[i.toNat]) (List.getElem?_eq_getElem hi) (q1 hn.1 hn.2 _ st H1 hst m1 (him.mv m1))⟩
end
end Fm
namespace Fm
open PySem PySem.Spec PyProof.Rows L2 SlX
local macro_rules | `(tactic| walk_at "nn") => `(tactic| dsimp only [tC, tNil, tCons, tCB, tCall, gName, tSeq, tAsg, tPar, tDrop, tRet])
local macro_rules | `(tactic| walk_at "nc") => `(tactic| dsimp only [tC, tNil, tCons, tCB, tCall])
theorem isSet_d {K : PySem.W.Frag} {H : Hp} {v : V} {st : Sta} {sts : List Sta} {p : Int} (hst : sts[p.toNat]? = some st) (hv : Im K H v st.d) : ∃ a y y1 ys, v = .ref a ∧ SqT K H a (.str y :: y1 :: ys) ∧ (!decide (V.str y = V.str "set")) = !isSet sts p ∧
    (isSet sts p = true → SqT K H a [.str y, y1, .int (stp sts p)]) := by
  cases st with
  | set chs g =>
    obtain ⟨a, x0, x1, x2, rfl, ha, h0, h1, h2⟩ := hv.tup3
    cases h0.strI
    cases h2.intI
    refine ⟨a, _, x1, _, rfl, ha, ?_, fun _ => ?_⟩
    · unfold isSet
      rw [hst, decide_eq_true rfl]
    · unfold stp
      rw [hst]
      exact ha
  | ask act ts ways =>
    obtain ⟨a, x0, x1, x2, x3, rfl, ha, h0, h1, h2, h3⟩ := hv.tup4
    cases h0.strI
    have e : isSet sts p = false := by unfold isSet; rw [hst]
    refine ⟨a, _, x1, _, rfl, ha, ?_, fun z => by rw [e] at z; cases z⟩
    rw [e, ne_str (by decide +kernel)]
  | fin word ts =>
    obtain ⟨a, x0, x1, x2, rfl, ha, h0, h1, h2⟩ := hv.tup3
    cases h0.strI
    have e : isSet sts p = false := by unfold isSet; rw [hst]
    refine ⟨a, _, x1, _, rfl, ha, ?_, fun z => by rw [e] at z; cases z⟩
    rw [e, ne_str (by decide +kernel)]
section
variable {P : Program} {w : World} {K : PySem.W.Frag} {mg : Str → Option Value} {base : Heap}
theorem ok_Code_showing (T : TX K mg) (Y : TY P K mg) {k : Nat} : FnOk P w K mg base (CX P w) (k + 5) T.d_Code_showing.f T.d_Code_showing.fd P_Code_showing (sp_showing K T.C_Code T.C_World Y.C_NoPlace) := by
  have G_Code_statement : FnOk P w K mg base (CX P w) 4 T.d_Code_statement.f T.d_Code_statement.fd P_Code_statement (sp_stAt K T.C_Code T.C_World Y.C_NoPlace) := ok_Code_statement T Y
  refine T.d_Code_showing.F.okX sc_Code_showing (fun vs H Q E h => ?_) (fun cdv A outer s H vs Q E hr h => ?_)
  · obtain ⟨_, _, _, _, _, _, _, rfl, _⟩ := h
    rfl
  · obtain ⟨x, wx, rs, many, given, sts, i, rfl, hC, hln, hgo, q1, q2⟩ := h
    have hu65 := hu65_of hr
    have hu64 := hr.units
    refine ⟨_, (pss_cons (ps_set (i := 2) sc_Code_showing.nd rfl (Or.inl rfl) (pe_lst pa_nil)) (pss_cons (ps_while (passes_of rfl) (pt_cmpR (r := rNotInG K) (op_notInG hu65) (pv 1) (pv 2) rfl) (pss_cons (ps_set (i := 3) sc_Code_showing.nd rfl (Or.inl rfl) (pe_methSlS (pv 0) T.c_Code T.d_Code_statement.M G_Code_statement (hr.mono (by omega)) T.d_Code_statement.b (fun σ => passAt (takes_of rfl rfl rfl rfl) σ) (pa_cons (pv 1) pa_nil))) (pss_cons (ps_if (pt_cmpR (r := rNeG K) (op_neG hu64) (pe_ix (r := rIx K) ix_seq (pv 3) pe_int (fun _ _ => rfl)) pe_str (nomark _)) (pss_one (ps_ret (pv 1))) pss_nil) (pss_cons (ps_expr (pe_bm PySem.F.plainAttrs_list PySem.F.slot_list_append PySem.F.type_list_append mt_append (pv 2) (pa_cons (pv 1) pa_nil))) (pss_one (ps_set (i := 1) sc_Code_showing.nd rfl (Or.inl rfl) (pe_ix (r := rIx K) ix_seq (pv 3) pe_int (fun _ _ => rfl)))))))) (pss_one (ps_ret pe_non)))), ?_⟩
    refine ⟨Nat.zero_le _, fun l nl => ?_⟩
    refine ⟨fun m σ H2 => ∃ (n : Nat) (y : Option V), σ = [some (.ref x), some (.int (orb sts i n)), some (.ref l), y] ∧ H2 l = some (.lst (((List.range n).map (orb sts i)).map V.int)) ∧ (∀ j, j < n → isSet sts (orb sts i j) = true ∧ 0 ≤ orb sts i j ∧ orb sts i j < sts.length) ∧
        ((List.range n).map (orb sts i)).Nodup ∧ (n ≠ 0 → 0 ≤ orb sts i n ∧ orb sts i n < sts.length) ∧ m = sts.length + 1 - n ∧ Mv [] H H2,
      ⟨_, 0, none, rfl, upd_same, fun j hj => by omega, by simp, fun z => absurd rfl z, rfl, .new nl⟩, fun m σ H2 hW => ?_⟩
    obtain ⟨n, y, rfl, e2, h2, nd2, v2, rfl, m2⟩ := hW
    have hn : n ≤ sts.length := by
      have := pigeon (n := sts.length) nd2 fun z hz => by
        obtain ⟨j, hj, rfl⟩ := List.mem_map.mp hz
        exact (h2 j (List.mem_range.mp hj)).2
      simpa using this
    refine ⟨.int (orb sts i n), rfl, .ref l, rfl, Or.inl ⟨.int (orb sts i n), _, .int _, .lst (.inl (.inl e2)) (dp_ints _), rfl, ints_shaped _, ?_⟩⟩
    rw [ints_any]
    refine ⟨_, rfl, ?_⟩
    by_cases hmem : orb sts i n ∈ (List.range n).map (orb sts i)
    · rw [decide_eq_true hmem]
      obtain ⟨j, hj, e⟩ := List.mem_map.mp hmem
      have hj' := List.mem_range.mp hj
      have hv : 0 ≤ i ∧ i < sts.length := (h2 0 (by omega)).2
      exact q1 hv.1 hv.2 none H2 (orb_loop hj' e.symm fun m hm => (h2 m hm).1) m2
    · rw [decide_eq_false hmem]
      refine ⟨fun σ' H' => ∃ m', m' < sts.length + 1 - n ∧ _, fun _ _ h => h, ?_⟩
      have hC2 := hC.mv m2
      obtain ⟨dx, l', xs, hs, hW', hl', hxs⟩ := id hC2
      refine ⟨.ref x, rfl, x, dx, _, rfl, hs, .int (orb sts i n), rfl, ?_⟩
      refine ⟨x, wx, rs, many, given, sts, orb sts i n, rfl, hC2, fun p0 p1 v st H3 hst m3 hv => ?_, fun hbad d H3 m3 nd => ?_⟩
      · have hvi : 0 ≤ i ∧ i < sts.length := by
          by_cases h0 : n = 0
          · subst h0
            exact ⟨p0, p1⟩
          · exact (h2 0 (by omega)).2
        obtain ⟨a, s0, y1, ys, rfl, ha, hd, hset⟩ := isSet_d hst hv
        refine ⟨.ref a, rfl, rd_ixT ha (by decide) (v := .str s0) rfl ?_⟩
        refine Or.inl ⟨rfl, _, rfl, ?_⟩
        rw [hd]
        by_cases hiS : isSet sts (orb sts i n) = true
        · rw [hiS]
          have e3 := m3.same _ _ e2
          refine ⟨.ref l, rfl, .inl ⟨rfl, _, .inl (.inl e3)⟩, .int (orb sts i n), rfl, l, _, _, rfl, rfl, e3, ?_, ?_⟩
          · rw [List.length_map, List.length_map, List.length_range]
            exact Nat.lt_of_le_of_lt (show n ≤ 1000 by omega) (by decide)
          have hlw : Mv [l] H3 (upd H3 l (.lst (((List.range n).map (orb sts i)).map V.int ++ [.int (orb sts i n)]))) := .set e3 (by simp)
          refine ⟨.ref a, rfl, rd_ixT (hlw.sqT (hset hiS)) (by decide) (v := .int (stp sts (orb sts i n))) rfl ?_⟩
          obtain ⟨chs, g, hg, hg'⟩ := isSet_some hiS
          have hgv := hgo chs g (List.mem_of_getElem? hg)
          refine ⟨sts.length + 1 - (n + 1), by omega, n + 1, _, rfl, ?_, fun j hj => ?_, ?_, fun _ => ?_, rfl, (m2.trans m3).wr nl⟩
          · rw [upd_same, List.range_succ]
            simp
          · by_cases hjn : j = n
            · subst hjn
              exact ⟨hiS, p0, p1⟩
            · exact h2 j (by omega)
          · rw [List.range_succ, List.map_append]
            exact nd_snoc nd2 hmem
          · show 0 ≤ stp sts (orb sts i n) ∧ stp sts (orb sts i n) < sts.length
            rw [hg']
            exact hgv
        · have hf : isSet sts (orb sts i n) = false := by simpa using hiS
          rw [hf]
          exact ⟨.int (orb sts i n), rfl, q1 hvi.1 hvi.2 (some (orb sts i n)) H3 ⟨n, rfl, hf⟩ (m2.trans m3)⟩
      · have h0 : n = 0 := by
          rcases Nat.eq_zero_or_pos n with h | h
          · exact h
          · exact absurd (v2 (by omega)) hbad
        subst h0
        exact q2 hbad d H3 (m2.trans m3) nd
end
end Fm
namespace Fm
open PySem PySem.Spec PyProof.Rows L2 SlX
local macro_rules | `(tactic| walk_at "nn") => `(tactic| dsimp only [tC, tNil, tCons, tCB, tCall, gName, tSeq, tAsg, tPar, tDrop, tRet])
local macro_rules | `(tactic| walk_at "nc") => `(tactic| dsimp only [tC, tNil, tCons, tCB, tCall])
/-- acts as they are drawn -/
structure DrawnActs (many : Int) (rs : List ActR) : Prop where
  ok : ∀ r ∈ rs, r.ok
  le : ∀ r ∈ rs, ∀ e ∈ r.outs, e.2 ≤ many
  few : rs.length ≤ 4
def sp_acts (K : PySem.W.Frag) : Sp := fun vs H Q _ => ∃ (b : Addr) (many : Int), vs = [.ref b, .int many] ∧ Bag H b ∧ 0 ≤ many ∧ many ≤ 1000000 ∧
  ∀ (d : Addr) (zs : List ActA) H', H d = none → ActsAt K H' d zs → DrawnActs many (zs.map (·.r)) → 1 ≤ zs.length → Dr b H H' → Q (.ref d) H'
theorem rd_slL {K : PySem.W.Frag} {H : Hp} {Q : VK} {a : Addr} {xs : List V} {k : Int} (ha : H a = some (.lst xs)) (h0 : 0 ≤ k) (h : ∀ p, H p = none → Q (.ref p) (upd H p (.lst (xs.take k.toNat)))) : rSlG K (.ref a) none (some k) H Q := by
  refine Or.inl ⟨a, xs, rfl, .inl (.inl ha), fun p np => ?_⟩
  rw [cutV_to h0]
  exact h p np
/-- an entry put into a dict of outcomes -/
theorem rows_put {rows : List (Str × Int)} (n : (rows.map (·.1)).Nodup) (x : Str) (i : Int) : ∃ rows' : List (Str × Int), putK (rows.map rowK) (.inr x) (.int i) = rows'.map rowK ∧ (rows'.map (·.1)).Nodup ∧ (∀ e ∈ rows', e ∈ rows ∨ e = (x, i)) ∧ rows'.length ≤ rows.length + 1 ∧ 1 ≤ rows'.length := by
  by_cases h : x ∈ rows.map (·.1)
  · refine ⟨rows.map fun e => if e.1 = x then (e.1, i) else e, ?_, ?_, ?_, by simp, ?_⟩
    · unfold putK
      have : ((rows.map rowK).any fun kv => decide (kv.1 = Sum.inr x)) = true := by
        obtain ⟨e, he, rfl⟩ := List.mem_map.mp h
        exact List.any_eq_true.mpr ⟨rowK e, List.mem_map.mpr ⟨e, he, rfl⟩, by simp⟩
      rw [if_pos this, List.map_map, List.map_map]
      refine List.map_congr_left fun e _ => ?_
      simp only [Function.comp]
      by_cases hx : e.1 = x
      · rw [if_pos hx, if_pos (by rw [hx])]
      · rw [if_neg hx, if_neg (fun z => hx (Sum.inr.inj z))]
    · rw [List.map_map]
      have : ((fun e : Str × Int => e.1) ∘ fun e : Str × Int => if e.1 = x then (e.1, i) else e) = fun e => e.1 := by
        funext e
        simp only [Function.comp]
        split <;> rfl
      rw [this]
      exact n
    · intro e he
      obtain ⟨f, hf, rfl⟩ := List.mem_map.mp he
      by_cases hx : f.1 = x
      · rw [if_pos hx]
        exact .inr (by rw [hx])
      · rw [if_neg hx]
        exact .inl hf
    · rw [List.length_map]
      obtain ⟨e, he, _⟩ := List.mem_map.mp h
      exact List.length_pos_of_mem he
  · refine ⟨rows ++ [(x, i)], ?_, ?_, ?_, by simp, by simp⟩
    · rw [putK_new (by rw [row_keys]; intro z; obtain ⟨y, hy, e⟩ := List.mem_map.mp z; cases e; exact h hy), List.map_append]
      rfl
    · rw [List.map_append]
      exact nd_snoc n h
    · intro e he
      rcases List.mem_append.mp he with he | he
      · exact .inl he
      · exact .inr (List.mem_singleton.mp he)
/-- an act put into a dict of acts -/
theorem acts_put {zs : List ActA} (n : (zs.map (·.r.nm)).Nodup) (z : ActA) : ∃ zs' : List ActA, putK (zs.map ActA.kv) (.inr z.r.nm) (.ref z.a) = zs'.map ActA.kv ∧ (zs'.map (·.r.nm)).Nodup ∧ (∀ e ∈ zs', e ∈ zs ∨ e = z) ∧ zs'.length ≤ zs.length + 1 ∧ 1 ≤ zs'.length := by
  by_cases h : z.r.nm ∈ zs.map (·.r.nm)
  · refine ⟨zs.map fun e => if e.r.nm = z.r.nm then z else e, ?_, ?_, ?_, by simp, ?_⟩
    · unfold putK
      have : ((zs.map ActA.kv).any fun kv => decide (kv.1 = Sum.inr z.r.nm)) = true := by
        obtain ⟨e, he, e2⟩ := List.mem_map.mp h
        exact List.any_eq_true.mpr ⟨e.kv, List.mem_map.mpr ⟨e, he, rfl⟩, by simp [ActA.kv, e2]⟩
      rw [if_pos this, List.map_map, List.map_map]
      refine List.map_congr_left fun e _ => ?_
      simp only [Function.comp]
      by_cases hx : e.r.nm = z.r.nm
      · rw [if_pos hx, if_pos (by simp [ActA.kv, hx])]
        simp [ActA.kv, hx]
      · rw [if_neg hx, if_neg (show ¬ e.kv.1 = Sum.inr z.r.nm from fun y => hx (Sum.inr.inj y))]
    · rw [List.map_map]
      have : ((fun e : ActA => e.r.nm) ∘ fun e : ActA => if e.r.nm = z.r.nm then z else e) = fun e => e.r.nm := by
        funext e
        simp only [Function.comp]
        split
        · rename_i hx
          exact hx.symm
        · rfl
      rw [this]
      exact n
    · intro e he
      obtain ⟨f, hf, rfl⟩ := List.mem_map.mp he
      by_cases hx : f.r.nm = z.r.nm
      · rw [if_pos hx]
        exact .inr rfl
      · rw [if_neg hx]
        exact .inl hf
    · rw [List.length_map]
      obtain ⟨e, he, _⟩ := List.mem_map.mp h
      exact List.length_pos_of_mem he
  · refine ⟨zs ++ [z], ?_, ?_, ?_, by simp, by simp⟩
    · rw [putK_new (by rw [kv_keys]; intro y; obtain ⟨u, hu, e⟩ := List.mem_map.mp y; cases e; exact h hu), List.map_append]
      rfl
    · rw [List.map_append]
      exact nd_snoc n h
    · intro e he
      rcases List.mem_append.mp he with he | he
      · exact .inl he
      · exact .inr (List.mem_singleton.mp he)
theorem perm_strs {ms : List V} {xs : List Str} (h : ms.Perm (xs.map V.str)) : ∃ ws : List Str, ms = ws.map V.str ∧ ws.Perm xs := by
  refine ⟨ms.map kS, ?_, ?_⟩
  · rw [List.map_map]
    have : ∀ v ∈ ms, (V.str ∘ kS) v = v := fun v hv => by
      obtain ⟨x, _, rfl⟩ := List.mem_map.mp (h.mem_iff.mp hv)
      rfl
    rw [List.map_congr_left this]
    simp
  · have := h.map kS
    rw [List.map_map] at this
    rw [show xs.map (kS ∘ V.str) = xs by rw [show kS ∘ V.str = id from rfl, List.map_id]] at this
    exact this
theorem ActsAt.mvS {K : PySem.W.Frag} {S : List Addr} {H H' : Hp} {d : Addr} {zs : List ActA} (h : ActsAt K H d zs) (m : Mv S H H') (hd : d ∉ S) (ho : ∀ z ∈ zs, z.o ∉ S) : ActsAt K H' d zs :=
  ⟨m.keep _ _ hd h.at_, h.nd, fun z hz => m.sqT (h.tup z hz), fun z hz => m.keep _ _ (ho z hz) (h.out z hz), h.ond⟩
section
variable {P : Program} {w : World} {K : PySem.W.Frag} {mg : Str → Option Value} {base : Heap}
theorem ok__law_acts (T : TX K mg) {k : Nat} : FnOk P w K mg base CX0 (k + 3) T.d__law_acts.f T.d__law_acts.fd P__law_acts (sp_acts K) := by
  have G__law_take : FnOk P w K mg base CX0 1 T.d__law_take.f T.d__law_take.fd P__law_take sp_take := ok__law_take T
  have G__law_names : FnOk P w K mg base CX0 2 T.d__law_names.f T.d__law_names.fd P__law_names sp_names := ok__law_names T
  have G__law_mixed : FnOk P w K mg base CX0 2 T.d__law_mixed.f T.d__law_mixed.fd P__law_mixed (sp_mixG K) := ok__law_mixed T
  refine T.d__law_acts.F.ok sc__law_acts (fun vs H Q E h => ?_) (fun cdv A outer s H vs Q E hr h => ?_)
  · obtain ⟨_, _, rfl, _⟩ := h
    rfl
  · obtain ⟨b, many, rfl, hB, hm0, hm1, q⟩ := h
    have hu1 := hu1_of hr
    refine ⟨_, (pss_cons (ps_par3 (i := 2) (j := 3) (l := 4) rfl sc__law_acts.nd rfl rfl rfl (by decide) (by decide) (by decide) rfl rfl rfl (pa_cons (pe_call G__law_names (hr.mono (by omega)) rfl T.d__law_names.g T.d__law_names.F.kp T.d__law_names.b .nil pass0 (pa_cons (pv 0) (pa_cons pe_int pa_nil))) (pa_cons (pe_call G__law_names (hr.mono (by omega)) rfl T.d__law_names.g T.d__law_names.F.kp T.d__law_names.b .nil pass0 (pa_cons (pv 0) (pa_cons pe_int pa_nil))) (pa_cons pe_dnewK pa_nil))) rfl) (pss_cons (ps_for PassesOwn.never rfl (pi_seq (pe_slice (r := rSlG K) sl_G (pv 2) po_none (po_some (pe_op (r := rAddG K) op_addG pe_int (pe_call G__law_take (hr.mono (by omega)) rfl T.d__law_take.g T.d__law_take.F.kp T.d__law_take.b .nil pass0 (pa_cons (pv 0) (pa_cons pe_int pa_nil))))))) (pg_name (i := 5) sc__law_acts.nd rfl (Or.inl rfl)) (pss_cons (ps_set (i := 6) sc__law_acts.nd rfl (Or.inl rfl) pe_dnewK) (pss_cons (ps_for PassesOwn.never rfl (pi_seq (pe_slice (r := rSlG K) sl_G (pe_call G__law_mixed (hr.mono (by omega)) rfl T.d__law_mixed.g T.d__law_mixed.F.kp T.d__law_mixed.b .nil pass0 (pa_cons (pv 0) (pa_cons (pv 3) pa_nil))) po_none (po_some (pe_op (r := rAddG K) op_addG pe_int (pe_call G__law_take (hr.mono (by omega)) rfl T.d__law_take.g T.d__law_take.F.kp T.d__law_take.b .nil pass0 (pa_cons (pv 0) (pa_cons pe_int pa_nil))))))) (pg_name (i := 7) sc__law_acts.nd rfl (Or.inl rfl)) (pss_one (ps_dput hu1 (pv 6) (pv 7) (pe_callB (call_min2 rfl) (by rfl) T.b_min bt_min (pa_cons (pv 1) (pa_cons (pe_ix (r := rIx K) ix_seq (pe_lst (pa_cons pe_int (pa_cons pe_int (pa_cons pe_int (pa_cons pe_int (pa_cons pe_int pa_nil)))))) (pe_call G__law_take (hr.mono (by omega)) rfl T.d__law_take.g T.d__law_take.F.kp T.d__law_take.b .nil pass0 (pa_cons (pv 0) (pa_cons pe_int pa_nil))) (fun _ _ => rfl)) pa_nil))) rfl))) (pss_one (ps_dput hu1 (pv 4) (pv 5) (pe_tup (pa_cons (pe_call G__law_take (hr.mono (by omega)) rfl T.d__law_take.g T.d__law_take.F.kp T.d__law_take.b .nil pass0 (pa_cons (pv 0) (pa_cons pe_int pa_nil))) (pa_cons (pv 6) pa_nil))) rfl))))) (pss_one (ps_ret (pv 4))))), ?_⟩
    refine ⟨.ref b, rfl, b, 3, rfl, hB, by decide, by decide, fun p1 xs1 H1 l1 nm1 np1 e1 d1 => ?_⟩
    have hB1 := d1.bag hB
    refine ⟨.ref b, rfl, b, 6, rfl, hB1, by decide, by decide, fun p2 xs2 H2 l2 nm2 np2 e2 d2 => ?_⟩
    have hB2 := d2.bag hB1
    have p1b : p1 ≠ b := hB.fneq np1
    have p2b : p2 ≠ b := hB1.fneq np2
    have d02 := d1.trans d2
    intro d nd
    have ndH := d02.free hB nd
    have e3 : upd H2 d (.dK []) d = some (.dK []) := upd_same
    have d03 : Dr b H (upd H2 d (.dK [])) := d02.wr ndH
    have e13 : upd H2 d (.dK []) p1 = some (.lst (xs1.map V.str)) := same_new nd _ _ (d2.get p1b e1)
    have e23 : upd H2 d (.dK []) p2 = some (.lst (xs2.map V.str)) := same_new nd _ _ e2
    have hB3 := d03.bag hB
    generalize upd H2 d (.dK []) = H3 at e3 d03 e13 e23 hB3 ⊢
    refine ⟨_, _, _, rfl, .ref p1, rfl, .ref b, rfl, b, 3, rfl, hB3, by decide, by decide, fun k1 H4 k10 k13 d4 => ?_⟩
    refine Or.inl ⟨1, k1, rfl, rfl, 1 + k1, rfl, rd_slL (d4.get p1b e13) (by omega) fun p5 np5 => ⟨p5, rfl, ?_⟩⟩
    have hp5b : p5 ≠ b := (d4.bag hB3).fneq np5
    have hdb : d ≠ b := hB.fneq ndH
    have d05 : Dr b H (upd H4 p5 (.lst ((xs1.map V.str).take (1 + k1).toNat))) := (d03.trans d4).trans (.new np5)
    have e5 : upd H4 p5 (.lst ((xs1.map V.str).take (1 + k1).toNat)) p5 = some (.lst ((xs1.take (1 + k1).toNat).map V.str)) := by rw [upd_same, List.map_take]
    have ed5 : upd H4 p5 (.lst ((xs1.map V.str).take (1 + k1).toNat)) d = some (.dK []) := same_new np5 _ _ (d4.get hdb e3)
    have e25 : upd H4 p5 (.lst ((xs1.map V.str).take (1 + k1).toNat)) p2 = some (.lst (xs2.map V.str)) := same_new np5 _ _ (d4.get p2b e23)
    generalize upd H4 p5 (.lst ((xs1.map V.str).take (1 + k1).toNat)) = H5 at d05 e5 ed5 e25 ⊢
    have hys : ∀ x ∈ xs1.take (1 + k1).toNat, Nm x := fun x hx => nm1 x (List.mem_of_mem_take hx)
    have hyl : 1 ≤ (xs1.take (1 + k1).toNat).length ∧ (xs1.take (1 + k1).toNat).length ≤ 3 := by rw [List.length_take]; omega
    generalize xs1.take (1 + k1).toNat = ys1 at e5 hys hyl
    refine Or.inl ⟨⟨_, .inl (.inl e5)⟩, ?_⟩
    refine for_list (K := K) (a := p5) (xs := ys1.map V.str) (fun i σ H6 => ∃ (zs : List ActA) (u5 u6 u7 : Option V), σ = [some (.ref b), some (.int many), some (.ref p1), some (.ref p2), some (.ref d), u5, u6, u7] ∧ H6 p5 = some (.lst (ys1.map V.str)) ∧ H6 p2 = some (.lst (xs2.map V.str)) ∧ ActsAt K H6 d zs ∧ (∀ z ∈ zs, z.o ≠ d) ∧
        (∀ z ∈ zs, z.r.ok ∧ ∀ e ∈ z.r.outs, e.2 ≤ many) ∧ zs.length ≤ i ∧ (0 < i → 1 ≤ zs.length) ∧ Dr b H H6)
      ⟨[], none, none, none, rfl, e5, e25, ⟨ed5, by simp, by simp, by simp, by simp⟩, by simp, by simp, Nat.le_refl _, by omega, d05⟩ (fun i σ H6 _ h6 => ?_) (fun i x σ H6 hx h6 => ?_) (fun σ H6 h6 => ?_)
    · obtain ⟨zs, u5, u6, u7, rfl, e6, _⟩ := h6
      exact .inl (.inl e6)
    · obtain ⟨zs, u5, u6, u7, rfl, e6, e26, hA6, ho6, hk6, hl6, hs6, d06⟩ := h6
      rw [List.getElem?_map] at hx
      obtain ⟨nm, hnm, rfl⟩ := Option.map_eq_some_iff.mp hx
      have hB6 := d06.bag hB
      intro o no
      have noH := d06.free hB no
      have hod : o ≠ d := (ne_of_none hA6.at_ no).symm
      have hob : o ≠ b := hB6.fneq no
      have hzo : ∀ z ∈ zs, z.o ≠ o := fun z hz => ne_of_none (hA6.out z hz) no
      have hdb' : d ≠ b := hdb
      have d07 : Dr b H (upd H6 o (.dK [])) := d06.trans (.new no)
      have e7 : upd H6 o (.dK []) o = some (.dK []) := upd_same
      have m67 : Mv [] H6 (upd H6 o (.dK [])) := .new no
      generalize upd H6 o (.dK []) = H7 at d07 e7 m67 ⊢
      have hB7 := d07.bag hB
      refine ⟨.ref b, rfl, .ref p2, rfl, b, p2, _, rfl, hB7, .inl ⟨m67.same _ _ e26, p2b⟩, by rw [List.length_map]; omega, fun pm ms H8 hpm npm e8 d8 => ?_⟩
      have hB8 := d8.bag hB7
      have hpmb : pm ≠ b := hB7.fneq npm
      obtain ⟨ws, rfl, hws⟩ := perm_strs hpm
      refine ⟨.ref b, rfl, b, 3, rfl, hB8, by decide, by decide, fun k2 H9 k20 k23 d9 => ?_⟩
      refine Or.inl ⟨1, k2, rfl, rfl, 1 + k2, rfl, rd_slL (d9.get hpmb e8) (by omega) fun pl npl => ⟨pl, rfl, ?_⟩⟩
      have hB9 := d9.bag hB8
      have hplb : pl ≠ b := hB9.fneq npl
      have d79 : Dr b H7 (upd H9 pl (.lst ((ws.map V.str).take (1 + k2).toNat))) := (d8.trans d9).trans (.new npl)
      have e10 : upd H9 pl (.lst ((ws.map V.str).take (1 + k2).toNat)) pl = some (.lst ((ws.take (1 + k2).toNat).map V.str)) := by rw [upd_same, List.map_take]
      generalize upd H9 pl (.lst ((ws.map V.str).take (1 + k2).toNat)) = H10 at d79 e10 ⊢
      have hwl : ws.length = 6 := by rw [hws.length_eq]; exact l2
      have hvs : ∀ x ∈ ws.take (1 + k2).toNat, Nm x := fun x hx => nm2 x (hws.mem_iff.mp (List.mem_of_mem_take hx))
      have hvl : 1 ≤ (ws.take (1 + k2).toNat).length ∧ (ws.take (1 + k2).toNat).length ≤ 3 := by rw [List.length_take]; omega
      generalize ws.take (1 + k2).toNat = vs1 at e10 hvs hvl
      have hp5b' : p5 ≠ b := hp5b
      refine Or.inl ⟨⟨_, .inl (.inl e10)⟩, ?_⟩
      refine for_list (K := K) (a := pl) (xs := vs1.map V.str) (fun j σ H11 => ∃ (rows : List (Str × Int)) (u7 : Option V), σ = [some (.ref b), some (.int many), some (.ref p1), some (.ref p2), some (.ref d), some (.str nm), some (.ref o), u7] ∧ H11 pl = some (.lst (vs1.map V.str)) ∧ H11 p5 = some (.lst (ys1.map V.str)) ∧ H11 p2 = some (.lst (xs2.map V.str)) ∧ ActsAt K H11 d zs ∧
          H11 o = some (.dK (rows.map rowK)) ∧ (rows.map (·.1)).Nodup ∧ (∀ e ∈ rows, On e.1 ∧ 0 ≤ e.2 ∧ e.2 ≤ 2 ∧ e.2 ≤ many) ∧ rows.length ≤ j ∧ (0 < j → 1 ≤ rows.length) ∧ Dr b H H11)
        ⟨[], _, rfl, e10, d79.get hp5b' (m67.same _ _ e6), d79.get p2b (m67.same _ _ e26), (hA6.mv m67).dr d79 hB7, d79.get hob e7, by simp, by simp, Nat.le_refl _, by omega, d07.trans d79⟩ (fun j σ H11 _ h11 => ?_) (fun j x σ H11 hx h11 => ?_) (fun σ H11 h11 => ?_)
      · obtain ⟨rows, u7, rfl, e11, _⟩ := h11
        exact .inl (.inl e11)
      · obtain ⟨rows, u7, rfl, e11, e511, e211, hA11, eo11, ndr, hrk, hrl, hrs, d011⟩ := h11
        rw [List.getElem?_map] at hx
        obtain ⟨wd, hwd, rfl⟩ := Option.map_eq_some_iff.mp hx
        have hj := (List.getElem?_eq_some_iff.mp hwd).1
        have hB11 := d011.bag hB
        refine ⟨.int many, rfl, (by decide : 5 ≤ sizeLine), fun q12 nq12 => ?_⟩
        have hq12b : q12 ≠ b := hB11.fneq nq12
        have d12 : Dr b H11 (upd H11 q12 (.lst [.int 0, .int 1, .int 0, .int 1, .int 2])) := .new nq12
        have e12 : upd H11 q12 (.lst [.int 0, .int 1, .int 0, .int 1, .int 2]) q12 = some (.lst [.int 0, .int 1, .int 0, .int 1, .int 2]) := upd_same
        generalize upd H11 q12 (.lst [.int 0, .int 1, .int 0, .int 1, .int 2]) = H12 at d12 e12 ⊢
        refine ⟨.ref b, rfl, b, 5, rfl, d12.bag hB11, by decide, by decide, fun k3 H13 k30 k35 d13 => ?_⟩
        have d113 := d12.trans d13
        obtain ⟨v3, hv3, hv30, hv32⟩ : ∃ v3 : Int, [V.int 0, .int 1, .int 0, .int 1, .int 2][k3.toNat]? = some (.int v3) ∧ 0 ≤ v3 ∧ v3 ≤ 2 := by
          have : k3.toNat < 5 := by omega
          match k3.toNat, this with
          | 0, _ => exact ⟨0, rfl, by decide, by decide⟩
          | 1, _ => exact ⟨1, rfl, by decide, by decide⟩
          | 2, _ => exact ⟨0, rfl, by decide, by decide⟩
          | 3, _ => exact ⟨1, rfl, by decide, by decide⟩
          | 4, _ => exact ⟨2, rfl, by decide, by decide⟩
        refine rd_ixL (.inl (.inl (d13.get hq12b e12))) k30 hv3 ?_
        refine ⟨many, v3, rfl, ?_⟩
        have eo13 := d113.get hob eo11
        obtain ⟨rows', hput, nd', mem', len', one'⟩ := rows_put ndr wd (if v3 < many then v3 else many)
        refine ⟨.ref o, rfl, .str wd, rfl, o, _, rfl, Or.inl ⟨_, .inr wd, eo13, rfl, ?_, rfl⟩, ?_⟩
        · rw [List.length_map]
          exact Nat.lt_of_le_of_lt (show rows.length ≤ 1000 by omega) (by decide)
        rw [hput]
        have hmo : Mv [o] H13 (upd H13 o (.dK (rows'.map rowK))) := .putD eo13
        have kp : ∀ a xs, H11 a = some (.lst xs) → a ≠ b → upd H13 o (.dK (rows'.map rowK)) a = some (.lst xs) := fun a xs h hb => by
          have h13 := d113.get hb h
          rw [upd_ne (by rintro rfl; rw [eo13] at h13; cases h13)]
          exact h13
        refine ⟨rows', _, rfl, kp _ _ e11 hplb, kp _ _ e511 hp5b', kp _ _ e211 p2b, (hA11.dr d113 hB11).mvS hmo (by simpa using hod.symm) (fun z hz => by simpa using hzo z hz), upd_same, nd', fun e he => ?_, by omega, fun _ => one', (d011.trans d113).wr noH⟩
        rcases mem' e he with he | rfl
        · exact hrk e he
        · refine ⟨on_nm (hvs wd (List.mem_of_getElem? hwd)), ?_, ?_, ?_⟩ <;> (dsimp only; split <;> omega)
      · obtain ⟨rows, u7, rfl, e11, e511, e211, hA11, eo11, ndr, hrk, hrl, hrs, d011⟩ := h11
        rw [List.length_map] at hrl hrs
        have hB11 := d011.bag hB
        refine ⟨.ref b, rfl, b, 3, rfl, hB11, by decide, by decide, fun k4 H12 k40 k43 d12 => ?_⟩
        refine ⟨.ref o, rfl, (by decide : 2 ≤ sizeLine), fun t13 nt13 => ?_⟩
        have d13 : Dr b H11 (upd H12 t13 (.tup [.int k4, .ref o])) := d12.trans (.new nt13)
        have e13 : SqT K (upd H12 t13 (.tup [.int k4, .ref o])) t13 [.int k4, .ref o] := .inl (.inl upd_same)
        generalize upd H12 t13 (.tup [.int k4, .ref o]) = H13 at d13 e13 ⊢
        have hA13 := hA11.dr d13 hB11
        obtain ⟨zs', hput, nd', mem', len', one'⟩ := acts_put hA13.nd ⟨⟨nm, k4, rows⟩, t13, o⟩
        refine ⟨.ref d, rfl, .str nm, rfl, d, _, rfl, Or.inl ⟨_, .inr nm, hA13.at_, rfl, ?_, rfl⟩, ?_⟩
        · rw [List.length_map]
          have hi := (List.getElem?_eq_some_iff.mp hnm).1
          exact Nat.lt_of_le_of_lt (show zs.length ≤ 1000 by omega) (by decide)
        rw [hput]
        have hmd : Mv [d] H13 (upd H13 d (.dK (zs'.map ActA.kv))) := .putD hA13.at_
        have eo13 := d13.get hob eo11
        have kp : ∀ a xs, H11 a = some (.lst xs) → a ≠ b → upd H13 d (.dK (zs'.map ActA.kv)) a = some (.lst xs) := fun a xs h hb => by
          have h13 := d13.get hb h
          rw [upd_ne (by rintro rfl; rw [hA13.at_] at h13; cases h13)]
          exact h13
        have old : ∀ z ∈ zs', z ∈ zs ∨ z = ⟨⟨nm, k4, rows⟩, t13, o⟩ := mem'
        refine ⟨zs', _, _, _, rfl, kp _ _ e511 hp5b', kp _ _ e211 p2b, ⟨upd_same, nd', fun z hz => ?_, fun z hz => ?_, fun z hz => ?_⟩, fun z hz => ?_, fun z hz => ?_, by omega, fun _ => one', (d011.trans d13).wr ndH⟩
        · rcases old z hz with h | rfl
          · exact hmd.sqT (hA13.tup z h)
          · exact hmd.sqT e13
        · rcases old z hz with h | rfl
          · exact hmd.keep _ _ (by simpa using ho6 z h) (hA13.out z h)
          · exact hmd.keep _ _ (by simpa using hod) eo13
        · rcases old z hz with h | rfl
          · exact hA13.ond z h
          · exact ndr
        · rcases old z hz with h | rfl
          · exact ho6 z h
          · exact hod
        · rcases old z hz with h | rfl
          · exact hk6 z h
          · have hnmk := hys nm (List.mem_of_getElem? hnm)
            exact ⟨⟨hnmk, k40, (by omega : k4 ≤ 2), hrs (by omega), (by omega : rows.length ≤ 6), fun e he => ⟨(hrk e he).1, (hrk e he).2.1, (hrk e he).2.2.1⟩⟩, fun e he => (hrk e he).2.2.2⟩
    · obtain ⟨zs, u5, u6, u7, rfl, e6, e26, hA6, ho6, hk6, hl6, hs6, d06⟩ := h6
      rw [List.length_map] at hl6 hs6
      refine ⟨.ref d, rfl, q d zs H6 ndH hA6 ⟨fun r hr => ?_, fun r hr => ?_, by rw [List.length_map]; omega⟩ (hs6 (by omega)) d06⟩
      · obtain ⟨z, hz, rfl⟩ := List.mem_map.mp hr
        exact (hk6 z hz).1
      · obtain ⟨z, hz, rfl⟩ := List.mem_map.mp hr
        exact (hk6 z hz).2
end
end Fm
namespace Fm
open PySem PySem.Spec PyProof.Rows L2 SlX
local macro_rules | `(tactic| walk_at "nn") => `(tactic| dsimp only [tC, tNil, tCons, tCB, tCall, gName, tSeq, tAsg, tPar, tDrop, tRet])
local macro_rules | `(tactic| walk_at "nc") => `(tactic| dsimp only [tC, tNil, tCons, tCB, tCall])
theorem perm_lift {α β : Type} {f : α → β} : ∀ {xs : List α} {l : List β}, l.Perm (xs.map f) → ∃ ys : List α, ys.Perm xs ∧ l = ys.map f
  | [], l, h => ⟨[], .refl _, by simpa using h.eq_nil⟩
  | x :: xs, l, h => by
    have hm : f x ∈ l := h.mem_iff.mpr (by simp)
    obtain ⟨l1, l2, rfl⟩ := List.append_of_mem hm
    have h2 : (l1 ++ l2).Perm (xs.map f) := by
      have := List.perm_middle.symm.trans h
      exact (List.perm_cons _).mp this
    obtain ⟨ys, hy, e⟩ := perm_lift h2
    obtain ⟨y1, y2, rfl, rfl, rfl⟩ := List.append_eq_map_iff.mp e
    exact ⟨y1 ++ x :: y2, List.perm_middle.trans ((List.perm_cons _).mpr hy), by simp⟩
theorem normW_perm {rs qs : List ActR} (n : (qs.map (·.nm)).Nodup) (h : (rs.map ActR.norm).Perm (qs.map ActR.norm)) : normW rs = normW qs := by
  unfold normW
  refine srt_of_perm totS ?_ h
  rw [List.map_map]
  exact n
theorem norm_outs {r q : ActR} (h1 : r.nm = q.nm) (h2 : r.ar = q.ar) (n : (q.outs.map (·.1)).Nodup) (h : r.outs.Perm q.outs) : r.norm = q.norm := by
  cases r
  cases q
  simp only at h1 h2 h
  subst h1
  subst h2
  unfold ActR.norm
  rw [srt_of_perm totS n h]
def sp_worldOf (K : PySem.W.Frag) (C : Addr) : Sp := fun vs H Q _ => ∃ (b d : Addr) (zs : List ActA), vs = [.ref b, .ref d] ∧ Bag H b ∧ ActsAt K H d zs ∧ (∀ z ∈ zs, z.r.ok) ∧ zs.length ≤ 50 ∧ ∀ x H', WldAt K H' C x (normW (zs.map (·.r))) → Dr b H H' → Q (.ref x) H'
/-- rows of acts: a tuple of the name and the act -/
structure RowsAt (K : PySem.W.Frag) (H : Hp) (tw : List (Addr × ActA)) : Prop where
  row : ∀ z ∈ tw, SqT K H z.1 [.str z.2.r.nm, .ref z.2.a]
  tup : ∀ z ∈ tw, SqT K H z.2.a [.int z.2.r.ar, .ref z.2.o]
  out : ∀ z ∈ tw, H z.2.o = some (.dK (z.2.r.outs.map rowK))
  ond : ∀ z ∈ tw, (z.2.r.outs.map (·.1)).Nodup
theorem RowsAt.mv {K : PySem.W.Frag} {H H' : Hp} {tw : List (Addr × ActA)} (h : RowsAt K H tw) (m : Mv [] H H') : RowsAt K H' tw := ⟨fun z hz => m.sqT (h.row z hz), fun z hz => m.sqT (h.tup z hz), fun z hz => m.same _ _ (h.out z hz), h.ond⟩
theorem RowsAt.dr {K : PySem.W.Frag} {H H' : Hp} {b : Addr} {tw : List (Addr × ActA)} (h : RowsAt K H tw) (m : Dr b H H') (hB : Bag H b) : RowsAt K H' tw := ⟨fun z hz => m.mv.sqT (h.row z hz), fun z hz => m.mv.sqT (h.tup z hz), fun z hz => m.getK hB (h.out z hz) (fun _ z => by cases z), h.ond⟩
theorem RowsAt.lst {K : PySem.W.Frag} {H H' : Hp} {l : Addr} {xs : List V} {o : HO} {tw : List (Addr × ActA)} (h : RowsAt K H tw) (hl : H l = some (.lst xs)) : RowsAt K (upd H l o) tw := by
  have m : Mv [l] H (upd H l o) := .set hl (by simp)
  exact ⟨fun z hz => m.sqT (h.row z hz), fun z hz => m.sqT (h.tup z hz), fun z hz => m.keep _ _ (by simp; rintro e; have := h.out z hz; rw [e, hl] at this; cases this) (h.out z hz), h.ond⟩
theorem paired_acts {K : PySem.W.Frag} {H : Hp} : ∀ (tw : List (Addr × ActA)), (∀ z ∈ tw, SqT K H z.1 [.str z.2.r.nm, .ref z.2.a]) → Paired (fun p (kv : L2.Key × V) => SqT K H p [kV kv.1, kv.2]) (tw.map (·.1)) ((tw.map (·.2)).map ActA.kv)
  | [], _ => .nil
  | z :: tw, h => .cons (h z (by simp)) (paired_acts tw fun y hy => h y (by simp [hy]))
theorem paired_rows2 {K : PySem.W.Frag} {H : Hp} : ∀ (ps : List (Addr × Str × Int)), (∀ z ∈ ps, SqT K H z.1 [.str z.2.1, .int z.2.2]) → Paired (fun p (kv : L2.Key × V) => SqT K H p [kV kv.1, kv.2]) (ps.map (·.1)) ((ps.map (·.2)).map rowK)
  | [], _ => .nil
  | z :: ps, h => .cons (h z (by simp)) (paired_rows2 ps fun y hy => h y (by simp [hy]))
section
variable {P : Program} {w : World} {K : PySem.W.Frag} {mg : Str → Option Value} {base : Heap}
theorem ok__law_world_of (T : TX K mg) {k : Nat} : FnOk P w K mg base CX0 (k + 7) T.d__law_world_of.f T.d__law_world_of.fd P__law_world_of (sp_worldOf K T.C_World) := by
  have G__law_mixed : FnOk P w K mg base CX0 2 T.d__law_mixed.f T.d__law_mixed.fd P__law_mixed (sp_mixG K) := ok__law_mixed T
  have G_World___init__ : FnOk P w K mg base CX0 5 T.d_World___init__.f T.d_World___init__.fd P_World___init__ (sp_World K T.C_World) := ok_World___init__ T
  refine T.d__law_world_of.F.ok sc__law_world_of (fun vs H Q E h => ?_) (fun cdv A outer s H vs Q E hr h => ?_)
  · obtain ⟨_, _, _, rfl, _⟩ := h
    rfl
  · obtain ⟨b, d, zs, rfl, hB, hA, hok, hfew, q⟩ := h
    have hu1 := hu1_of hr
    refine ⟨_, (pss_cons (ps_set (i := 2) sc__law_world_of.nd rfl (Or.inl rfl) (pe_lst pa_nil)) (pss_cons (ps_for PassesOwn.never rfl (pi_seq (pe_callB (r := rSortA K) (cr_sortA rfl) (by rfl) T.b_sorted bt_sorted (pa_cons (pv 1) pa_nil))) (pg_name (i := 3) sc__law_world_of.nd rfl (Or.inl rfl)) (pss_one (ps_expr (pe_bm PySem.F.plainAttrs_list PySem.F.slot_list_append PySem.F.type_list_append mt_append (pv 2) (pa_cons (pe_tup (pa_cons (pv 3) (pa_cons (pe_tup (pa_cons (pe_ix (r := rIx K) ix_seq (pe_dget hu1 (pv 1) (pv 3) (fun _ _ => rfl)) pe_int (fun _ _ => rfl)) (pa_cons (pe_callTy (r := rDictG K) (call_dictG rfl) (by rfl) T.b_dict bt_dict (pa_cons (pe_call G__law_mixed (hr.mono (by omega)) rfl T.d__law_mixed.g T.d__law_mixed.F.kp T.d__law_mixed.b .nil pass0 (pa_cons (pv 0) (pa_cons (pe_callB (r := rSortSI) (cr_sortSI rfl) (by rfl) T.b_sorted bt_sorted (pa_cons (pe_bm0C (K := K) rfl PySem.F.plainAttrs_dict PySem.F.slot_dict_items PySem.F.type_dict_items mt_itemsK (pe_ix (r := rIx K) ix_seq (pe_dget hu1 (pv 1) (pv 3) (fun _ _ => rfl)) pe_int (fun _ _ => rfl))) pa_nil)) pa_nil))) pa_nil)) pa_nil))) pa_nil))) pa_nil))))) (pss_one (ps_ret (pe_make ⟨T.mk_World, T.d_World___init__.M.at_, T.d_World___init__.M.fn, T.k_World⟩ G_World___init__ (hr.mono (by omega)) rfl T.g_World T.d_World___init__.b .nil pass0 (pa_cons (pe_callTy (r := rDictG K) (call_dictG rfl) (by rfl) T.b_dict bt_dict (pa_cons (pe_call G__law_mixed (hr.mono (by omega)) rfl T.d__law_mixed.g T.d__law_mixed.F.kp T.d__law_mixed.b .nil pass0 (pa_cons (pv 0) (pa_cons (pv 2) pa_nil))) pa_nil)) pa_nil)))))), ?_⟩
    refine ⟨Nat.zero_le _, fun l nl => ?_⟩
    have hlb : l ≠ b := hB.fneq nl
    have e1 : upd H l (.lst []) l = some (.lst []) := upd_same
    have d1 : Dr b H (upd H l (.lst [])) := .new nl
    generalize upd H l (.lst []) = H1 at e1 d1 ⊢
    have hA1 := hA.dr d1 hB
    have hB1 := d1.bag hB
    have hlz : (zs.map (·.r.nm)).length < 64 := by rw [List.length_map]; omega
    refine ⟨.ref d, rfl, Or.inl ⟨d, _, zs.map (·.r.nm), rfl, .inl hA1.at_, kv_keys zs, hlz, fun ys p hp hs np => ⟨p, rfl, ?_⟩⟩⟩
    have hys := srt_keys totS hA.nd hp (sortedS_pw ys hs)
    generalize hss : srt leS (fun z : ActA => z.r.nm) zs = ss at hys
    subst hys
    have hpb : p ≠ b := hB1.fneq np
    have hlp : l ≠ p := ne_of_none e1 np
    have e2 : upd H1 p (.lst ((ss.map (·.r.nm)).map V.str)) p = some (.lst ((ss.map (·.r.nm)).map V.str)) := upd_same
    have e12 : upd H1 p (.lst ((ss.map (·.r.nm)).map V.str)) l = some (.lst []) := same_new np _ _ e1
    have d2 : Dr b H (upd H1 p (.lst ((ss.map (·.r.nm)).map V.str))) := d1.trans (.new np)
    generalize upd H1 p (.lst ((ss.map (·.r.nm)).map V.str)) = H2 at e2 e12 d2 ⊢
    have hsub : ∀ z ∈ ss, z ∈ zs := fun z hz => by rw [← srt_mem (le := leS) (k := fun z : ActA => z.r.nm), hss]; exact hz
    have hsl : ss.length = zs.length := by rw [← hss, srt_len]
    refine Or.inl ⟨⟨_, .inl (.inl e2)⟩, ?_⟩
    refine for_list (K := K) (a := p) (xs := (ss.map (·.r.nm)).map V.str) (fun i σ H3 => ∃ (tw : List (Addr × ActA)) (y : Option V), σ = [some (.ref b), some (.ref d), some (.ref l), y] ∧ H3 p = some (.lst ((ss.map (·.r.nm)).map V.str)) ∧ H3 l = some (.lst ((tw.map (·.1)).map V.ref)) ∧ RowsAt K H3 tw ∧
        tw.map (·.2.r.norm) = (ss.take i).map (·.r.norm) ∧ (∀ z ∈ tw, z.2.r.ok) ∧ Dr b H H3)
      ⟨[], none, rfl, e2, e12, ⟨by simp, by simp, by simp, by simp⟩, by simp, by simp, d2⟩ (fun i σ H3 _ h3 => ?_) (fun i x σ H3 hx h3 => ?_) (fun σ H3 h3 => ?_)
    · obtain ⟨tw, y, rfl, e3, _⟩ := h3
      exact .inl (.inl e3)
    · obtain ⟨tw, y, rfl, e3, el3, hR3, hn3, hk3, d03⟩ := h3
      rw [List.getElem?_map, List.getElem?_map, Option.map_map] at hx
      obtain ⟨z, hz, rfl⟩ := Option.map_eq_some_iff.mp hx
      have hi := (List.getElem?_eq_some_iff.mp hz).1
      have hzs := hsub z (List.mem_of_getElem? hz)
      have hA3 := hA.dr d03 hB
      have hB3 := d03.bag hB
      refine ⟨.ref l, rfl, .inl ⟨rfl, _, .inl (.inl el3)⟩, .str z.r.nm, rfl, ?_⟩
      refine ⟨.ref d, rfl, .str z.r.nm, rfl, d, .ref z.a, rfl, Or.inl ⟨_, .inr z.r.nm, .inl hA3.at_, rfl, (hA3.val hzs).symm⟩, ?_⟩
      refine rd_ixT (hA3.tup z hzs) (by decide) (v := .int z.r.ar) rfl ?_
      refine ⟨.ref b, rfl, ?_⟩
      refine ⟨.ref d, rfl, .str z.r.nm, rfl, d, .ref z.a, rfl, Or.inl ⟨_, .inr z.r.nm, .inl hA3.at_, rfl, (hA3.val hzs).symm⟩, ?_⟩
      refine rd_ixT (hA3.tup z hzs) (by decide) (v := .ref z.o) rfl ?_
      refine ⟨.inr (.inr (.inl ⟨rfl, .inl ⟨_, hA3.out z hzs⟩⟩)), z.o, _, rfl, rfl, hA3.out z hzs, fun p8 np8 => ?_⟩
      have hzo : z.o ≠ p8 := ne_of_none (hA3.out z hzs) np8
      refine ⟨p8, z.o, z.r.outs, rfl, upd_same, by rw [upd_ne hzo]; exact hA3.out z hzs, fun H9 l9 ps k9 nl9 hpm hpw hl9 hps => ?_⟩
      have m39 : Mv [] H3 H9 := (Mv.new np8).trans (.of_same k9)
      have d39 : Dr b H3 H9 := .of m39
      have hB9 := d39.bag hB3
      have nl9H : H3 l9 = none := (Mv.new (S := []) np8).free nl9
      have hl9b : l9 ≠ b := hB3.fneq nl9H
      have hpl : ps.length = z.r.outs.length := by
        have := hpm.length_eq
        rwa [List.length_map] at this
      have ho6 := (hok z hzs).o6
      refine ⟨b, l9, _, rfl, hB9, .inl ⟨hl9, hl9b⟩, by rw [List.length_map]; omega, fun pm ms H10 hms npm e10 d10 => ?_⟩
      obtain ⟨ps', hps', rfl⟩ := perm_lift (f := fun z : Addr × Str × Int => V.ref z.1) hms
      have hps10 : ∀ y ∈ ps', SqT K H10 y.1 [.str y.2.1, .int y.2.2] := fun y hy => d10.mv.sqT (.inl (.inl (hps y (hps'.mem_iff.mp hy))))
      have hq : (ps'.map (·.2)).Perm z.r.outs := (hps'.map _).trans hpm
      have hqn : ((ps'.map (·.2)).map (·.1)).Nodup := ((hq.map _).nodup_iff).mpr (hA3.ond z hzs)
      refine Or.inl ⟨pm, ps'.map (·.1), (ps'.map (·.2)).map rowK, rfl, .inl (.inl (by rw [e10, List.map_map]; rfl)), paired_rows2 ps' hps10, fun p11 np11 => ?_⟩
      rw [mergeK_nd _ _ (by rw [List.nil_append, row_keys]; exact nd_inr hqn), List.nil_append]
      have d311 : Dr b H3 (upd H10 p11 (.dK ((ps'.map (·.2)).map rowK))) := (d39.trans d10).trans (.new np11)
      have e11 : upd H10 p11 (.dK ((ps'.map (·.2)).map rowK)) p11 = some (.dK ((ps'.map (·.2)).map rowK)) := upd_same
      generalize upd H10 p11 (.dK ((ps'.map (·.2)).map rowK)) = H11 at d311 e11 ⊢
      refine ⟨(by decide : 2 ≤ sizeLine), fun p12 np12 => ?_⟩
      have m12 : Mv [] H11 (upd H11 p12 (.tup [.int z.r.ar, .ref p11])) := .new np12
      have e12' : SqT K (upd H11 p12 (.tup [.int z.r.ar, .ref p11])) p12 [.int z.r.ar, .ref p11] := .inl (.inl upd_same)
      generalize upd H11 p12 (.tup [.int z.r.ar, .ref p11]) = H12 at m12 e12' ⊢
      refine ⟨(by decide : 2 ≤ sizeLine), fun p13 np13 => ?_⟩
      have m13 : Mv [] H12 (upd H12 p13 (.tup [.str z.r.nm, .ref p12])) := .new np13
      have e13 : SqT K (upd H12 p13 (.tup [.str z.r.nm, .ref p12])) p13 [.str z.r.nm, .ref p12] := .inl (.inl upd_same)
      generalize upd H12 p13 (.tup [.str z.r.nm, .ref p12]) = H13 at m13 e13 ⊢
      have d313 : Dr b H3 H13 := d311.trans (.of (m12.trans m13))
      have el13 := d313.get hlb el3
      refine ⟨l, _, _, rfl, rfl, el13, ?_, ?_⟩
      · rw [List.length_map, List.length_map]
        have := congrArg List.length hn3
        rw [List.length_map, List.length_map, List.length_take] at this
        exact Nat.lt_of_le_of_lt (show tw.length ≤ 1000 by omega) (by decide)
      have hw : Mv [l] H13 (upd H13 l (.lst ((tw.map (·.1)).map V.ref ++ [.ref p13]))) := .set el13 (by simp)
      have hpm' := d313.get hpb e3
      refine ⟨tw ++ [(p13, ⟨⟨z.r.nm, z.r.ar, ps'.map (·.2)⟩, p12, p11⟩)], _, rfl, ?_, ?_, ?_, ?_, ?_, (d03.trans d313).wr nl⟩
      · rw [upd_ne hlp.symm]
        exact hpm'
      · rw [upd_same]
        simp
      · have hR13 := (hR3.dr d313 hB3).lst (H' := H) (o := .lst ((tw.map (·.1)).map V.ref ++ [.ref p13])) el13
        have e1113 := m13.same _ _ (m12.same _ _ e11)
        refine ⟨fun y hy => ?_, fun y hy => ?_, fun y hy => ?_, fun y hy => ?_⟩
        all_goals
          rcases List.mem_append.mp hy with hy | hy
        · exact hR13.row y hy
        · rw [List.mem_singleton] at hy
          subst hy
          exact hw.sqT e13
        · exact hR13.tup y hy
        · rw [List.mem_singleton] at hy
          subst hy
          exact hw.sqT (m13.sqT e12')
        · exact hR13.out y hy
        · rw [List.mem_singleton] at hy
          subst hy
          exact hw.keep _ _ (by simp; rintro rfl; rw [el13] at e1113; cases e1113) e1113
        · exact hR13.ond y hy
        · rw [List.mem_singleton] at hy
          subst hy
          exact hqn
      · rw [List.map_append, hn3, List.take_add_one, hz, List.map_append]
        congr 1
        show [ActR.norm _] = [z.r.norm]
        rw [norm_outs (r := ⟨z.r.nm, z.r.ar, ps'.map (·.2)⟩) (q := z.r) rfl rfl (hA3.ond z hzs) hq]
      · intro y hy
        rcases List.mem_append.mp hy with hy | hy
        · exact hk3 y hy
        · rw [List.mem_singleton] at hy
          subst hy
          have hz' := hok z hzs
          have hql := hq.length_eq
          exact ⟨hz'.nm, hz'.ar0, hz'.ar2, by show 1 ≤ (ps'.map (·.2)).length; rw [hql]; exact hz'.o1, by show (ps'.map (·.2)).length ≤ 6; rw [hql]; exact hz'.o6, fun e he => hz'.on e (hq.mem_iff.mp he)⟩
    · obtain ⟨tw, y, rfl, e3, el3, hR3, hn3, hk3, d03⟩ := h3
      rw [show ((ss.map (·.r.nm)).map V.str).length = ss.length by simp, List.take_length] at hn3
      have hB3 := d03.bag hB
      have htl : tw.length = ss.length := by
        have := congrArg List.length hn3
        rwa [List.length_map, List.length_map] at this
      refine ⟨.ref b, rfl, .ref l, rfl, b, l, _, rfl, hB3, .inl ⟨el3, hlb⟩, by rw [List.length_map, List.length_map]; omega, fun pm ms H4 hms npm e4 d4 => ?_⟩
      rw [List.map_map] at hms
      obtain ⟨tw', htw, rfl⟩ := perm_lift hms
      have hR4 := hR3.dr d4 hB3
      have nmn : (tw'.map (·.2.r.nm)).Nodup := by
        have h1 : (tw'.map (·.2.r.nm)).Perm (zs.map (·.r.nm)) := by
          refine (htw.map _).trans ?_
          have : tw.map (·.2.r.nm) = ss.map (·.r.nm) := by
            have := congrArg (List.map ActR.nm) hn3
            rw [List.map_map, List.map_map] at this
            exact this
          rw [this, ← hss]
          exact (srt_perm zs).map _
        exact h1.nodup_iff.mpr hA.nd
      refine Or.inl ⟨pm, tw'.map (·.1), (tw'.map (·.2)).map ActA.kv, rfl, .inl (.inl (by rw [e4, List.map_map])), paired_acts tw' (fun z hz => hR4.row z (htw.mem_iff.mp hz)), fun p5 np5 => ?_⟩
      have nmn2 : ((tw'.map (·.2)).map (·.r.nm)).Nodup := by rw [List.map_map]; exact nmn
      rw [mergeK_nd _ _ (by rw [List.nil_append, kv_keys]; exact nd_inr nmn2), List.nil_append]
      have m45 : Mv [] H4 (upd H4 p5 (.dK ((tw'.map (·.2)).map ActA.kv))) := .new np5
      have e5 : upd H4 p5 (.dK ((tw'.map (·.2)).map ActA.kv)) p5 = some (.dK ((tw'.map (·.2)).map ActA.kv)) := upd_same
      generalize upd H4 p5 (.dK ((tw'.map (·.2)).map ActA.kv)) = H5 at m45 e5 ⊢
      have hR5 := hR4.mv m45
      have d05 : Dr b H H5 := (d03.trans d4).trans (.of m45)
      refine fun x dx nx ndx hne => ⟨x, dx, p5, tw'.map (·.2), H5, rfl, rfl, nx, ndx, hne, ⟨e5, nmn2, fun z hz => ?_, fun z hz => ?_, fun z hz => ?_⟩, fun z hz => ?_, by rw [List.length_map, htw.length_eq]; omega, fun H6 m6 hW => ⟨rfl, q x H6 ?_ (d05.trans (.of m6))⟩⟩
      · obtain ⟨y, hy, rfl⟩ := List.mem_map.mp hz
        exact hR5.tup y (htw.mem_iff.mp hy)
      · obtain ⟨y, hy, rfl⟩ := List.mem_map.mp hz
        exact hR5.out y (htw.mem_iff.mp hy)
      · obtain ⟨y, hy, rfl⟩ := List.mem_map.mp hz
        exact hR5.ond y (htw.mem_iff.mp hy)
      · obtain ⟨y, hy, rfl⟩ := List.mem_map.mp hz
        exact hk3 y (htw.mem_iff.mp hy)
      · have : normW ((tw'.map (·.2)).map (·.r)) = normW (zs.map (·.r)) := by
          refine normW_perm (by rw [List.map_map]; exact hA.nd) ?_
          rw [List.map_map, List.map_map, List.map_map]
          refine (htw.map _).trans ?_
          show (tw.map (·.2.r.norm)).Perm _
          rw [hn3, ← hss]
          exact (srt_perm zs).map _
        rw [← this]
        exact hW
end
end Fm
namespace Fm
open PySem PySem.Spec PyProof.Rows L2 SlX
local macro_rules | `(tactic| walk_at "nn") => `(tactic| dsimp only [tC, tNil, tCons, tCB, tCall, gName, tSeq, tAsg, tPar, tDrop, tRet])
local macro_rules | `(tactic| walk_at "nc") => `(tactic| dsimp only [tC, tNil, tCons, tCB, tCall])
def sp_goal : Sp := fun vs H Q _ => ∃ (b : Addr) (at_ places : Int), vs = [.ref b, .int at_, .int places] ∧ Bag H b ∧ 0 < places ∧ places ≤ 1000000 ∧ ∀ (g : Int) H', 0 ≤ g → g < places → Dr b H H' → Q (.int g) H'
section
variable {P : Program} {w : World} {K : PySem.W.Frag} {mg : Str → Option Value} {base : Heap}
theorem ok__law_goal (T : TX K mg) {k : Nat} : FnOk P w K mg base CX0 (k + 2) T.d__law_goal.f T.d__law_goal.fd P__law_goal sp_goal := by
  have G__law_take : FnOk P w K mg base CX0 1 T.d__law_take.f T.d__law_take.fd P__law_take sp_take := ok__law_take T
  refine T.d__law_goal.F.ok sc__law_goal (fun vs H Q E h => ?_) (fun cdv A outer s H vs Q E hr h => ?_)
  · obtain ⟨_, _, _, rfl, _⟩ := h
    rfl
  · obtain ⟨b, at_, places, rfl, hB, h0, h1, q⟩ := h
    refine ⟨_, (pss_one (ps_ret (pe_ix (r := rIx K) ix_seq (pe_lst (pa_cons (pe_op op_mod (pe_callTy call_int1 (by rfl) T.b_int bt_int (pa_cons (pe_op (r := rAddG K) op_addG (pv 1) pe_int) pa_nil)) (pv 2)) (pa_cons (pe_op op_mod (pe_callTy call_int1 (by rfl) T.b_int bt_int (pa_cons (pe_op (r := rAddG K) op_addG (pv 1) pe_int) pa_nil)) (pv 2)) (pa_cons (pe_call G__law_take (hr.mono (by omega)) rfl T.d__law_take.g T.d__law_take.F.kp T.d__law_take.b .nil pass0 (pa_cons (pv 0) (pa_cons (pv 2) pa_nil))) pa_nil)))) (pe_call G__law_take (hr.mono (by omega)) rfl T.d__law_take.g T.d__law_take.F.kp T.d__law_take.b .nil pass0 (pa_cons (pv 0) (pa_cons pe_int pa_nil))) (fun _ _ => rfl)))), ?_⟩
    have hg0 := Int.emod_nonneg (at_ + 1) (show places ≠ 0 by omega)
    have hg1 := Int.emod_lt_of_pos (at_ + 1) h0
    refine ⟨.int at_, rfl, Or.inl ⟨at_, 1, rfl, rfl, Or.inl ⟨_, rfl, .int places, rfl, _, _, rfl, rfl, h0, ?_⟩⟩⟩
    refine ⟨.int at_, rfl, Or.inl ⟨at_, 1, rfl, rfl, Or.inl ⟨_, rfl, .int places, rfl, _, _, rfl, rfl, h0, ?_⟩⟩⟩
    refine ⟨.ref b, rfl, .int places, rfl, b, places, rfl, hB, h0, h1, fun g H1 g0 g1 d1 => ?_⟩
    refine ⟨(by decide : 3 ≤ sizeLine), fun p np => ?_⟩
    have hB1 := d1.bag hB
    have hpb := hB1.fneq np
    refine ⟨.ref b, rfl, b, 3, rfl, Dr.bag (.new np) hB1, by decide, by decide, fun i H2 i0 i3 d2 => ?_⟩
    have d02 : Dr b H H2 := (d1.trans (.new np)).trans d2
    have e2 := d2.get hpb (upd_same (H := H1) (a := p) (o := .lst [.int ((at_ + 1) % places), .int ((at_ + 1) % places), .int g]))
    have hi : i.toNat < 3 := by omega
    have key : ∃ v, [V.int ((at_ + 1) % places), .int ((at_ + 1) % places), .int g][i.toNat]? = some (.int v) ∧ 0 ≤ v ∧ v < places := by
      match i.toNat, hi with
      | 0, _ => exact ⟨_, rfl, hg0, hg1⟩
      | 1, _ => exact ⟨_, rfl, hg0, hg1⟩
      | 2, _ => exact ⟨_, rfl, g0, g1⟩
    obtain ⟨v, hv, v0, v1⟩ := key
    exact rd_ixL (.inl (.inl e2)) i0 hv (q v H2 v0 v1 d02)
end
end Fm
namespace Fm
open PySem PySem.Spec PyProof.Rows L2 SlX
local macro_rules | `(tactic| walk_at "nn") => `(tactic| dsimp only [tC, tNil, tCons, tCB, tCall, gName, tSeq, tAsg, tPar, tDrop, tRet])
local macro_rules | `(tactic| walk_at "nc") => `(tactic| dsimp only [tC, tNil, tCons, tCB, tCall])
theorem over_dep {many : Int} {t : Tm} (h : t.ok fun i => 0 ≤ i ∧ i < many) (hd : t.dep ≤ 4) : TmOver many t := by
  have h1 := Tm.small 4 t h hd
  have h2 := cnt_th t
  refine ⟨h, ?_, by omega⟩
  have : (3 : Nat) ^ 4 = 81 := by decide
  omega
theorem perm_ints {ms : List V} {xs : List Int} (h : ms.Perm (xs.map V.int)) : ∃ ws : List Int, ms = ws.map V.int ∧ ws.Perm xs := by
  obtain ⟨ws, h1, h2⟩ := perm_lift h
  exact ⟨ws, h2, h1⟩
theorem rgV_ints (n : Int) : rgV 0 n = ((List.range n.toNat).map fun i : Nat => (i : Int)).map V.int := by
  unfold rgV
  rw [List.map_map, Int.sub_zero]
  refine List.map_congr_left fun i _ => ?_
  simp
theorem rg_nd (n : Int) : ((List.range n.toNat).map fun i : Nat => (i : Int)).Nodup := by
  refine List.Pairwise.map _ (fun a b h => ?_) List.nodup_range
  exact fun e => h (Int.ofNat.inj e)
theorem rg_in {n : Int} : ∀ j ∈ (List.range n.toNat).map fun i : Nat => (i : Int), 0 ≤ j ∧ j < n := fun j hj => by
  obtain ⟨i, hi, rfl⟩ := List.mem_map.mp hj
  have := List.mem_range.mp hi
  omega
/-- what the makers of statements are handed -/
structure Hand (K : PySem.W.Frag) (H : Hp) (b d nm : Addr) (zs : List ActA) (xs : List Str) (many : Int) : Prop where
  bag : Bag H b
  acts : ActsAt K H d zs
  ok : DrawnActs many (zs.map (·.r))
  nms : Nms H b nm xs
  m0 : 0 ≤ many
  m1 : many ≤ 100
theorem Hand.dr {K : PySem.W.Frag} {H H' : Hp} {b d nm : Addr} {zs : List ActA} {xs : List Str} {many : Int} (h : Hand K H b d nm zs xs many) (m : Dr b H H') : Hand K H' b d nm zs xs many := ⟨m.bag h.bag, h.acts.dr m h.bag, h.ok, h.nms.dr m, h.m0, h.m1⟩
def sp_lask (K : PySem.W.Frag) : Sp := fun vs H Q _ => ∃ (b d nm : Addr) (zs : List ActA) (xs : List Str) (many at_ places : Int), vs = [.ref b, .ref d, .ref nm, .int many, .int at_, .int places] ∧ Hand K H b d nm zs xs many ∧ 1 ≤ zs.length ∧ 0 < places ∧ places ≤ 1000000 ∧
  ∀ v (r : ActR) ts ways H', r ∈ zs.map (·.r) → AskOk r many places ts ways → (∀ t ∈ ts, t.dep ≤ 1) → ways.map (·.1) = (srt leS (·.1) r.outs).map (·.1) → Im K H' v (Sta.ask r.nm ts ways).d → Dr b H H' → Q v H'
section
variable {P : Program} {w : World} {K : PySem.W.Frag} {mg : Str → Option Value} {base : Heap}
theorem ok__law_ask (T : TX K mg) {k : Nat} : FnOk P w K mg base CX0 (k + 5) T.d__law_ask.f T.d__law_ask.fd P__law_ask (sp_lask K) := by
  have G__law_take : FnOk P w K mg base CX0 1 T.d__law_take.f T.d__law_take.fd P__law_take sp_take := ok__law_take T
  have G__law_goal : FnOk P w K mg base CX0 2 T.d__law_goal.f T.d__law_goal.fd P__law_goal sp_goal := ok__law_goal T
  have G__law_mixed : FnOk P w K mg base CX0 2 T.d__law_mixed.f T.d__law_mixed.fd P__law_mixed (sp_mixG K) := ok__law_mixed T
  have G__law_term : FnOk P w K mg base CX0 4 T.d__law_term.f T.d__law_term.fd P__law_term (sp_term K 2) := ok__law_term T 2
  refine T.d__law_ask.F.ok sc__law_ask (fun vs H Q E h => ?_) (fun cdv A outer s H vs Q E hr h => ?_)
  · obtain ⟨_, _, _, _, _, _, _, _, rfl, _⟩ := h
    rfl
  · obtain ⟨b, d, nm, zs, xs, many, at_, places, rfl, hH, hz1, h0, h1, q⟩ := h
    have hu1 := hu1_of hr
    refine ⟨_, (pss_cons (ps_set (i := 6) sc__law_ask.nd rfl (Or.inl rfl) (pe_ix (r := rIx K) ix_seq (pe_callB (r := rSortA K) (cr_sortA rfl) (by rfl) T.b_sorted bt_sorted (pa_cons (pv 1) pa_nil)) (pe_call G__law_take (hr.mono (by omega)) rfl T.d__law_take.g T.d__law_take.F.kp T.d__law_take.b .nil pass0 (pa_cons (pv 0) (pa_cons (pe_callB (r := rLenG K) call_lenG (by rfl) T.b_len bt_len (pa_cons (pv 1) pa_nil)) pa_nil))) (fun _ _ => rfl))) (pss_cons (ps_par (i := 7) (j := 8) rfl sc__law_ask.nd rfl rfl (by decide) rfl rfl (pa_cons (pe_callTy (r := rTupOf K) call_tupG (by rfl) T.b_tuple bt_tuple (pa_cons (pe_lc (own := [("_law_k", 11)]) (g := gName 11) (by rfl) sc__law_ask.nd (pi_range1 (by rfl) T.b_range (pa_cons (pe_ix (r := rIx K) ix_seq (pe_dget hu1 (pv 1) (pv 6) (fun _ _ => rfl)) pe_int (fun _ _ => rfl)) pa_nil)) (blkOk_by (own := [("_law_k", 11)]) (N := N__law_ask) (sc := defScope s__law_ask) (by decide +kernel)) (fun _ _ _ _ _ => pg_name (i := 11) sc__law_ask.nd rfl (Or.inl rfl)) (fun _ _ _ _ _ => pts_nil) (fun _ _ _ _ _ => (pe_call G__law_term (hr.mono (by omega)) rfl T.d__law_term.g T.d__law_term.F.kp T.d__law_term.b .nil pass0 (pa_cons (pv 0) (pa_cons (pv 2) (pa_cons (pv 3) (pa_cons pe_int pa_nil))))))) pa_nil)) (pa_cons (pe_lst pa_nil) pa_nil)) rfl) (pss_cons (ps_for PassesOwn.never rfl (pi_seq (pe_callB (r := rSortA K) (cr_sortA rfl) (by rfl) T.b_sorted bt_sorted (pa_cons (pe_ix (r := rIx K) ix_seq (pe_dget hu1 (pv 1) (pv 6) (fun _ _ => rfl)) pe_int (fun _ _ => rfl)) pa_nil))) (pg_name (i := 9) sc__law_ask.nd rfl (Or.inl rfl)) (pss_cons (ps_set (i := 10) sc__law_ask.nd rfl (Or.inl rfl) (pe_callTy (r := rTupOf K) call_tupG (by rfl) T.b_tuple bt_tuple (pa_cons (pe_slice (r := rSlG K) sl_G (pe_call G__law_mixed (hr.mono (by omega)) rfl T.d__law_mixed.g T.d__law_mixed.F.kp T.d__law_mixed.b .nil pass0 (pa_cons (pv 0) (pa_cons (pe_listRg rfl rfl T.b_list (prg_1 rfl T.b_range (pv 3))) pa_nil))) po_none (po_some (pe_dget hu1 (pe_ix (r := rIx K) ix_seq (pe_dget hu1 (pv 1) (pv 6) (fun _ _ => rfl)) pe_int (fun _ _ => rfl)) (pv 9) (fun _ _ => rfl)))) pa_nil))) (pss_one (ps_expr (pe_bm PySem.F.plainAttrs_list PySem.F.slot_list_append PySem.F.type_list_append mt_append (pv 8) (pa_cons (pe_tup (pa_cons (pv 9) (pa_cons (pv 10) (pa_cons (pe_call G__law_goal (hr.mono (by omega)) rfl T.d__law_goal.g T.d__law_goal.F.kp T.d__law_goal.b .nil pass0 (pa_cons (pv 0) (pa_cons (pv 4) (pa_cons (pv 5) pa_nil)))) pa_nil)))) pa_nil)))))) (pss_one (ps_ret (pe_tup (pa_cons pe_str (pa_cons (pv 6) (pa_cons (pv 7) (pa_cons (pe_callTy (r := rTupOf K) call_tupG (by rfl) T.b_tuple bt_tuple (pa_cons (pv 8) pa_nil)) pa_nil)))))))))), ?_⟩
    have hzl := hH.ok.few
    rw [List.length_map] at hzl
    have hlz : (zs.map (·.r.nm)).length < 64 := by rw [List.length_map]; omega
    refine ⟨.ref d, rfl, Or.inl ⟨d, _, zs.map (·.r.nm), rfl, .inl hH.acts.at_, kv_keys zs, hlz, fun ys p hp hs np => ?_⟩⟩
    have hys := srt_keys totS hH.acts.nd hp (sortedS_pw ys hs)
    generalize hss : srt leS (fun z : ActA => z.r.nm) zs = ss at hys
    subst hys
    have hsub : ∀ z ∈ ss, z ∈ zs := fun z hz => by rw [← srt_mem (le := leS) (k := fun z : ActA => z.r.nm), hss]; exact hz
    have hsl : ss.length = zs.length := by rw [← hss, srt_len]
    have hpb : p ≠ b := hH.bag.fneq np
    have e1 : upd H p (.lst ((ss.map (·.r.nm)).map V.str)) p = some (.lst ((ss.map (·.r.nm)).map V.str)) := upd_same
    have d1 : Dr b H (upd H p (.lst ((ss.map (·.r.nm)).map V.str))) := .new np
    generalize upd H p (.lst ((ss.map (·.r.nm)).map V.str)) = H1 at e1 d1 ⊢
    have hH1 := hH.dr d1
    refine ⟨.ref b, rfl, .ref d, rfl, ?_⟩
    walk_at "nc"
    refine Or.inr (Or.inr ⟨d, _, rfl, hH1.acts.at_, b, _, rfl, hH1.bag, by rw [List.length_map]; omega, by rw [List.length_map]; omega, fun i H2 i0 i1 d2 => ?_⟩)
    rw [List.length_map] at i1
    have hi : i.toNat < ss.length := by omega
    have hH2 := hH1.dr d2
    refine rd_ixL (.inl (.inl (d2.get hpb e1))) i0 (v := .str ss[i.toNat].r.nm) (by rw [List.getElem?_map, List.getElem?_map, List.getElem?_eq_getElem hi]; rfl) ?_
    have hzs : ss[i.toNat] ∈ zs := hsub _ (List.getElem_mem hi)
    generalize ss[i.toNat] = z at hzs ⊢
    have hzr : z.r ∈ zs.map (·.r) := List.mem_map.mpr ⟨z, hzs, rfl⟩
    have hzo := hH.ok.ok _ hzr
    have hzm := hH.ok.le _ hzr
    have har0 := hzo.ar0
    have har2 := hzo.ar2
    -- the terms
    refine ⟨.ref d, rfl, .str z.r.nm, rfl, d, .ref z.a, rfl, Or.inl ⟨_, .inr z.r.nm, .inl hH2.acts.at_, rfl, (hH2.acts.val hzs).symm⟩, ?_⟩
    refine rd_ixT (hH2.acts.tup z hzs) (by decide) (v := .int z.r.ar) rfl ?_
    refine ⟨z.r.ar, rfl, by omega, by omega, fun D nD => ?_⟩
    refine lc_range (lo := 0) (n := z.r.ar.toNat) (fun i H3 => ∃ (vs : List V) (ts : List Tm), H3 D = some (.lst vs) ∧ Ims K H3 vs (Tm.ds ts) ∧ ts.length = i ∧ (∀ t ∈ ts, TmOver many t ∧ t.dep ≤ 1) ∧ Dr b H2 H3)
      ⟨[], [], upd_same, Ims.nil, rfl, by simp, Dr.new nD⟩ (fun i H3 hi h3 => ?_) (fun H3 h3 => ?_)
    · obtain ⟨vs, ts, e3, i3, l3, o3, d3⟩ := h3
      have hH3 := hH2.dr d3
      have hN := hH3.nms
      refine ⟨rfl, .ref b, rfl, .ref nm, rfl, .int many, rfl, b, nm, xs, many, 1, rfl, hH3.bag, hN.at_, hN.ne, hN.some_, hN.few, hN.ok, hH.m0, by have := hH.m1; omega, by decide, fun v t H4 ho hd1 hd2 him d4 => ?_⟩
      have e4 := d4.get (hH2.bag.fneq nD) e3
      refine ⟨_, e4, ?_, vs ++ [v], ts ++ [t], upd_same, ?_, by simp [l3], ?_, (d3.trans d4).wr nD⟩
      · rw [i3.length, Tm.ds_map, List.length_map, l3]
        exact small1000 (by omega)
      · rw [show Tm.ds (ts ++ [t]) = Tm.ds ts ++ [t.d] by simp [Tm.ds_map]]
        exact ((i3.mv d4.mv).append (Ims.cons him Ims.nil)).mv (Mv.set (S := [D]) e4 (by simp))
      · intro y hy
        rcases List.mem_append.mp hy with hy | hy
        · exact o3 y hy
        · rw [List.mem_singleton.mp hy]
          exact ⟨over_dep ho (by have : max (1 : Int).toNat 1 = 1 := rfl; omega), by have : max (1 : Int).toNat 1 = 1 := rfl; omega⟩
    obtain ⟨vs, ts, e3, i3, l3, o3, d3⟩ := h3
    walk_at "nc"
    refine rd_tupOf (.inl (.inl e3)) fun p4 H4 m4 e4 => ?_
    have hts : Im K H4 (.ref p4) (.tuple (Tm.ds ts)) := .tup e4 (i3.mv m4)
    have d04 := (d1.trans d2).trans (d3.trans (.of m4))
    have hH4 := hH.dr d04
    refine ⟨Nat.zero_le _, fun l nl => ?_⟩
    refine ⟨_, _, rfl, ?_⟩
    have nlH := d04.free hH.bag nl
    have hlb : l ≠ b := hH4.bag.fneq nl
    have e5 : upd H4 l (.lst []) l = some (.lst []) := upd_same
    have d05 : Dr b H (upd H4 l (.lst [])) := d04.trans (.new nl)
    have hts5 := hts.mv (Mv.new (S := []) (o := .lst []) nl)
    generalize upd H4 l (.lst []) = H5 at e5 d05 hts5 ⊢
    have hH5 := hH.dr d05
    -- the ways
    refine ⟨.ref d, rfl, .str z.r.nm, rfl, d, .ref z.a, rfl, Or.inl ⟨_, .inr z.r.nm, .inl hH5.acts.at_, rfl, (hH5.acts.val hzs).symm⟩, ?_⟩
    refine rd_ixT (hH5.acts.tup z hzs) (by decide) (v := .ref z.o) rfl ?_
    have hol : (z.r.outs.map (·.1)).length < 64 := by rw [List.length_map]; have := hzo.o6; omega
    refine Or.inl ⟨z.o, _, z.r.outs.map (·.1), rfl, .inl (hH5.acts.out z hzs), row_keys _, hol, fun ys2 p6 hp2 hs2 np6 => ⟨p6, rfl, ?_⟩⟩
    have hond := hH.acts.ond z hzs
    have hys2 := srt_keys totS hond hp2 (sortedS_pw ys2 hs2)
    generalize hos : srt leS (fun e : Str × Int => e.1) z.r.outs = os at hys2
    subst hys2
    have hosub : ∀ e ∈ os, e ∈ z.r.outs := fun e he => by rw [← srt_mem (le := leS) (k := fun e : Str × Int => e.1), hos]; exact he
    have hosl : os.length = z.r.outs.length := by rw [← hos, srt_len]
    have hp6b : p6 ≠ b := hH5.bag.fneq np6
    have hlp6 : l ≠ p6 := ne_of_none e5 np6
    have e6 : upd H5 p6 (.lst ((os.map (·.1)).map V.str)) p6 = some (.lst ((os.map (·.1)).map V.str)) := upd_same
    have e56 : upd H5 p6 (.lst ((os.map (·.1)).map V.str)) l = some (.lst []) := same_new np6 _ _ e5
    have d06 : Dr b H (upd H5 p6 (.lst ((os.map (·.1)).map V.str))) := d05.trans (.new np6)
    have hts6 := hts5.mv (Mv.new (S := []) (o := .lst ((os.map (·.1)).map V.str)) np6)
    generalize upd H5 p6 (.lst ((os.map (·.1)).map V.str)) = H6 at e6 e56 d06 hts6 ⊢
    refine Or.inl ⟨⟨_, .inl (.inl e6)⟩, ?_⟩
    refine for_list (K := K) (a := p6) (xs := (os.map (·.1)).map V.str) (fun j σ H7 => ∃ (vs : List V) (ways : List (Str × List Int × Int)) (u9 u10 : Option V), σ = [some (.ref b), some (.ref d), some (.ref nm), some (.int many), some (.int at_), some (.int places), some (.str z.r.nm), some (.ref p4), some (.ref l), u9, u10, none] ∧ H7 p6 = some (.lst ((os.map (·.1)).map V.str)) ∧ H7 l = some (.lst vs) ∧
        Ims K H7 vs (ways.map wayD) ∧ ways.map (·.1) = (os.take j).map (·.1) ∧ (∀ wy ∈ ways, WayOk z.r many places wy) ∧ Im K H7 (.ref p4) (.tuple (Tm.ds ts)) ∧ Dr b H H7)
      ⟨[], [], none, none, rfl, e6, e56, Ims.nil, by simp, by simp, hts6, d06⟩ (fun j σ H7 _ h7 => ?_) (fun j x σ H7 hx h7 => ?_) (fun σ H7 h7 => ?_)
    · obtain ⟨vs, ways, u9, u10, rfl, e7, _⟩ := h7
      exact .inl (.inl e7)
    · obtain ⟨ws, ways, u9, u10, rfl, e7, el7, i7, n7, k7, t7, d07⟩ := h7
      rw [List.getElem?_map, List.getElem?_map, Option.map_map] at hx
      obtain ⟨e, he, rfl⟩ := Option.map_eq_some_iff.mp hx
      have hj := (List.getElem?_eq_some_iff.mp he).1
      have heo := hosub e (List.mem_of_getElem? he)
      have hH7 := hH.dr d07
      have hm1 := hH.m1
      have hm0 := hH.m0
      refine ⟨.ref b, rfl, .int many, rfl, many, rfl, .of_le (by decide) (by omega) (by decide) hm0, fun q8 nq8 => ?_⟩
      have hq8b : q8 ≠ b := hH7.bag.fneq nq8
      have d8 : Dr b H7 (upd H7 q8 (.lst (rgV 0 many))) := .new nq8
      have e8 : upd H7 q8 (.lst (rgV 0 many)) q8 = some (.lst (rgV 0 many)) := upd_same
      generalize upd H7 q8 (.lst (rgV 0 many)) = H8 at d8 e8 ⊢
      refine ⟨b, q8, _, rfl, d8.bag hH7.bag, .inl ⟨e8, hq8b⟩, by rw [rgV_length]; omega, fun pm ms H9 hms npm e9 d9 => ?_⟩
      rw [rgV_ints] at hms
      obtain ⟨ns, rfl, hns⟩ := perm_ints hms
      have d79 := d8.trans d9
      have hH9 := hH7.dr d79
      refine ⟨.ref d, rfl, .str z.r.nm, rfl, d, .ref z.a, rfl, Or.inl ⟨_, .inr z.r.nm, .inl hH9.acts.at_, rfl, (hH9.acts.val hzs).symm⟩, ?_⟩
      refine rd_ixT (hH9.acts.tup z hzs) (by decide) (v := .ref z.o) rfl ?_
      refine ⟨.str e.1, rfl, z.o, .int e.2, rfl, Or.inl ⟨_, .inr e.1, .inl (hH9.acts.out z hzs), rfl, (row_val hond heo).symm⟩, e.2, rfl, ?_⟩
      have he0 := (hzo.on e heo).2.1
      have hem := hzm e heo
      refine rd_slL e9 he0 fun p10 np10 => ?_
      walk_at "nc"
      have e10 : upd H9 p10 (.lst ((ns.map V.int).take e.2.toNat)) p10 = some (.lst ((ns.take e.2.toNat).map V.int)) := by rw [upd_same, List.map_take]
      have d710 : Dr b H7 (upd H9 p10 (.lst ((ns.map V.int).take e.2.toNat))) := d79.trans (.new np10)
      generalize upd H9 p10 (.lst ((ns.map V.int).take e.2.toNat)) = H10 at e10 d710 ⊢
      refine rd_tupOf (.inl (.inl e10)) fun p11 H11 m11 e11 => ?_
      have d711 := d710.trans (Dr.of m11)
      have hH11 := hH7.dr d711
      have el11 := d711.get hlb el7
      refine ⟨.ref l, rfl, .inl ⟨rfl, _, .inl (.inl el11)⟩, .str e.1, rfl, .ref p11, rfl, ?_⟩
      refine ⟨.ref b, rfl, .int at_, rfl, .int places, rfl, b, at_, places, rfl, hH11.bag, h0, h1, fun g H12 g0 g1 d12 => ?_⟩
      refine ⟨(by decide : 3 ≤ sizeLine), fun p13 np13 => ?_⟩
      have d713 : Dr b H7 (upd H12 p13 (.tup [.str e.1, .ref p11, .int g])) := (d711.trans d12).trans (.new np13)
      have e13 : SqT K (upd H12 p13 (.tup [.str e.1, .ref p11, .int g])) p13 [.str e.1, .ref p11, .int g] := .inl (.inl upd_same)
      have e1113 := (d12.trans (Dr.new (o := .tup [.str e.1, .ref p11, .int g]) np13)).mv.sqT e11
      generalize upd H12 p13 (.tup [.str e.1, .ref p11, .int g]) = H13 at d713 e13 e1113 ⊢
      have el13 := d713.get hlb el7
      have hwl : ways.length = (os.take j).length := by
        have := congrArg List.length n7
        rwa [List.length_map, List.length_map] at this
      rw [List.length_take] at hwl
      have ho6 := hzo.o6
      refine ⟨l, _, _, rfl, rfl, el13, ?_, ?_⟩
      · rw [i7.length, List.length_map]
        exact small1000 (by omega)
      have hw : Mv [l] H13 (upd H13 l (.lst (ws ++ [.ref p13]))) := .set el13 (by simp)
      have hnl : ns.length = many.toNat := by
        have := hns.length_eq
        simpa using this
      refine ⟨ws ++ [.ref p13], ways ++ [(e.1, ns.take e.2.toNat, g)], _, _, rfl, ?_, upd_same, ?_, ?_, ?_, (t7.mv d713.mv).mv hw, (d07.trans d713).wr nlH⟩
      · rw [upd_ne hlp6.symm]
        exact d713.get hp6b e7
      · rw [List.map_append]
        refine ((i7.mv d713.mv).append (.cons ?_ .nil)).mv hw
        exact .tup e13 (.cons (.str _) (.cons (.tup e1113 (.ofInts _)) (.cons (.int _) .nil)))
      · rw [List.map_append, n7, List.take_add_one, he, List.map_append]
        rfl
      · intro wy hwy
        rcases List.mem_append.mp hwy with hwy | hwy
        · exact k7 wy hwy
        · rw [List.mem_singleton] at hwy
          subst hwy
          refine ⟨e.2, heo, ?_, ?_, fun j hj => ?_, g0, g1⟩
          · show ((ns.take e.2.toNat).length : Int) = e.2
            rw [List.length_take, hnl]
            omega
          · exact (hns.nodup_iff.mpr (rg_nd many)).sublist (List.take_sublist _ _)
          · exact rg_in j (hns.mem_iff.mp (List.mem_of_mem_take hj))
    · obtain ⟨ws, ways, u9, u10, rfl, e7, el7, i7, n7, k7, t7, d07⟩ := h7
      rw [show ((os.map (·.1)).map V.str).length = os.length by simp, List.take_length] at n7
      refine ⟨.str z.r.nm, rfl, .ref p4, rfl, .ref l, rfl, ?_⟩
      walk_at "nc"
      refine rd_tupOf (.inl (.inl el7)) fun p8 H8 m8 e8 => ?_
      refine ⟨(by decide : 4 ≤ sizeLine), fun p9 np9 => ?_⟩
      have m9 : Mv [] H8 (upd H8 p9 (.tup [.str "ask", .str z.r.nm, .ref p4, .ref p8])) := .new np9
      refine q (.ref p9) z.r ts ways _ hzr ⟨by omega, fun t ht => (o3 t ht).1, ?_, k7⟩ (fun t ht => (o3 t ht).2) (by rw [n7, hos]) ?_ (d07.trans (.of (m8.trans m9)))
      · rw [n7, ← hos]
        exact (srt_perm _).map _
      · exact .tup (.inl (.inl upd_same)) (.cons (.str _) (.cons (.str _) (.cons (t7.mv (m8.trans m9)) (.cons (.tup (m9.sqT e8) (i7.mv (m8.trans m9))) .nil))))
end
end Fm
namespace Fm
open PySem PySem.Spec PyProof.Rows L2 SlX
local macro_rules | `(tactic| walk_at "nn") => `(tactic| dsimp only [tC, tNil, tCons, tCB, tCall, gName, tSeq, tAsg, tPar, tDrop, tRet])
local macro_rules | `(tactic| walk_at "nc") => `(tactic| dsimp only [tC, tNil, tCons, tCB, tCall])
/-- a statement as it is drawn: in order -/
def Sta.rw (rs : List ActR) (many places : Int) (st : Sta) : Prop := st.ok rs many places ∧ st.ord = st
/-- how deep its terms are -/
def Sta.dp (n : Nat) : Sta → Prop
  | .set chs _ => ∀ c ∈ chs, c.2.dep ≤ n
  | .ask _ ts _ => ∀ t ∈ ts, t.dep ≤ n
  | .fin _ ts => ∀ t ∈ ts, t.dep ≤ n
def Sta.raw (rs : List ActR) (many places : Int) (st : Sta) : Prop := st.rw rs many places ∧ st.dp 1
/-- the changes of a set lie in a tuple without a dict of its own -/
def Sta.pl (K : PySem.W.Frag) (H : Hp) (v : V) : Sta → Prop
  | .set chs g => ∃ a e zs, v = .ref a ∧ SqT K H a [.str "set", .ref e, .int g] ∧ PlT H e zs ∧ Ims K H zs (chs.map chD)
  | _ => True
theorem pl_mv {K : PySem.W.Frag} {S : List Addr} {H H' : Hp} {v : V} (m : Mv S H H') (hS : ∀ q ∈ S, ∀ o ys, H q ≠ some (.frz o (.tup ys))) : ∀ {st : Sta}, st.pl K H v → st.pl K H' v
  | .set _ _, ⟨a, e, zs, h1, h2, h3, h4⟩ => ⟨a, e, zs, h1, m.sqT h2, h3.mv m hS, h4.mv m⟩
  | .ask _ _ _, _ => trivial
  | .fin _ _, _ => trivial
def Rws (K : PySem.W.Frag) (H : Hp) (vs : List V) (sts : List Sta) : Prop := Ims K H vs (sts.map Sta.d) ∧ ∀ (i : Nat) (v : V) (st : Sta), vs[i]? = some v → sts[i]? = some st → st.pl K H v
theorem Rws.mv {K : PySem.W.Frag} {S : List Addr} {H H' : Hp} {vs : List V} {sts : List Sta} (h : Rws K H vs sts) (m : Mv S H H') (hS : ∀ q ∈ S, ∀ o ys, H q ≠ some (.frz o (.tup ys))) : Rws K H' vs sts := ⟨h.1.mv m, fun i v st h1 h2 => pl_mv m hS (h.2 i v st h1 h2)⟩
theorem Rws.mv0 {K : PySem.W.Frag} {H H' : Hp} {vs : List V} {sts : List Sta} (h : Rws K H vs sts) (m : Mv [] H H') : Rws K H' vs sts := h.mv m (fun q hq => nomatch hq)
theorem no_frz {H : Hp} {p : Addr} {u : HO} (h : H p = some u) (hu : ∀ o ys, u ≠ .frz o (.tup ys)) : ∀ q ∈ [p], ∀ o ys, H q ≠ some (.frz o (.tup ys)) := fun q hq o ys e => by
  rw [List.mem_singleton.mp hq, h] at e
  exact hu o ys (Option.some.inj e)
theorem Rws.dr {K : PySem.W.Frag} {H H' : Hp} {b : Addr} {vs : List V} {sts : List Sta} (h : Rws K H vs sts) (m : Dr b H H') (hB : Bag H b) : Rws K H' vs sts := by
  refine h.mv m.mv ?_
  obtain ⟨c, s, mm, k, ns, h1, _⟩ := hB
  exact no_frz h1 (fun _ _ z => by cases z)
theorem Rws.snoc {K : PySem.W.Frag} {H : Hp} {vs : List V} {sts : List Sta} {v : V} {st : Sta} (h : Rws K H vs sts) (hv : Im K H v st.d) (hp : st.pl K H v) : Rws K H (vs ++ [v]) (sts ++ [st]) := by
  have hl := h.1.length
  rw [List.length_map] at hl
  refine ⟨by rw [List.map_append]; exact h.1.append (.cons hv .nil), fun i v' st' h1 h2 => ?_⟩
  by_cases hi : i < vs.length
  · rw [List.getElem?_append_left hi] at h1
    rw [List.getElem?_append_left (by omega)] at h2
    exact h.2 i v' st' h1 h2
  · have : i = vs.length := by
      have := (List.getElem?_eq_some_iff.mp h1).1
      rw [List.length_append, List.length_singleton] at this
      omega
    subst this
    rw [List.getElem?_append_right (Nat.le_refl _), Nat.sub_self] at h1
    rw [List.getElem?_append_right (by omega), show vs.length - sts.length = 0 by omega] at h2
    cases h1
    cases h2
    exact hp
def sp_line (K : PySem.W.Frag) : Sp := fun vs H Q _ => ∃ (b d nm : Addr) (zs : List ActA) (xs : List Str) (many at_ places : Int), vs = [.ref b, .ref d, .ref nm, .int many, .int at_, .int places] ∧ Hand K H b d nm zs xs many ∧ 0 < places ∧ places ≤ 1000000 ∧
  ∀ v (st : Sta) H', st.raw (zs.map (·.r)) many places → Im K H' v st.d → st.pl K H' v → Dr b H H' → Q v H'
theorem ask_ord {act : Str} {ts : List Tm} {ways : List (Str × List Int × Int)} {outs : List (Str × Int)} (n : (outs.map (·.1)).Nodup) (h : ways.map (·.1) = (srt leS (·.1) outs).map (·.1)) : (Sta.ask act ts ways).ord = .ask act ts ways := by
  show Sta.ask act ts (srt leS (·.1) ways) = _
  congr 1
  refine (srt_one totS ?_ (.refl _) ?_).symm
  · rw [h]
    exact srt_nd n
  · have : (ways.map (·.1)).Pairwise fun a b => leS a b = true := by
      rw [h]
      exact List.pairwise_map.mpr (srt_pw totS outs)
    exact List.pairwise_map.mp this
section
variable {P : Program} {w : World} {K : PySem.W.Frag} {mg : Str → Option Value} {base : Heap}
theorem ok__law_line (T : TX K mg) {k : Nat} : FnOk P w K mg base CX0 (k + 6) T.d__law_line.f T.d__law_line.fd P__law_line (sp_line K) := by
  have G__law_take : FnOk P w K mg base CX0 1 T.d__law_take.f T.d__law_take.fd P__law_take sp_take := ok__law_take T
  have G__law_goal : FnOk P w K mg base CX0 2 T.d__law_goal.f T.d__law_goal.fd P__law_goal sp_goal := ok__law_goal T
  have G__law_mixed : FnOk P w K mg base CX0 2 T.d__law_mixed.f T.d__law_mixed.fd P__law_mixed (sp_mixG K) := ok__law_mixed T
  have G__law_term : FnOk P w K mg base CX0 4 T.d__law_term.f T.d__law_term.fd P__law_term (sp_term K 2) := ok__law_term T 2
  have G__law_ask : FnOk P w K mg base CX0 5 T.d__law_ask.f T.d__law_ask.fd P__law_ask (sp_lask K) := ok__law_ask T
  refine T.d__law_line.F.ok sc__law_line (fun vs H Q E h => ?_) (fun cdv A outer s H vs Q E hr h => ?_)
  · obtain ⟨_, _, _, _, _, _, _, _, rfl, _⟩ := h
    rfl
  · obtain ⟨b, d, nm, zs, xs, many, at_, places, rfl, hH, h0, h1, q⟩ := h
    have hu64 := hr.units
    refine ⟨_, (pss_cons (ps_set (i := 6) sc__law_line.nd rfl (Or.inl rfl) (pe_call G__law_take (hr.mono (by omega)) rfl T.d__law_take.g T.d__law_take.F.kp T.d__law_take.b .nil pass0 (pa_cons (pv 0) (pa_cons pe_int pa_nil)))) (Evl.pss_cut (ps_if (PW.pt (pw_and (pt_cmpR op_lt (pv 6) pe_int (nomark _)) (pw_and1 (pt_cmpR (r := rNeE) (op_neE (Nat.lt_of_le_of_lt (Nat.le_add_right _ 64) hu64)) (pv 1) pe_dnewK (nomark _))))) (pss_one (ps_ret (pe_call G__law_ask (hr.mono (by omega)) rfl T.d__law_ask.g T.d__law_ask.F.kp T.d__law_ask.b .nil pass0 (pa_cons (pv 0) (pa_cons (pv 1) (pa_cons (pv 2) (pa_cons (pv 3) (pa_cons (pv 4) (pa_cons (pv 5) pa_nil))))))))) pss_nil) (pss_cons (ps_if (pt_cmpR (r := rEqG K) (op_eqG hu64) (pv 6) pe_int (nomark _)) (pss_cons (ps_set (i := 7) sc__law_line.nd rfl (Or.inl rfl) (pe_callTy (r := rTupOf K) call_tupG (by rfl) T.b_tuple bt_tuple (pa_cons (pe_lc (own := [("_law_k", 11)]) (g := gName 11) (by rfl) sc__law_line.nd (pi_range1 (by rfl) T.b_range (pa_cons (pe_call G__law_take (hr.mono (by omega)) rfl T.d__law_take.g T.d__law_take.F.kp T.d__law_take.b .nil pass0 (pa_cons (pv 0) (pa_cons pe_int pa_nil))) pa_nil)) (blkOk_by (own := [("_law_k", 11)]) (N := N__law_line) (sc := defScope s__law_line) (by decide +kernel)) (fun _ _ _ _ _ => pg_name (i := 11) sc__law_line.nd rfl (Or.inl rfl)) (fun _ _ _ _ _ => pts_nil) (fun _ _ _ _ _ => (pe_call G__law_term (hr.mono (by omega)) rfl T.d__law_term.g T.d__law_term.F.kp T.d__law_term.b .nil pass0 (pa_cons (pv 0) (pa_cons (pv 2) (pa_cons (pv 3) (pa_cons pe_int pa_nil))))))) pa_nil))) (pss_one (ps_ret (pe_tup (pa_cons pe_str (pa_cons (pe_ix (r := rIx K) ix_seq (pv 2) (pe_call G__law_take (hr.mono (by omega)) rfl T.d__law_take.g T.d__law_take.F.kp T.d__law_take.b .nil pass0 (pa_cons (pv 0) (pa_cons (pe_callB (r := rLenG K) call_lenG (by rfl) T.b_len bt_len (pa_cons (pv 2) pa_nil)) pa_nil))) (fun _ _ => rfl)) (pa_cons (pv 7) pa_nil))))))) pss_nil) (pss_cons (ps_set (i := 8) sc__law_line.nd rfl (Or.inl rfl) (pe_callB (r := rSortA K) (cr_sortA rfl) (by rfl) T.b_sorted bt_sorted (pa_cons (pe_slice (r := rSlG K) sl_G (pe_call G__law_mixed (hr.mono (by omega)) rfl T.d__law_mixed.g T.d__law_mixed.F.kp T.d__law_mixed.b .nil pass0 (pa_cons (pv 0) (pa_cons (pe_listRg rfl rfl T.b_list (prg_1 rfl T.b_range (pv 3))) pa_nil))) po_none (po_some (pe_call G__law_take (hr.mono (by omega)) rfl T.d__law_take.g T.d__law_take.F.kp T.d__law_take.b .nil pass0 (pa_cons (pv 0) (pa_cons pe_int pa_nil))))) pa_nil))) (pss_cons (ps_set (i := 9) sc__law_line.nd rfl (Or.inl rfl) (pe_callTy (r := rTupF K) call_tupF (by rfl) T.b_tuple bt_tuple (pa_cons (pe_lc (own := [("_law_one", 10)]) (g := gName 10) (by rfl) sc__law_line.nd (pi_seq (pv 8)) (blkOk_by (own := [("_law_one", 10)]) (N := N__law_line) (sc := defScope s__law_line) (by decide +kernel)) (fun _ _ _ _ _ => pg_name (i := 10) sc__law_line.nd rfl (Or.inl rfl)) (fun _ _ _ _ _ => pts_nil) (fun _ _ _ _ _ => (pe_tup (pa_cons (pv 10) (pa_cons (pe_call G__law_term (hr.mono (by omega)) rfl T.d__law_term.g T.d__law_term.F.kp T.d__law_term.b .nil pass0 (pa_cons (pv 0) (pa_cons (pv 2) (pa_cons (pv 3) (pa_cons pe_int pa_nil))))) pa_nil))))) pa_nil))) (pss_one (ps_ret (pe_tup (pa_cons pe_str (pa_cons (pv 9) (pa_cons (pe_call G__law_goal (hr.mono (by omega)) rfl T.d__law_goal.g T.d__law_goal.F.kp T.d__law_goal.b .nil pass0 (pa_cons (pv 0) (pa_cons (pv 4) (pa_cons (pv 5) pa_nil)))) pa_nil))))))))))), ?_⟩
    have hm0 := hH.m0
    have hm1 := hH.m1
    refine ⟨.ref b, rfl, b, 9, rfl, hH.bag, by decide, by decide, fun way H1 w0 w9 d1 => ?_⟩
    have hH1 := hH.dr d1
    refine ⟨fun σ H2 => σ = [some (.ref b), some (.ref d), some (.ref nm), some (.int many), some (.int at_), some (.int places), some (.int way), none, none, none, none, none] ∧ Dr b H H2, ?_, ?_⟩
    · refine ⟨.int way, rfl, way, 4, rfl, rfl, _, rfl, ite2 (fun e => ?_) (fun e => ⟨rfl, d1⟩)⟩
      refine ⟨.ref d, rfl, fun p np => ?_⟩
      have d2 : Dr b H (upd H1 p (.dK [])) := d1.trans (.new np)
      refine ⟨d, p, _, rfl, rfl, same_new np _ _ hH1.acts.at_, upd_same, _, rfl, ?_⟩
      generalize upd H1 p (.dK []) = H2 at d2 ⊢
      refine ite2 (fun e2 => ?_) (fun e2 => ⟨rfl, d2⟩)
      have hz1 : 1 ≤ zs.length := by
        cases zs with
        | nil => simp at e2
        | cons z zs => simp
      refine ⟨.ref b, rfl, .ref d, rfl, .ref nm, rfl, .int many, rfl, .int at_, rfl, .int places, rfl, b, d, nm, zs, xs, many, at_, places, rfl, hH.dr d2, hz1, h0, h1, fun v r ts ways H3 hr' hk hdp ho hv d3 => ?_⟩
      refine q v (.ask r.nm ts ways) H3 ⟨⟨⟨r, hr', rfl, hk⟩, ?_⟩, hdp⟩ hv trivial (d2.trans d3)
      obtain ⟨z, hz, rfl⟩ := List.mem_map.mp hr'
      exact ask_ord (hH.acts.ond z hz) ho
    · rintro σ H2 ⟨rfl, d2⟩
      have hH2 := hH.dr d2
      refine ⟨.int way, rfl, Or.inl ⟨rfl, _, rfl, ?_⟩⟩
      rw [vint_eq]
      refine ite2 (fun e => ?_) (fun e => ?_)
      · -- an end
        refine ⟨.ref b, rfl, b, 3, rfl, hH2.bag, by decide, by decide, fun n H3 n0 n3 d3 => ?_⟩
        have hH3 := hH2.dr d3
        refine ⟨n, rfl, by omega, by omega, fun D nD => ?_⟩
        refine lc_range (lo := 0) (n := n.toNat) (fun i H4 => ∃ (vs : List V) (ts : List Tm), H4 D = some (.lst vs) ∧ Ims K H4 vs (Tm.ds ts) ∧ ts.length = i ∧ (∀ t ∈ ts, TmOver many t ∧ t.dep ≤ 1) ∧ Dr b H3 H4)
          ⟨[], [], upd_same, Ims.nil, rfl, by simp, Dr.new nD⟩ (fun i H4 hi h4 => ?_) (fun H4 h4 => ?_)
        · obtain ⟨vs, ts, e4, i4, l4, o4, d4⟩ := h4
          have hH4 := hH3.dr d4
          have hN := hH4.nms
          refine ⟨rfl, .ref b, rfl, .ref nm, rfl, .int many, rfl, b, nm, xs, many, 1, rfl, hH4.bag, hN.at_, hN.ne, hN.some_, hN.few, hN.ok, hm0, by omega, by decide, fun v t H5 ho hd1 hd2 him d5 => ?_⟩
          have e5 := d5.get (hH3.bag.fneq nD) e4
          refine ⟨_, e5, ?_, vs ++ [v], ts ++ [t], upd_same, ?_, by simp [l4], ?_, (d4.trans d5).wr nD⟩
          · rw [i4.length, Tm.ds_map, List.length_map, l4]
            exact small1000 (by omega)
          · rw [show Tm.ds (ts ++ [t]) = Tm.ds ts ++ [t.d] by simp [Tm.ds_map]]
            exact ((i4.mv d5.mv).append (Ims.cons him Ims.nil)).mv (Mv.set (S := [D]) e5 (by simp))
          · intro y hy
            rcases List.mem_append.mp hy with hy | hy
            · exact o4 y hy
            · rw [List.mem_singleton.mp hy]
              exact ⟨over_dep ho (by have : max (1 : Int).toNat 1 = 1 := rfl; omega), by have : max (1 : Int).toNat 1 = 1 := rfl; omega⟩
        obtain ⟨vs, ts, e4, i4, l4, o4, d4⟩ := h4
        walk_at "nc"
        refine rd_tupOf (.inl (.inl e4)) fun p5 H5 m5 e5 => ?_
        have d25 := d3.trans (d4.trans (Dr.of m5))
        have hH5 := hH2.dr d25
        have hN := hH5.nms
        refine ⟨.ref nm, rfl, .ref b, rfl, .ref nm, rfl, ?_⟩
        walk_at "nc"
        refine rd_len (.inl (.inl (.inl hN.at_))) ?_
        have hxl : 0 < xs.length := List.length_pos_iff.mpr hN.some_
        have hx1 := hN.few
        refine ⟨b, _, rfl, hH5.bag, by rw [List.length_map]; omega, by rw [List.length_map]; omega, fun i H6 i0 i1 d6 => ?_⟩
        rw [List.length_map] at i1
        have hi : i.toNat < xs.length := by omega
        refine rd_ixL (.inl (.inl (d6.get hN.ne hN.at_))) i0 (v := .str xs[i.toNat]) (by rw [List.getElem?_map, List.getElem?_eq_getElem hi]; rfl) ?_
        refine ⟨.ref p5, rfl, (by decide : 3 ≤ sizeLine), fun p7 np7 => ?_⟩
        have m7 : Mv [] H6 (upd H6 p7 (.tup [.str "end", .str xs[i.toNat], .ref p5])) := .new np7
        refine q (.ref p7) (.fin xs[i.toNat] ts) _ ⟨⟨⟨hN.ok _ (List.getElem_mem hi), by omega, fun t ht => (o4 t ht).1⟩, rfl⟩, fun t ht => (o4 t ht).2⟩ ?_ trivial (d2.trans (d25.trans (d6.trans (.of m7))))
        exact .tup (.inl (.inl upd_same)) (.cons (.str _) (.cons (.str _) (.cons (.tup (m7.sqT (d6.mv.sqT e5)) (((i4.mv m5).mv d6.mv).mv m7)) .nil)))
      · -- a set
        refine ⟨.ref b, rfl, .int many, rfl, many, rfl, .of_le (by decide) (by omega) (by decide) hm0, fun q3 nq3 => ?_⟩
        have hq3b : q3 ≠ b := hH2.bag.fneq nq3
        have d3 : Dr b H2 (upd H2 q3 (.lst (rgV 0 many))) := .new nq3
        have e3 : upd H2 q3 (.lst (rgV 0 many)) q3 = some (.lst (rgV 0 many)) := upd_same
        generalize upd H2 q3 (.lst (rgV 0 many)) = H3 at d3 e3 ⊢
        have hH3 := hH2.dr d3
        refine ⟨b, q3, _, rfl, hH3.bag, .inl ⟨e3, hq3b⟩, by rw [rgV_length]; omega, fun pm ms H4 hms npm e4 d4 => ?_⟩
        rw [rgV_ints] at hms
        obtain ⟨ns, rfl, hns⟩ := perm_ints hms
        have hH4 := hH3.dr d4
        have hpmb : pm ≠ b := hH3.bag.fneq npm
        refine ⟨.ref b, rfl, b, 3, rfl, hH4.bag, by decide, by decide, fun n H5 n0 n3 d5 => ?_⟩
        refine ⟨n, rfl, rd_slL (d5.get hpmb e4) n0 fun p6 np6 => ?_⟩
        walk_at "nc"
        have e6 : upd H5 p6 (.lst ((ns.map V.int).take n.toNat)) p6 = some (.lst ((ns.take n.toNat).map V.int)) := by rw [upd_same, List.map_take]
        have d26 : Dr b H2 (upd H5 p6 (.lst ((ns.map V.int).take n.toNat))) := (d3.trans (d4.trans d5)).trans (.new np6)
        generalize upd H5 p6 (.lst ((ns.map V.int).take n.toNat)) = H6 at e6 d26 ⊢
        have hkn : (ns.take n.toNat).Nodup := (hns.nodup_iff.mpr (rg_nd many)).sublist (List.take_sublist _ _)
        have hki : ∀ j ∈ ns.take n.toNat, 0 ≤ j ∧ j < many := fun j hj => rg_in j (hns.mem_iff.mp (List.mem_of_mem_take hj))
        have hkl : (ns.take n.toNat).length ≤ 2 := by rw [List.length_take]; omega
        generalize ns.take n.toNat = ks at e6 hkn hki hkl
        refine Or.inr (Or.inr ⟨p6, ks, rfl, .inl (.inl e6), by omega, fun js p7 hjp hjs np7 => ?_⟩)
        have hjn : js.Nodup := hjp.nodup_iff.mpr hkn
        have hji : ∀ j ∈ js, 0 ≤ j ∧ j < many := fun j hj => hki j (hjp.mem_iff.mp hj)
        have hjl : js.length ≤ 2 := by rw [hjp.length_eq]; exact hkl
        have hH6 := hH2.dr d26
        have hp7b : p7 ≠ b := hH6.bag.fneq np7
        have e7 : upd H6 p7 (.lst (js.map V.int)) p7 = some (.lst (js.map V.int)) := upd_same
        have d27 : Dr b H2 (upd H6 p7 (.lst (js.map V.int))) := d26.trans (.new np7)
        generalize upd H6 p7 (.lst (js.map V.int)) = H7 at e7 d27 ⊢
        have hH7 := hH2.dr d27
        refine ⟨.ref p7, rfl, p7, rfl, Or.inl ⟨⟨_, .inl (.inl e7)⟩, fun D nD => ?_⟩⟩
        have hDb : D ≠ b := hH7.bag.fneq nD
        have hDp : p7 ≠ D := ne_of_none e7 nD
        refine lc_list (K := K) (a := p7) (xs := js.map V.int) (fun i H8 => ∃ (vs : List V) (chs : List (Int × Tm)), H8 p7 = some (.lst (js.map V.int)) ∧ H8 D = some (.lst vs) ∧ Ims K H8 vs (chs.map chD) ∧ chs.map (·.1) = js.take i ∧ (∀ c ∈ chs, TmOver many c.2 ∧ c.2.dep ≤ 1) ∧ Dr b H7 H8)
          ⟨[], [], same_new nD _ _ e7, upd_same, Ims.nil, by simp, by simp, Dr.new nD⟩ (fun i H8 _ h8 => ?_) (fun i x H8 hx h8 => ?_) (fun H8 h8 => ?_)
        · obtain ⟨vs, chs, e8, _⟩ := h8
          exact .inl (.inl e8)
        · obtain ⟨vs, chs, e8, eD8, i8, n8, o8, d8⟩ := h8
          rw [List.getElem?_map] at hx
          obtain ⟨j, hj, rfl⟩ := Option.map_eq_some_iff.mp hx
          have hjl' := (List.getElem?_eq_some_iff.mp hj).1
          have hH8 := hH7.dr d8
          have hN := hH8.nms
          refine ⟨rfl, .int j, rfl, .ref b, rfl, .ref nm, rfl, .int many, rfl, b, nm, xs, many, 1, rfl, hH8.bag, hN.at_, hN.ne, hN.some_, hN.few, hN.ok, hm0, by omega, by decide, fun v t H9 ho hd1 hd2 him d9 => ?_⟩
          refine ⟨(by decide : 2 ≤ sizeLine), fun p10 np10 => ?_⟩
          have m10 : Mv [] H9 (upd H9 p10 (.tup [.int j, v])) := .new np10
          have e10 : SqT K (upd H9 p10 (.tup [.int j, v])) p10 [.int j, v] := .inl (.inl upd_same)
          generalize upd H9 p10 (.tup [.int j, v]) = H10 at m10 e10 ⊢
          have d810 : Dr b H8 H10 := d9.trans (.of m10)
          have eD10 := d810.get hDb eD8
          have hcl : chs.length = (js.take i).length := by
            have := congrArg List.length n8
            rwa [List.length_map] at this
          rw [List.length_take] at hcl
          refine ⟨_, eD10, ?_, vs ++ [.ref p10], chs ++ [(j, t)], ?_, upd_same, ?_, ?_, ?_, (d8.trans d810).wr nD⟩
          · rw [i8.length, List.length_map]
            exact small1000 (by omega)
          · rw [upd_ne hDp]
            exact d810.get hp7b e8
          · rw [List.map_append]
            refine ((i8.mv d810.mv).append (.cons ?_ .nil)).mv (Mv.set (S := [D]) eD10 (by simp))
            exact .tup e10 (.cons (.int _) (.cons (him.mv m10) .nil))
          · rw [List.map_append, n8, List.take_add_one, hj]
            rfl
          · intro c hc
            rcases List.mem_append.mp hc with hc | hc
            · exact o8 c hc
            · rw [List.mem_singleton.mp hc]
              exact ⟨over_dep (t := t) ho (by have : max (1 : Int).toNat 1 = 1 := rfl; omega), by have : max (1 : Int).toNat 1 = 1 := rfl; show t.dep ≤ 1; omega⟩
        obtain ⟨vs, chs, e8, eD8, i8, n8, o8, d8⟩ := h8
        rw [List.length_map, List.take_length] at n8
        walk_at "nc"
        refine ⟨D, vs, rfl, .inl (.inl eD8), fun p9 o9 np9 ho9 => ?_⟩
        have m9 : Mv [] H8 (upd H8 p9 (.frz o9 (.tup vs))) := .new np9
        have e9 : PlT (upd H8 p9 (.frz o9 (.tup vs))) p9 vs := ⟨o9, upd_same, ho9⟩
        generalize upd H8 p9 (.frz o9 (.tup vs)) = H9 at m9 e9 ⊢
        have d29 := d27.trans (d8.trans (Dr.of m9))
        have hH9 := hH2.dr d29
        refine ⟨.ref p9, rfl, .ref b, rfl, .int at_, rfl, .int places, rfl, b, at_, places, rfl, hH9.bag, h0, h1, fun g H10 g0 g1 d10 => ?_⟩
        refine ⟨(by decide : 3 ≤ sizeLine), fun p11 np11 => ?_⟩
        have m11 : Mv [] H10 (upd H10 p11 (.tup [.str "set", .ref p9, .int g])) := .new np11
        have hbl : ∀ q ∈ [b], ∀ o ys, H9 q ≠ some (.frz o (.tup ys)) := by
          obtain ⟨_, _, _, _, _, hb1, _⟩ := hH9.bag
          exact no_frz hb1 (fun _ _ z => by cases z)
        have e11 := (e9.mv d10.mv hbl).mv m11 (fun q hq => nomatch hq)
        have hcl : chs.length = js.length := by
          have := congrArg List.length n8
          rwa [List.length_map] at this
        refine q (.ref p11) (.set chs g) _ ⟨⟨⟨⟨by rw [n8]; exact hjn, by omega, fun c hc => ?_⟩, g0, g1⟩, ?_⟩, fun c hc => (o8 c hc).2⟩ ?_ ⟨p11, p9, vs, rfl, .inl (.inl upd_same), e11, ((i8.mv m9).mv d10.mv).mv m11⟩ (d2.trans (d29.trans (d10.trans (.of m11))))
        · have : c.1 ∈ js := by rw [← n8]; exact List.mem_map.mpr ⟨c, hc, rfl⟩
          exact ⟨(hji _ this).1, (hji _ this).2, (o8 c hc).1⟩
        · show Sta.set (srt leZ (·.1) chs) g = _
          congr 1
          refine (srt_one totZ (by rw [n8]; exact hjn) (.refl _) ?_).symm
          have : (chs.map (·.1)).Pairwise fun a b => leZ a b = true := by
            rw [n8]
            exact hjs.imp fun {a b} h => decide_eq_true h
          exact List.pairwise_map.mp this
        · exact .tup (.inl (.inl upd_same)) (.cons (.str _) (.cons (.tup e11.sq (((i8.mv m9).mv d10.mv).mv m11)) (.cons (.int _) .nil)))
end
end Fm
namespace Fm
open PySem PySem.Spec PyProof.Rows L2 SlX
local macro_rules | `(tactic| walk_at "nn") => `(tactic| dsimp only [tC, tNil, tCons, tCB, tCall, gName, tSeq, tAsg, tPar, tDrop, tRet])
local macro_rules | `(tactic| walk_at "nc") => `(tactic| dsimp only [tC, tNil, tCons, tCB, tCall])
def codeKv (d l : Addr) (many given : Int) : List (L2.Key × V) := [(.inr "acts", .ref d), (.inr "many", .int many), (.inr "given", .int given), (.inr "rows", .ref l)]
theorem codeKv_nd (d l : Addr) (many given : Int) : ((codeKv d l many given).map (·.1)).Nodup := (show ([.inr "acts", .inr "many", .inr "given", .inr "rows"] : List L2.Key).Nodup by decide +kernel)
theorem code_merge (d l : Addr) (many given : Int) : mergeK [] (codeKv d l many given) = codeKv d l many given := (mergeK_nd (codeKv d l many given) [] (codeKv_nd d l many given)).trans (List.nil_append _)
/-- a code as this law has it: a dict -/
def LCode (K : PySem.W.Frag) (H : Hp) (c d : Addr) (many given : Int) (sts : List Sta) : Prop := ∃ l vs, H c = some (.dK (codeKv d l many given)) ∧ H l = some (.lst vs) ∧ Rws K H vs sts
/-- the same, its rows at l -/
def LCodeL (K : PySem.W.Frag) (H : Hp) (c d l : Addr) (many given : Int) (sts : List Sta) : Prop := ∃ vs, H c = some (.dK (codeKv d l many given)) ∧ H l = some (.lst vs) ∧ Rws K H vs sts
theorem LCodeL.at_ {K : PySem.W.Frag} {H : Hp} {c d l : Addr} {many given : Int} {sts : List Sta} : LCodeL K H c d l many given sts → LCode K H c d many given sts := fun ⟨vs, h⟩ => ⟨l, vs, h⟩
theorem LCodeL.dr {K : PySem.W.Frag} {H H' : Hp} {b c d l : Addr} {many given : Int} {sts : List Sta} (h : LCodeL K H c d l many given sts) (m : Dr b H H') (hB : Bag H b) : LCodeL K H' c d l many given sts := by
  obtain ⟨vs, h1, h2, h3⟩ := h
  exact ⟨vs, m.getK hB h1 (fun _ z => by cases z), m.get (hB.ne_sta h2 h3.1) h2, h3.dr m hB⟩
theorem LCodeL.put {K : PySem.W.Frag} {H : Hp} {c d l p : Addr} {o : HO} {zs : List V} {many given : Int} {sts : List Sta} (h : LCodeL K H c d l many given sts) (hp : H p = some (.lst zs)) (hl : l ≠ p) : LCodeL K (upd H p o) c d l many given sts := by
  obtain ⟨vs, h1, h2, h3⟩ := h
  exact ⟨vs, by rw [upd_ne (by rintro rfl; rw [hp] at h1; cases h1)]; exact h1, by rw [upd_ne hl]; exact h2, h3.mv (Mv.set (S := [p]) hp (by simp)) (no_frz hp (fun _ _ z => by cases z))⟩
theorem LCode.mv {K : PySem.W.Frag} {H H' : Hp} {c d : Addr} {many given : Int} {sts : List Sta} (h : LCode K H c d many given sts) (m : Mv [] H H') : LCode K H' c d many given sts := by
  obtain ⟨l, vs, h1, h2, h3⟩ := h
  exact ⟨l, vs, m.same _ _ h1, m.same _ _ h2, h3.mv0 m⟩
theorem LCode.dr {K : PySem.W.Frag} {H H' : Hp} {b c d : Addr} {many given : Int} {sts : List Sta} (h : LCode K H c d many given sts) (m : Dr b H H') (hB : Bag H b) : LCode K H' c d many given sts := by
  obtain ⟨l, vs, h1, h2, h3⟩ := h
  exact ⟨l, vs, m.getK hB h1 (fun _ z => by cases z), m.get (hB.ne_sta h2 h3.1) h2, h3.dr m hB⟩
def sp_code (K : PySem.W.Frag) : Sp := fun vs H Q _ => ∃ (b d : Addr) (zs : List ActA) (places many : Int), vs = [.ref b, .ref d, .int places, .int many] ∧ Bag H b ∧ ActsAt K H d zs ∧ DrawnActs many (zs.map (·.r)) ∧ 0 < places ∧ places ≤ 1000 ∧ 0 ≤ many ∧ many ≤ 100 ∧
  ∀ c given (sts : List Sta) H', LCode K H' c d many given sts → H c = none → sts.length = places.toNat → (∀ st ∈ sts, st.raw (zs.map (·.r)) many places) → 0 ≤ given → given ≤ many → Dr b H H' → Q (.ref c) H'
section
variable {P : Program} {w : World} {K : PySem.W.Frag} {mg : Str → Option Value} {base : Heap}
theorem ok__law_code (T : TX K mg) {k : Nat} : FnOk P w K mg base CX0 (k + 7) T.d__law_code.f T.d__law_code.fd P__law_code (sp_code K) := by
  have G__law_take : FnOk P w K mg base CX0 1 T.d__law_take.f T.d__law_take.fd P__law_take sp_take := ok__law_take T
  have G__law_names : FnOk P w K mg base CX0 2 T.d__law_names.f T.d__law_names.fd P__law_names sp_names := ok__law_names T
  have G__law_line : FnOk P w K mg base CX0 6 T.d__law_line.f T.d__law_line.fd P__law_line (sp_line K) := ok__law_line T
  refine T.d__law_code.F.ok sc__law_code (fun vs H Q E h => ?_) (fun cdv A outer s H vs Q E hr h => ?_)
  · obtain ⟨_, _, _, _, _, rfl, _⟩ := h
    rfl
  · obtain ⟨b, d, zs, places, many, rfl, hB, hA, hD, h0, h1, hm0, hm1, q⟩ := h
    refine ⟨_, (pss_cons (ps_set (i := 4) sc__law_code.nd rfl (Or.inr rfl) (pe_call G__law_names (hr.mono (by omega)) rfl T.d__law_names.g T.d__law_names.F.kp T.d__law_names.b .nil pass0 (pa_cons (pv 0) (pa_cons pe_int pa_nil)))) (pss_cons (ps_setLc (i := 5) (own := [("_law_at", 6)]) (g := gName 6) (by rfl) sc__law_code.nd rfl rfl (sw_true rfl rfl rfl (by decide +kernel)) (pi_range1 (by rfl) T.b_range (pa_cons (pv 2) pa_nil)) (blkOk_by (own := [("_law_at", 6)]) (N := N__law_code) (sc := defScope s__law_code) (by decide +kernel)) (fun _ _ _ _ _ => pg_name (i := 6) sc__law_code.nd rfl (Or.inl rfl)) (fun _ _ _ _ _ => pts_nil) (fun _ _ _ _ _ => (pe_call G__law_line (hr.mono (by omega)) rfl T.d__law_line.g T.d__law_line.F.kp T.d__law_line.b .nil pass0 (pa_cons (pv 0) (pa_cons (pv 1) (pa_cons (pv 4) (pa_cons (pv 3) (pa_cons (pv 6) (pa_cons (pv 2) pa_nil))))))))) (pss_one (ps_ret (pe_disp (pps_cons pe_str (pv 1) (pps_cons pe_str (pv 3) (pps_cons pe_str (pe_call G__law_take (hr.mono (by omega)) rfl T.d__law_take.g T.d__law_take.F.kp T.d__law_take.b .nil pass0 (pa_cons (pv 0) (pa_cons (pe_op (r := rAddG K) op_addG (pv 3) pe_int) pa_nil))) (pps_cons pe_str (pv 5) pps_nil)))) (by rfl) (by rfl) (fun z => by cases z) (by decide)))))), ?_⟩
    refine ⟨.ref b, rfl, b, 3, rfl, hB, by decide, by decide, fun p1 xs H1 l1 nm1 np1 e1 d1 => ?_⟩
    have hB1 := d1.bag hB
    have p1b : p1 ≠ b := hB.fneq np1
    have hH1 : Hand K H1 b d p1 zs xs many := ⟨hB1, hA.dr d1 hB, hD, ⟨e1, p1b, by rintro rfl; simp at l1, by omega, nm1⟩, hm0, hm1⟩
    refine ⟨.int places, rfl, places, rfl, by omega, by omega, fun D nD => ?_⟩
    have hDb : D ≠ b := hB1.fneq nD
    refine lc_range (lo := 0) (n := places.toNat) (fun i H2 => ∃ (vs : List V) (sts : List Sta), H2 D = some (.lst vs) ∧ Rws K H2 vs sts ∧ sts.length = i ∧ (∀ st ∈ sts, st.raw (zs.map (·.r)) many places) ∧ Dr b H1 H2)
      ⟨[], [], upd_same, ⟨Ims.nil, fun i v st h1 => by simp at h1⟩, rfl, by simp, Dr.new nD⟩ (fun i H2 hi h2 => ?_) (fun H2 h2 => ?_)
    · obtain ⟨vs, sts, e2, i2, l2, o2, d2⟩ := h2
      have hH2 := hH1.dr d2
      refine ⟨rfl, .ref b, rfl, .ref d, rfl, .ref p1, rfl, .int many, rfl, _, rfl, .int places, rfl, b, d, p1, zs, xs, many, _, places, rfl, hH2, h0, by omega, fun v st H3 hst him hpl d3 => ?_⟩
      have e3 := d3.get hDb e2
      refine ⟨_, e3, ?_, vs ++ [v], sts ++ [st], upd_same, ?_, by simp [l2], ?_, (d2.trans d3).wr nD⟩
      · rw [i2.1.length, List.length_map, l2]
        exact small1000 (by omega)
      · exact ((i2.dr d3 hH2.bag).snoc him hpl).mv (Mv.set (S := [D]) e3 (by simp)) (no_frz e3 (fun _ _ z => by cases z))
      · intro y hy
        rcases List.mem_append.mp hy with hy | hy
        · exact o2 y hy
        · rw [List.mem_singleton.mp hy]
          exact hst
    obtain ⟨vs, sts, e2, i2, l2, o2, d2⟩ := h2
    have hH2 := hH1.dr d2
    have d02 := d1.trans d2
    intro c nc
    have ncH := d02.free hB nc
    have hcb : c ≠ b := hH2.bag.fneq nc
    have hcD : D ≠ c := ne_of_none e2 nc
    have d3 : Dr b H2 (upd H2 c (.dK [])) := .new nc
    have e3 : upd H2 c (.dK []) c = some (.dK []) := upd_same
    generalize upd H2 c (.dK []) = H3 at d3 e3 ⊢
    refine ⟨.ref d, rfl, .int many, rfl, .ref b, rfl, .int many, rfl, Or.inl ⟨many, 1, rfl, rfl, b, many + 1, rfl, d3.bag hH2.bag, by omega, by omega, fun given H4 g0 g1 d4 => ?_⟩⟩
    have e4 := d4.get hcb e3
    refine ⟨.ref D, rfl, e4, codeKv d D many given, rfl, (by decide : 4 ≤ 15), ?_⟩
    rw [code_merge]
    have d24 := d3.trans d4
    refine q c given sts _ ⟨D, vs, upd_same, ?_, ?_⟩ ncH l2 o2 g0 (by omega) ((d02.trans d24).wr ncH)
    · rw [upd_ne hcD]
      exact d24.get hDb e2
    · exact (i2.dr d24 hH2.bag).mv (Mv.putD e4) (no_frz e4 (fun _ _ z => by cases z))
end
end Fm
namespace Fm
open PySem PySem.Spec PyProof.Rows L2 SlX
local macro_rules | `(tactic| walk_at "nn") => `(tactic| dsimp only [tC, tNil, tCons, tCB, tCall, gName, tSeq, tAsg, tPar, tDrop, tRet])
local macro_rules | `(tactic| walk_at "nc") => `(tactic| dsimp only [tC, tNil, tCons, tCB, tCall])
theorem code_put (d l l' : Addr) (many given : Int) : putK (codeKv d l many given) (.inr "rows") (.ref l') = codeKv d l' many given := by
  have h1 : (Sum.inr (Str.ofString "acts") : L2.Key) ≠ .inr (Str.ofString "rows") := by decide +kernel
  have h2 : (Sum.inr (Str.ofString "many") : L2.Key) ≠ .inr (Str.ofString "rows") := by decide +kernel
  have h3 : (Sum.inr (Str.ofString "given") : L2.Key) ≠ .inr (Str.ofString "rows") := by decide +kernel
  unfold putK codeKv
  rw [if_pos (by simp)]
  simp only [List.map_cons, List.map_nil, if_neg h1, if_neg h2, if_neg h3, if_true]
theorem code_rows (d l : Addr) (many given : Int) : valV (codeKv d l many given) (.inr "rows") = some (.ref l) := valV_mem (codeKv_nd d l many given) (by simp [codeKv])
theorem code_many (d l : Addr) (many given : Int) : valV (codeKv d l many given) (.inr "many") = some (.int many) := valV_mem (codeKv_nd d l many given) (by simp [codeKv])
theorem code_given (d l : Addr) (many given : Int) : valV (codeKv d l many given) (.inr "given") = some (.int given) := valV_mem (codeKv_nd d l many given) (by simp [codeKv])
def sp_quiet (K : PySem.W.Frag) : Sp := fun vs H Q _ => ∃ (b c d : Addr) (many given : Int) (sts : List Sta) (rs : List ActR), vs = [.ref b, .ref c] ∧ Bag H b ∧ LCode K H c d many given sts ∧ 0 < sts.length ∧ sts.length ≤ 1000 ∧ (∀ st ∈ sts, st.raw rs many sts.length) ∧
  ∀ c' l sts' H', LCodeL K H' c' d l many given sts' → H c' = none → H l = none → sts'.length = sts.length → (∀ st ∈ sts', st.raw rs many sts.length) → Dr b H H' → Q (.ref c') H'
theorem raw_empty {rs : List ActR} {many places g : Int} (h0 : 0 ≤ g) (h1 : g < places) : (Sta.set [] g).raw rs many places := ⟨⟨⟨⟨by simp, by simp, by simp⟩, h0, h1⟩, by simp [Sta.ord, srt]⟩, fun c hc => by cases hc⟩
section
variable {P : Program} {w : World} {K : PySem.W.Frag} {mg : Str → Option Value} {base : Heap}
end
end Fm
namespace Fm
open PySem PySem.Spec PyProof.Rows L2 SlX
local macro_rules | `(tactic| walk_at "nn") => `(tactic| dsimp only [tC, tNil, tCons, tCB, tCall, gName, tSeq, tAsg, tPar, tDrop, tRet])
local macro_rules | `(tactic| walk_at "nc") => `(tactic| dsimp only [tC, tNil, tCons, tCB, tCall])
/-- this law's own look -/
def sp_lshow (K : PySem.W.Frag) : Sp := fun vs H Q _ => ∃ (c d : Addr) (many given : Int) (sts : List Sta) (i : Int), vs = [.ref c, .int i] ∧ LCode K H c d many given sts ∧ sts.length ≤ 1000 ∧ (∀ chs g, Sta.set chs g ∈ sts → 0 ≤ g ∧ g < sts.length) ∧ 0 ≤ i ∧ i < sts.length ∧
  ∀ r, Shows sts i r → Q (optV r) H
section
variable {P : Program} {w : World} {K : PySem.W.Frag} {mg : Str → Option Value} {base : Heap}
theorem ok__law_showing (T : TX K mg) {k : Nat} : FnOk P w K mg base CX0 (k + 1) T.d__law_showing.f T.d__law_showing.fd P__law_showing (sp_lshow K) := by
  refine T.d__law_showing.F.ok sc__law_showing (fun vs H Q E h => ?_) (fun cdv A outer s H vs Q E hr h => ?_)
  · obtain ⟨_, _, _, _, _, _, rfl, _⟩ := h
    rfl
  · obtain ⟨c, d, many, given, sts, i, rfl, ⟨l, vs, hc, hl, hv⟩, hln, hgo, i0, i1, q⟩ := h
    have hu1 := hu1_of hr
    have hu64 := hr.units
    refine ⟨_, (pss_cons (ps_for PassesOwn.never rfl (pi_range1 (by rfl) T.b_range (pa_cons (pe_op (r := rAddG K) op_addG (pe_callB (r := rLenG K) call_lenG (by rfl) T.b_len bt_len (pa_cons (pe_dget hu1 (pv 0) pe_str (fun _ _ => rfl)) pa_nil)) pe_int) pa_nil)) (pg_name (i := 2) sc__law_showing.nd rfl (Or.inl rfl)) (pss_cons (ps_if (pt_cmpR (r := rNeG K) (op_neG hu64) (pe_ix (r := rIx K) ix_seq (pe_ix (r := rIx K) ix_seq (pe_dget hu1 (pv 0) pe_str (fun _ _ => rfl)) (pv 1) (fun _ _ => rfl)) pe_int (fun _ _ => rfl)) pe_str (nomark _)) (pss_one (ps_ret (pv 1))) pss_nil) (pss_one (ps_set (i := 1) sc__law_showing.nd rfl (Or.inl rfl) (pe_ix (r := rIx K) ix_seq (pe_ix (r := rIx K) ix_seq (pe_dget hu1 (pv 0) pe_str (fun _ _ => rfl)) (pv 1) (fun _ _ => rfl)) pe_int (fun _ _ => rfl)))))) (pss_one (ps_ret pe_non))), ?_⟩
    have hvl : vs.length = sts.length := by
      have := hv.1.length
      rwa [List.length_map] at this
    have hget : DGet H c (.str "rows") (some (.ref l)) := Or.inl ⟨_, .inr "rows", .inl hc, rfl, (code_rows d l many given).symm⟩
    refine ⟨.ref c, rfl, c, .ref l, rfl, hget, ?_⟩
    refine Or.inl ⟨l, vs, rfl, .inl (.inl (.inl hl)), Or.inl ⟨_, 1, rfl, rfl, _, rfl, by omega, by omega, ?_⟩⟩
    refine for_range (lo := 0) (n := (((vs.length : Nat) : Int) + 1).toNat) (fun n σ H1 => ∃ (y : Option V), σ = [some (.ref c), some (.int (orb sts i n)), y] ∧ H1 = H ∧ (∀ j, j < n → isSet sts (orb sts i j) = true) ∧ (∀ j, j ≤ n → 0 ≤ orb sts i j ∧ orb sts i j < sts.length))
      ⟨none, rfl, rfl, fun j hj => by omega, fun j hj => by rw [show j = 0 by omega]; exact ⟨i0, i1⟩⟩ (fun n σ H1 hn h1 => ?_) (fun σ H1 h1 => ?_)
    · obtain ⟨y, rfl, rfl, hs, hin⟩ := h1
      obtain ⟨p0, p1⟩ := hin n (Nat.le_refl _)
      have hp : (orb sts i n).toNat < vs.length := by omega
      obtain ⟨dd, hdd, him⟩ := hv.1.get (List.getElem?_eq_getElem hp)
      rw [List.getElem?_map] at hdd
      obtain ⟨st, hst, rfl⟩ := Option.map_eq_some_iff.mp hdd
      obtain ⟨a, s0, y1, ys, hva, ha, hd, hset⟩ := isSet_d hst him
      have hix : vs[(orb sts i n).toNat]? = some (.ref a) := by rw [← hva]; exact List.getElem?_eq_getElem hp
      refine ⟨.ref c, rfl, c, .ref l, rfl, hget, .int (orb sts i n), rfl, rd_ixL (.inl (.inl hl)) p0 hix ?_⟩
      refine rd_ixT ha (by decide) (v := .str s0) rfl ?_
      refine Or.inl ⟨rfl, _, rfl, ?_⟩
      rw [hd]
      by_cases hiS : isSet sts (orb sts i n) = true
      · rw [hiS]
        obtain ⟨chs, g, hg, hg'⟩ := isSet_some hiS
        have hgv := hgo chs g (List.mem_of_getElem? hg)
        refine ⟨.ref c, rfl, c, .ref l, rfl, hget, .int (orb sts i n), rfl, rd_ixL (.inl (.inl hl)) p0 hix ?_⟩
        refine rd_ixT (hset hiS) (by decide) (v := .int (stp sts (orb sts i n))) rfl ?_
        refine ⟨_, rfl, rfl, fun j hj => ?_, fun j hj => ?_⟩
        · by_cases hjn : j = n
          · subst hjn
            exact hiS
          · exact hs j (by omega)
        · by_cases hjn : j = n + 1
          · subst hjn
            show 0 ≤ stp sts (orb sts i n) ∧ stp sts (orb sts i n) < sts.length
            rw [hg']
            exact hgv
          · exact hin j (by omega)
      · have hf : isSet sts (orb sts i n) = false := by simpa using hiS
        rw [hf]
        exact ⟨.int (orb sts i n), rfl, q (some (orb sts i n)) ⟨n, rfl, hf⟩⟩
    · obtain ⟨y, rfl, rfl, hs, hin⟩ := h1
      rw [show (((vs.length : Nat) : Int) + 1).toNat = sts.length + 1 by omega] at hs hin
      refine q none ?_
      -- two of the places are the same
      have hnn : ¬ ((List.range (sts.length + 1)).map (orb sts i)).Nodup := fun nd => by
        have hz : ∀ z ∈ (List.range (sts.length + 1)).map (orb sts i), 0 ≤ z ∧ z < sts.length := fun z hz => by
          obtain ⟨j, hj, rfl⟩ := List.mem_map.mp hz
          exact hin j (by have := List.mem_range.mp hj; omega)
        have hle := pigeon nd hz
        rw [List.length_map, List.length_range] at hle
        omega
      have key : ∃ j n, j < n ∧ n < sts.length + 1 ∧ orb sts i n = orb sts i j := by
        refine Classical.byContradiction fun hno => hnn ?_
        refine List.Pairwise.map _ (fun a b h => h) ?_
        refine List.Pairwise.imp_of_mem (R := (· < ·)) ?_ List.pairwise_lt_range
        intro a b ha hb hab e
        exact hno ⟨a, b, hab, List.mem_range.mp hb, e.symm⟩
      obtain ⟨j, n, hj, hn, e⟩ := key
      exact orb_loop hj e fun m hm => hs m (by omega)
end
end Fm
namespace Fm
open PySem PySem.Spec PyProof.Rows L2 SlX
local macro_rules | `(tactic| walk_at "nn") => `(tactic| dsimp only [tC, tNil, tCons, tCB, tCall, gName, tSeq, tAsg, tPar, tDrop, tRet])
local macro_rules | `(tactic| walk_at "nc") => `(tactic| dsimp only [tC, tNil, tCons, tCB, tCall])
theorem Ims.perm {α : Type} {K : PySem.W.Frag} {H : Hp} {D : α → PyData} {rows : List α} {xs ys : List V} (h : Ims K H xs (rows.map D)) (p : ys.Perm xs) : ∃ rows' : List α, rows'.Perm rows ∧ Ims K H ys (rows'.map D) := by
  have hl : rows.length = xs.length := by
    have := h.length
    rw [List.length_map] at this
    exact this.symm
  have e : xs = (rows.zip xs).map (·.2) := (List.map_snd_zip (by omega)).symm
  rw [e] at p
  obtain ⟨zs, hz, rfl⟩ := perm_lift p
  refine ⟨zs.map (·.1), ?_, Ims.ofPairs zs fun z hz' => h.pairs z (hz.mem_iff.mp hz')⟩
  have := hz.map (fun z : α × V => z.1)
  rwa [List.map_fst_zip (by omega)] at this
theorem ch_perm {many : Int} {chs chs' : List (Int × Tm)} (h : ChOk many chs) (p : chs'.Perm chs) : ChOk many chs' := ⟨(p.map _).nodup_iff.mpr h.1, by rw [p.length_eq]; exact h.2.1, fun c hc => h.2.2 c (p.mem_iff.mp hc)⟩
theorem ask_perm {r : ActR} {many places : Int} {ts : List Tm} {ways ways' : List (Str × List Int × Int)} (h : AskOk r many places ts ways) (p : ways'.Perm ways) : AskOk r many places ts ways' := ⟨h.len, h.ts, (p.map _).trans h.pm, fun w hw => h.ways w (p.mem_iff.mp hw)⟩
theorem ask_norm {r : ActR} {many places : Int} {ts : List Tm} {ways : List (Str × List Int × Int)} (h : AskOk r many places ts ways) : AskOk r.norm many places ts ways :=
  ⟨h.len, h.ts, h.pm.trans ((srt_perm r.outs).map _).symm, fun w hw => by
    obtain ⟨i, h1, h2⟩ := h.ways w hw
    exact ⟨i, srt_mem.mpr h1, h2⟩⟩
theorem sta_norm {rs : List ActR} {many places : Int} : ∀ {st : Sta}, st.ok rs many places → st.ok (normW rs) many places
  | .set _ _, h => h
  | .ask _ _ _, ⟨r, hr, h1, h2⟩ => ⟨r.norm, srt_mem.mpr (List.mem_map.mpr ⟨r, hr, rfl⟩), h1, ask_norm h2⟩
  | .fin _ _, h => h
theorem wok_norm {rs : List ActR} (hok : ∀ r ∈ rs, r.ok) (hnd : (rs.map (·.nm)).Nodup) (hf : rs.length < 60) (hond : ∀ r ∈ rs, (r.outs.map (·.1)).Nodup) : WOk (normW rs) := by
  have hm : ∀ r ∈ normW rs, ∃ q ∈ rs, r = q.norm := fun r hr => by
    obtain ⟨q, hq, e⟩ := List.mem_map.mp (srt_mem.mp hr)
    exact ⟨q, hq, e.symm⟩
  refine ⟨fun r hr => ?_, ?_, ?_, fun r hr => ?_, fun r hr => ?_⟩
  · obtain ⟨q, hq, rfl⟩ := hm r hr
    exact ActR.ok_norm (hok q hq)
  · refine srt_nd ?_
    rw [List.map_map]
    exact hnd
  · unfold normW
    rw [srt_len, List.length_map]
    exact hf
  · obtain ⟨q, hq, rfl⟩ := hm r hr
    exact srt_nd (hond q hq)
  · obtain ⟨q, hq, rfl⟩ := hm r hr
    exact List.pairwise_map.mpr (srt_pw totS q.outs)
def sp_codeOf (K : PySem.W.Frag) (C CW : Addr) : Sp := fun vs H Q _ => ∃ (b wx c d : Addr) (rs : List ActR) (many given : Int) (sts : List Sta), vs = [.ref b, .ref wx, .ref c] ∧ Bag H b ∧ WldAt K H CW wx (normW rs) ∧ WOk (normW rs) ∧ LCode K H c d many given sts ∧ 0 < sts.length ∧ sts.length ≤ 1000 ∧ (∀ st ∈ sts, st.rw rs many sts.length) ∧
  0 ≤ given ∧ given ≤ many ∧ many ≤ 24 ∧ ∀ l x H', CodL K H' C CW l x wx (normW rs) many given sts → H l = none → Dr b H H' → Q (.ref x) H'
section
variable {P : Program} {w : World} {K : PySem.W.Frag} {mg : Str → Option Value} {base : Heap}
theorem ok__law_code_of (T : TX K mg) {k : Nat} : FnOk P w K mg base CX0 (k + 9) T.d__law_code_of.f T.d__law_code_of.fd P__law_code_of (sp_codeOf K T.C_Code T.C_World) := by
  have G__law_take : FnOk P w K mg base CX0 1 T.d__law_take.f T.d__law_take.fd P__law_take sp_take := ok__law_take T
  have G__law_mixed : FnOk P w K mg base CX0 2 T.d__law_mixed.f T.d__law_mixed.fd P__law_mixed (sp_mixG K) := ok__law_mixed T
  have G_Code___init__ : FnOk P w K mg base CX0 7 T.d_Code___init__.f T.d_Code___init__.fd P_Code___init__ (sp_Code K T.C_Code T.C_World) := ok_Code___init__ T
  refine T.d__law_code_of.F.ok sc__law_code_of (fun vs H Q E h => ?_) (fun cdv A outer s H vs Q E hr h => ?_)
  · obtain ⟨_, _, _, _, _, _, _, _, rfl, _⟩ := h
    rfl
  · obtain ⟨b, wx, c, d, rs, many, given, sts, rfl, hB, hW, hWo, hC, h0, h1, hraw, hg0, hg1, hm1, q⟩ := h
    have hu1 := hu1_of hr
    have hu64 := hr.units
    refine ⟨_, (pss_cons (ps_set (i := 3) sc__law_code_of.nd rfl (Or.inl rfl) (pe_lst pa_nil)) (pss_cons (ps_for PassesOwn.never rfl (pi_seq (pe_dget hu1 (pv 2) pe_str (fun _ _ => rfl))) (pg_name (i := 4) sc__law_code_of.nd rfl (Or.inl rfl)) (Evl.pss_cut (ps_if (pt_cmpR (r := rEqG K) (op_eqG hu64) (pe_ix (r := rIx K) ix_seq (pv 4) pe_int (fun _ _ => rfl)) pe_str (nomark _)) (pss_one (ps_set (i := 4) sc__law_code_of.nd rfl (Or.inl rfl) (pe_tup (pa_cons pe_str (pa_cons (pe_callTy (r := rTupOf K) call_tupG (by rfl) T.b_tuple bt_tuple (pa_cons (pe_call G__law_mixed (hr.mono (by omega)) rfl T.d__law_mixed.g T.d__law_mixed.F.kp T.d__law_mixed.b .nil pass0 (pa_cons (pv 0) (pa_cons (pe_callTy (r := rListG K) (call_listA rfl) (by rfl) T.b_list bt_list (pa_cons (pe_ix (r := rIx K) ix_seq (pv 4) pe_int (fun _ _ => rfl)) pa_nil)) pa_nil))) pa_nil)) (pa_cons (pe_ix (r := rIx K) ix_seq (pv 4) pe_int (fun _ _ => rfl)) pa_nil)))))) pss_nil) (Evl.pss_cut (ps_if (pt_cmpR (r := rEqG K) (op_eqG hu64) (pe_ix (r := rIx K) ix_seq (pv 4) pe_int (fun _ _ => rfl)) pe_str (nomark _)) (pss_one (ps_set (i := 4) sc__law_code_of.nd rfl (Or.inl rfl) (pe_op (r := rAddG K) op_addG (pe_slice (r := rSlG K) sl_G (pv 4) po_none (po_some pe_int)) (pe_tup (pa_cons (pe_callTy (r := rTupOf K) call_tupG (by rfl) T.b_tuple bt_tuple (pa_cons (pe_call G__law_mixed (hr.mono (by omega)) rfl T.d__law_mixed.g T.d__law_mixed.F.kp T.d__law_mixed.b .nil pass0 (pa_cons (pv 0) (pa_cons (pe_callTy (r := rListG K) (call_listA rfl) (by rfl) T.b_list bt_list (pa_cons (pe_ix (r := rIx K) ix_seq (pv 4) pe_int (fun _ _ => rfl)) pa_nil)) pa_nil))) pa_nil)) pa_nil))))) pss_nil) (pss_one (ps_expr (pe_bm PySem.F.plainAttrs_list PySem.F.slot_list_append PySem.F.type_list_append mt_append (pv 3) (pa_cons (pv 4) pa_nil))))))) (pss_one (ps_ret (pe_make ⟨T.mk_Code, T.d_Code___init__.M.at_, T.d_Code___init__.M.fn, T.k_Code⟩ G_Code___init__ (hr.mono (by omega)) rfl T.g_Code T.d_Code___init__.b .nil pass0 (pa_cons (pv 1) (pa_cons (pe_dget hu1 (pv 2) pe_str (fun _ _ => rfl)) (pa_cons (pe_dget hu1 (pv 2) pe_str (fun _ _ => rfl)) (pa_cons (pe_ix (r := rIx K) ix_seq (pe_lst (pa_cons (pv 3) (pa_cons (pe_callTy (r := rTupOf K) call_tupG (by rfl) T.b_tuple bt_tuple (pa_cons (pv 3) pa_nil)) pa_nil))) (pe_call G__law_take (hr.mono (by omega)) rfl T.d__law_take.g T.d__law_take.F.kp T.d__law_take.b .nil pass0 (pa_cons (pv 0) (pa_cons pe_int pa_nil))) (fun _ _ => rfl)) pa_nil))))))))), ?_⟩
    obtain ⟨l, vs, hc, hl, hv⟩ := id hC
    have hvl : vs.length = sts.length := by
      have := hv.1.length
      rwa [List.length_map] at this
    have hlb := hB.ne_sta hl hv.1
    refine ⟨Nat.zero_le _, fun r nr => ?_⟩
    have hrb : r ≠ b := hB.fneq nr
    have e1 : upd H r (.lst []) r = some (.lst []) := upd_same
    have d1 : Dr b H (upd H r (.lst [])) := .new nr
    generalize upd H r (.lst []) = H1 at e1 d1 ⊢
    have kc : ∀ {H'}, Dr b H H' → H' c = some (.dK (codeKv d l many given)) := fun m => m.getK hB hc (fun _ z => by cases z)
    have kl : ∀ {H'}, Dr b H H' → H' l = some (.lst vs) := fun m => m.get hlb hl
    refine ⟨.ref c, rfl, c, .ref l, rfl, Or.inl ⟨_, .inr "rows", .inl (kc d1), rfl, (code_rows d l many given).symm⟩, l, rfl, Or.inl ⟨⟨_, .inl (.inl (kl d1))⟩, ?_⟩⟩
    refine for_list (K := K) (a := l) (xs := vs) (fun i σ H2 => ∃ (ws : List V) (sts' : List Sta) (u4 : Option V), σ = [some (.ref b), some (.ref wx), some (.ref c), some (.ref r), u4] ∧ H2 r = some (.lst ws) ∧ Ims K H2 ws (sts'.map Sta.d) ∧ sts'.map Sta.ord = sts.take i ∧ (∀ st ∈ sts', st.ok (normW rs) many sts.length) ∧ Dr b H H2)
      ⟨[], [], none, rfl, e1, Ims.nil, by simp, by simp, d1⟩ (fun i σ H2 _ h2 => ?_) (fun i x σ H2 hx h2 => ?_) (fun σ H2 h2 => ?_)
    · obtain ⟨ws, sts', u4, rfl, _, _, _, _, d2⟩ := h2
      exact .inl (.inl (kl d2))
    · obtain ⟨ws, sts', u4, rfl, er2, i2, n2, o2, d2⟩ := h2
      obtain ⟨dd, hdd, him⟩ := hv.1.get hx
      rw [List.getElem?_map] at hdd
      obtain ⟨st, hst, rfl⟩ := Option.map_eq_some_iff.mp hdd
      have hi := (List.getElem?_eq_some_iff.mp hst).1
      obtain ⟨hok, hord⟩ := hraw st (List.mem_of_getElem? hst)
      have hB2 := d2.bag hB
      have him2 := him.mv d2.mv
      have hsl : sts'.length = i := by
        have := congrArg List.length n2
        rw [List.length_map, List.length_take] at this
        omega
      -- a set may be mixed
      refine ⟨fun σ H3 => ∃ (v : V) (st1 : Sta), σ = [some (.ref b), some (.ref wx), some (.ref c), some (.ref r), some v] ∧ Im K H3 v st1.d ∧ st1.ok rs many sts.length ∧ st1.ord = st ∧ Dr b H2 H3, ?_, ?_⟩
      · cases st with
        | set chs goal =>
          obtain ⟨a, x0, x1, x2, rfl, ha, k0, k1, k2⟩ := him2.tup3
          cases k0.strI
          cases k2.intI
          obtain ⟨a1, xs1, rfl, ha1, hxs1⟩ := k1.tupI
          have hl1 := hxs1.length
          rw [List.length_map] at hl1
          have hcl := hok.1.2.1
          refine ⟨.ref a, rfl, rd_ixT ha (by decide) (v := .str "set") rfl ?_⟩
          refine Or.inl ⟨rfl, _, rfl, ?_⟩
          rw [show decide (V.str "set" = V.str "set") = true from decide_eq_true rfl]
          refine ⟨.ref b, rfl, .ref a, rfl, rd_ixT ha (by decide) (v := .ref a1) rfl ?_⟩
          refine Or.inl ⟨a1, xs1, rfl, .inr ha1, fun p3 np3 => ?_⟩
          have hp3b : p3 ≠ b := hB2.fneq np3
          have d3 : Dr b H2 (upd H2 p3 (.lst xs1)) := .new np3
          have e3 : upd H2 p3 (.lst xs1) p3 = some (.lst xs1) := upd_same
          generalize upd H2 p3 (.lst xs1) = H3 at d3 e3 ⊢
          refine ⟨b, p3, xs1, rfl, d3.bag hB2, .inl ⟨e3, hp3b⟩, by omega, fun p4 ys H4 hpm np4 e4 d4 => ?_⟩
          walk_at "nc"
          refine rd_tupOf (.inl (.inl e4)) fun p5 H5 m5 e5 => ?_
          have d25 := d3.trans (d4.trans (Dr.of m5))
          refine ⟨.ref a, rfl, rd_ixT (d25.mv.sqT ha) (by decide) (v := .int goal) rfl ?_⟩
          refine ⟨(by decide : 3 ≤ sizeLine), fun p6 np6 => ?_⟩
          have m6 : Mv [] H5 (upd H5 p6 (.tup [.str "set", .ref p5, .int goal])) := .new np6
          obtain ⟨chs', hch, hI⟩ := hxs1.perm hpm
          refine ⟨.ref p6, .set chs' goal, rfl, ?_, ⟨ch_perm hok.1 hch, hok.2⟩, ?_, d25.trans (.of m6)⟩
          · exact .tup (.inl (.inl upd_same)) (.cons (.str _) (.cons (.tup (m6.sqT e5) ((hI.mv d25.mv).mv m6)) (.cons (.int _) .nil)))
          · rw [← hord]
            show Sta.set (srt leZ (·.1) chs') goal = .set (srt leZ (·.1) chs) goal
            rw [srt_of_perm totZ hok.1.1 hch]
        | ask act ts ways =>
          obtain ⟨a, x0, x1, x2, x3, rfl, ha, k0, k1, k2, k3⟩ := him2.tup4
          cases k0.strI
          refine ⟨.ref a, rfl, rd_ixT ha (by decide) (v := .str "ask") rfl ?_⟩
          refine Or.inl ⟨rfl, _, rfl, ?_⟩
          rw [ne_str (by decide +kernel)]
          exact ⟨.ref a, _, rfl, him2, hok, hord, .refl⟩
        | fin word ts =>
          obtain ⟨a, x0, x1, x2, rfl, ha, k0, k1, k2⟩ := him2.tup3
          cases k0.strI
          refine ⟨.ref a, rfl, rd_ixT ha (by decide) (v := .str "end") rfl ?_⟩
          refine Or.inl ⟨rfl, _, rfl, ?_⟩
          rw [ne_str (by decide +kernel)]
          exact ⟨.ref a, _, rfl, him2, hok, hord, .refl⟩
      rintro σ H3 ⟨v1, st1, rfl, hv1, hok1, hord1, d3⟩
      have hB3 := d3.bag hB2
      refine ⟨fun σ H4 => ∃ (v : V) (st2 : Sta), σ = [some (.ref b), some (.ref wx), some (.ref c), some (.ref r), some v] ∧ Im K H4 v st2.d ∧ st2.ok rs many sts.length ∧ st2.ord = st ∧ Dr b H3 H4, ?_, ?_⟩
      · cases st1 with
        | ask act ts ways =>
          obtain ⟨a, x0, x1, x2, x3, rfl, ha, k0, k1, k2, k3⟩ := hv1.tup4
          cases k0.strI
          obtain ⟨a3, xs3, rfl, ha3, hxs3⟩ := k3.tupI
          have hl3 := hxs3.length
          rw [List.length_map] at hl3
          obtain ⟨ra, hra, hnm, hak⟩ := hok1
          have hwl : ways.length ≤ 1000 := by
            have h6 := (hWo.ok ra.norm (srt_mem.mpr (List.mem_map.mpr ⟨ra, hra, rfl⟩))).o6
            have h7 : ra.norm.outs.length = ra.outs.length := srt_len _
            have h8 := hak.pm.length_eq
            rw [List.length_map, List.length_map] at h8
            omega
          have hwn : (ways.map (·.1)).Nodup := by
            have h6 := hWo.ond ra.norm (srt_mem.mpr (List.mem_map.mpr ⟨ra, hra, rfl⟩))
            exact (hak.pm.trans ((srt_perm ra.outs).map _).symm).nodup_iff.mpr h6
          refine ⟨.ref a, rfl, rd_ixT ha (by decide) (v := .str "ask") rfl ?_⟩
          refine Or.inl ⟨rfl, _, rfl, ?_⟩
          rw [show decide (V.str "ask" = V.str "ask") = true from decide_eq_true rfl]
          refine ⟨.ref a, rfl, 3, rfl, rd_sl3 ha fun p0 H0 m0 e0 => ?_⟩
          refine ⟨.ref b, rfl, .ref a, rfl, rd_ixT (m0.sqT ha) (by decide) (v := .ref a3) rfl ?_⟩
          refine Or.inl ⟨a3, xs3, rfl, .inr (m0.sqT ha3), fun p4 np4 => ?_⟩
          have dd0 : Dr b H3 H0 := .of m0
          have hB0 := dd0.bag hB3
          have hp4b : p4 ≠ b := hB0.fneq np4
          have d4 : Dr b H0 (upd H0 p4 (.lst xs3)) := .new np4
          have e4 : upd H0 p4 (.lst xs3) p4 = some (.lst xs3) := upd_same
          generalize upd H0 p4 (.lst xs3) = H4 at d4 e4 ⊢
          refine ⟨b, p4, xs3, rfl, d4.bag hB0, .inl ⟨e4, hp4b⟩, by omega, fun p5 ys H5 hpm np5 e5 d5 => ?_⟩
          walk_at "nc"
          refine rd_tupOf (.inl (.inl e5)) fun p6 H6 m6 e6 => ?_
          refine ⟨(by decide : 1 ≤ sizeLine), fun p7 np7 => ?_⟩
          have m7 : Mv [] H6 (upd H6 p7 (.tup [.ref p6])) := .new np7
          have e7 : SqT K (upd H6 p7 (.tup [.ref p6])) p7 [.ref p6] := .inl (.inl upd_same)
          generalize upd H6 p7 (.tup [.ref p6]) = H7 at m7 e7 ⊢
          have d07 : Dr b H0 H7 := d4.trans (d5.trans (.of (m6.trans m7)))
          refine rd_cat (d07.mv.sqT e0) e7 (by decide : 4 ≤ sizeLine) fun p8 H8 m8 e8 => ?_
          have d38 : Dr b H3 H8 := dd0.trans (d07.trans (.of m8))
          obtain ⟨ways', hwp, hI⟩ := hxs3.perm hpm
          refine ⟨.ref p8, .ask act ts ways', rfl, ?_, ⟨ra, hra, hnm, ask_perm hak hwp⟩, ?_, d38⟩
          · exact .tup e8 (.cons (.str _) (.cons (k1.mv d38.mv) (.cons (k2.mv d38.mv) (.cons (.tup ((m7.trans m8).sqT e6) (hI.mv d38.mv)) .nil))))
          · rw [← hord1]
            show Sta.ask act ts (srt leS (·.1) ways') = .ask act ts (srt leS (·.1) ways)
            rw [srt_of_perm totS hwn hwp]
        | set chs goal =>
          obtain ⟨a, x0, x1, x2, rfl, ha, k0, k1, k2⟩ := hv1.tup3
          cases k0.strI
          refine ⟨.ref a, rfl, rd_ixT ha (by decide) (v := .str "set") rfl ?_⟩
          refine Or.inl ⟨rfl, _, rfl, ?_⟩
          rw [ne_str (by decide +kernel)]
          exact ⟨.ref a, _, rfl, hv1, hok1, hord1, .refl⟩
        | fin word ts =>
          obtain ⟨a, x0, x1, x2, rfl, ha, k0, k1, k2⟩ := hv1.tup3
          cases k0.strI
          refine ⟨.ref a, rfl, rd_ixT ha (by decide) (v := .str "end") rfl ?_⟩
          refine Or.inl ⟨rfl, _, rfl, ?_⟩
          rw [ne_str (by decide +kernel)]
          exact ⟨.ref a, _, rfl, hv1, hok1, hord1, .refl⟩
      rintro σ H4 ⟨v2, st2, rfl, hv2, hok2, hord2, d4⟩
      have d24 := d3.trans d4
      have er4 := d24.get hrb er2
      refine ⟨.ref r, rfl, .inl ⟨rfl, _, .inl (.inl er4)⟩, v2, rfl, r, _, _, rfl, rfl, er4, ?_, ?_⟩
      · rw [i2.length, List.length_map, hsl]
        exact small1000 (by omega)
      have hw : Mv [r] H4 (upd H4 r (.lst (ws ++ [v2]))) := .set er4 (by simp)
      refine ⟨ws ++ [v2], sts' ++ [st2], _, rfl, upd_same, ?_, ?_, ?_, (d2.trans d24).wr nr⟩
      · rw [List.map_append]
        exact ((i2.mv d24.mv).append (.cons hv2 .nil)).mv hw
      · rw [List.map_append, n2, List.take_add_one, hst]
        show _ ++ [st2.ord] = _ ++ [st]
        rw [hord2]
      · intro y hy
        rcases List.mem_append.mp hy with hy | hy
        · exact o2 y hy
        · rw [List.mem_singleton.mp hy]
          exact sta_norm hok2
    · obtain ⟨ws, sts', u4, rfl, er2, i2, n2, o2, d2⟩ := h2
      rw [hvl, List.take_length] at n2
      have hsl : sts'.length = sts.length := by
        have := congrArg List.length n2
        rwa [List.length_map] at this
      have hB2 := d2.bag hB
      refine ⟨.ref wx, rfl, .ref c, rfl, c, .int many, rfl, Or.inl ⟨_, .inr "many", .inl (kc d2), rfl, (code_many d l many given).symm⟩, ?_⟩
      refine ⟨.ref c, rfl, c, .int given, rfl, Or.inl ⟨_, .inr "given", .inl (kc d2), rfl, (code_given d l many given).symm⟩, ?_⟩
      refine ⟨.ref r, rfl, .ref r, rfl, ?_⟩
      walk_at "nc"
      refine rd_tupOf (.inl (.inl er2)) fun p3 H3 m3 e3 => ?_
      refine ⟨(by decide : 2 ≤ sizeLine), fun q4 nq4 => ?_⟩
      have d3 : Dr b H2 H3 := .of m3
      have hB3 := d3.bag hB2
      have hq4b : q4 ≠ b := hB3.fneq nq4
      have e4 : upd H3 q4 (.lst [.ref r, .ref p3]) q4 = some (.lst [.ref r, .ref p3]) := upd_same
      have d4 : Dr b H2 (upd H3 q4 (.lst [.ref r, .ref p3])) := d3.trans (.new nq4)
      have e34 : SqT K (upd H3 q4 (.lst [.ref r, .ref p3])) p3 ws := (Mv.new (S := []) nq4).sqT e3
      generalize upd H3 q4 (.lst [.ref r, .ref p3]) = H4 at e4 d4 e34 ⊢
      refine ⟨.ref b, rfl, b, 2, rfl, d4.bag hB2, by decide, by decide, fun i H5 i0 i2' d5 => ?_⟩
      have d25 := d4.trans d5
      have hi : i.toNat < 2 := by omega
      have key : ∃ y, [V.ref r, .ref p3][i.toNat]? = some (.ref y) ∧ (H5 y = some (.lst ws) ∨ SqT K H5 y ws) := by
        match i.toNat, hi with
        | 0, _ => exact ⟨r, rfl, .inl (d25.get hrb er2)⟩
        | 1, _ => exact ⟨p3, rfl, .inr (d5.mv.sqT e34)⟩
      obtain ⟨y, hy, hys⟩ := key
      refine rd_ixL (.inl (.inl (d5.get hq4b e4))) i0 hy ?_
      have d05 := d2.trans d25
      refine fun x dx nx ndx hne => ⟨x, dx, wx, y, normW rs, many, given, ws, sts', H5, rfl, rfl, nx, ndx, hne, hW.dr d05 hB, hWo, by omega, hm1, hg0, hg1, hys, i2.mv d25.mv, ?_, by omega, by omega, fun l H6 m6 nl6 hCd => ⟨rfl, q l x H6 ?_ (d05.free hB nl6) (d05.trans (.of m6))⟩⟩
      · rw [hsl]
        exact o2
      · rw [n2] at hCd
        exact hCd
end
end Fm
namespace Fm
open PySem PySem.Spec PyProof.Rows L2
local macro_rules | `(tactic| walk_at "nn") => `(tactic| dsimp only [tC, tNil, tCons, tCB, tCall, gName, tSeq, tAsg, tPar, tDrop, tRet])
/-- how many operations and unknowns -/
def Tm.nod (ts : List Tm) : Nat := Tm.sizes ts + Tm.lvs ts
theorem Tm.nod_len : ∀ ts : List Tm, ts.length ≤ Tm.nod ts
  | [] => Nat.zero_le _
  | t :: ts => by
    have h := Tm.nod_len ts
    have h1 : 1 ≤ t.size + t.lv := by cases t <;> simp [Tm.size, Tm.lv] <;> omega
    simp only [Tm.nod, Tm.sizes, Tm.lvs, List.length_cons] at *
    omega
theorem Tm.nod_append (ts us : List Tm) : Tm.nod (ts ++ us) = Tm.nod ts + Tm.nod us := by
  unfold Tm.nod
  rw [Tm.sizes_append, Tm.lvs_append]
  omega
theorem Tm.nod_op (x : Str) (us : List Tm) : Tm.nod [Tm.op x us] = Tm.nod us + 1 := by
  simp only [Tm.nod, Tm.sizes, Tm.lvs, Tm.size, Tm.lv]
  omega
theorem Tm.nod_var (i : Int) : Tm.nod [Tm.var i] = 1 := by simp [Tm.nod, Tm.sizes, Tm.lvs, Tm.size, Tm.lv]
theorem Tm.nod_rev : ∀ ts : List Tm, Tm.nod ts.reverse = Tm.nod ts
  | [] => rfl
  | t :: ts => by
    rw [List.reverse_cons, Tm.nod_append, Tm.nod_rev ts, show t :: ts = [t] ++ ts from rfl, Tm.nod_append]
    omega
theorem Tm.ds_append (ts us : List Tm) : Tm.ds (ts ++ us) = Tm.ds ts ++ Tm.ds us := by simp [Tm.ds_map]
theorem Tm.ds_rev (ts : List Tm) : Tm.ds ts.reverse = (Tm.ds ts).reverse := by simp [Tm.ds_map]
section
variable {K : PySem.W.Frag} {H : Hp}
theorem Ims.reverse : ∀ {ds : List PyData} {vs : List V}, Ims K H vs ds → Ims K H vs.reverse ds.reverse
  | [], _, h => by rw [h.nilD]; exact Ims.nil
  | d :: ds, _, h => by
    obtain ⟨v, vs', rfl, h1, h2⟩ := h.invD
    rw [List.reverse_cons, List.reverse_cons]
    exact h2.reverse.append (Ims.cons h1 Ims.nil)
/-- the last one -/
theorem Ims.last {vs : List V} {ds : List PyData} {d : PyData} (h : Ims K H vs (ds ++ [d])) : ∃ vs' v, vs = vs' ++ [v] ∧ Ims K H vs' ds ∧ Im K H v d := by
  have hr := h.reverse
  rw [List.reverse_append] at hr
  obtain ⟨v, vs', e, h1, h2⟩ := hr.invD
  refine ⟨vs'.reverse, v, ?_, ?_, h1⟩
  · have := congrArg List.reverse e
    simpa using this
  · have := h2.reverse
    simpa using this
/-- a list of terms is compared with the empty one -/
theorem rd_neNil {l q : Addr} {ys : List V} {us : List Tm} {P : Int → Prop} {Q : VK} (hP : ∀ i, P i → i.natAbs < 10 ^ 40) (hl : H l = some (.lst ys)) (hq : H q = some (.lst [])) (hi : Ims K H ys (Tm.ds us)) (ho : Tm.oks P us) (hd : Tm.deps us ≤ 50)
    (h : Q (.bl (!us.isEmpty)) H) : rNeG K (.ref l) (.ref q) H Q := by
  have s1 : SeqAt.shaped (.list (Tm.ds us)) = true := by
    show (PyData.canLay0 (.list (Tm.ds us)) && decide (PyData.depth (.list (Tm.ds us)) ≤ 64)) = true
    have e := (fine_lay (.list (Tm.ds us)) (fine_ds hP us ho)).1
    have e2 : PyData.depth (.list (Tm.ds us)) ≤ 64 := by
      simp only [PyData.depth, depth_ds]
      omega
    rw [e, decide_eq_true e2]
    rfl
  refine Or.inr ⟨.list (Tm.ds us), .list [], .lst (.inl (.inl hl)) hi.dp, .lst (.inl (.inl hq)) .nil, s1, by decide, ?_⟩
  rw [eqv_nil]
  have e : (Tm.ds us).isEmpty = us.isEmpty := by cases us <;> simp [Tm.ds]
  rw [e]
  exact h
end
def sp_size (K : PySem.W.Frag) : Sp := fun vs H Q _ => ∃ (a : Addr) (xs : List V) (ts : List Tm) (P : Int → Prop), vs = [.ref a] ∧ (SqL K H a xs ∨ SqT K H a xs) ∧ Ims K H xs (Tm.ds ts) ∧ Tm.oks P ts ∧ (∀ i, P i → i.natAbs < 10 ^ 40) ∧ Tm.deps ts ≤ 50 ∧
  Tm.nod ts ≤ 100000 ∧ ∀ H', Mv [] H H' → Q (.int (Tm.sizes ts)) H'
def sp_leaves (K : PySem.W.Frag) : Sp := fun vs H Q _ => ∃ (a : Addr) (xs : List V) (ts : List Tm) (P : Int → Prop), vs = [.ref a] ∧ (SqL K H a xs ∨ SqT K H a xs) ∧ Ims K H xs (Tm.ds ts) ∧ Tm.oks P ts ∧ (∀ i, P i → i.natAbs < 10 ^ 40) ∧ Tm.deps ts ≤ 50 ∧
  Tm.nod ts ≤ 100000 ∧ ∀ p H', H p = none → Mv [] H H' → H' p = some (.lst ((Tm.leavesL ts).map V.int)) → Q (.ref p) H'
section
variable {P : Program} {w : World} {K : PySem.W.Frag} {mg : Str → Option Value} {base : Heap}
theorem ok_size (T : TX K mg) {k : Nat} : FnOk P w K mg base CX0 (k + 1) T.d_size.f T.d_size.fd P_size (sp_size K) := by
  refine T.d_size.F.ok sc_size (fun vs H Q E h => ?_) (fun cdv A outer s H vs Q E hr h => ?_)
  · obtain ⟨_, _, _, _, rfl, _⟩ := h
    rfl
  · obtain ⟨a, xs, ts, R, rfl, hS, hxs, hok, hR, hdp, hnd, q⟩ := h
    have hu64 := hr.units
    refine ⟨_, (pss_cons (ps_par (i := 1) (j := 2) rfl sc_size.nd rfl rfl (by decide) rfl rfl (pa_cons pe_int (pa_cons (pe_callTy (r := rListOf K) call_listG (by rfl) T.b_list bt_list (pa_cons (pv 0) pa_nil)) pa_nil)) rfl) (pss_cons (ps_while PassesOwn.never (pt_cmpR (r := rNeG K) (op_neG hu64) (pv 2) (pe_lst pa_nil) (nomark _)) (pss_cons (ps_set (i := 3) sc_size.nd rfl (Or.inl rfl) (pe_bm0 PySem.F.plainAttrs_list PySem.F.slot_list_pop PySem.F.type_list_pop mt_pop (pv 2))) (pss_one (ps_if (pt_not (pt_val (pe_callB (r := rIsi K) call_isi (by rfl) T.b_isinstance bt_isinstance (pa_cons (pv 3) (pa_cons (pe_ty T.b_int bt_int) pa_nil))))) (pss_cons (ps_set (i := 1) sc_size.nd rfl (Or.inl rfl) (pe_op (r := rAddG K) op_addG (pv 1) pe_int)) (pss_one (ps_expr (pe_bm PySem.F.plainAttrs_list PySem.F.slot_list_extend PySem.F.type_list_extend (r := rExtG K) mt_extendG (pv 2) (pa_cons (pe_slice (r := rSlG K) sl_G (pv 3) (po_some pe_int) po_none) pa_nil))))) pss_nil)))) (pss_one (ps_ret (pv 1))))), ?_⟩
    refine ⟨.ref a, rfl, ?_⟩
    walk_at "nn"
    refine rd_listOf hS fun l H1 nl m1 e1 => ⟨_, _, rfl, ?_⟩
    refine ⟨fun m σ H2 => ∃ (ys : List V) (us : List Tm) (n : Int) (y : Option V), σ = [some (.ref a), some (.int n), some (.ref l), y] ∧ H2 l = some (.lst ys) ∧ Ims K H2 ys (Tm.ds us) ∧ Tm.oks R us ∧ Tm.deps us ≤ 50 ∧
      n + (Tm.sizes us : Nat) = (Tm.sizes ts : Nat) ∧ Tm.nod us ≤ 100000 ∧ m = Tm.nod us ∧ Mv [] H H2, ⟨_, xs, ts, 0, none, rfl, e1, hxs.mv m1, hok, hdp, by omega, hnd, rfl, m1⟩, fun m σ H2 hW => ?_⟩
    obtain ⟨ys, us, n, y, rfl, e2, i2, o2, d2, s2, b2, rfl, m2⟩ := hW
    refine ⟨.ref l, rfl, Nat.zero_le _, fun q1 n1 => ?_⟩
    have nq : l ≠ q1 := ne_of_none e2 n1
    have m3 : Mv [] H2 (upd H2 q1 (.lst [])) := .new n1
    have e3 : upd H2 q1 (.lst []) l = some (.lst ys) := m3.same _ _ e2
    refine rd_neNil hR e3 upd_same (i2.mv m3) o2 d2 ?_
    have m23 := m2.trans m3
    have i3 := i2.mv m3
    generalize upd H2 q1 (.lst []) = H3 at m3 e3 m23 i3 ⊢
    refine ⟨_, rfl, ?_⟩
    rcases List.eq_nil_or_concat us with rfl | ⟨us', u, rfl⟩
    · refine ⟨.int n, rfl, ?_⟩
      have e : n = (Tm.sizes ts : Nat) := by
        simp only [Tm.sizes] at s2
        omega
      rw [e]
      exact q H3 m23
    · rw [List.concat_eq_append] at *
      rw [show (!(us' ++ [u]).isEmpty) = true by simp]
      rw [Tm.ds_append] at i3
      obtain ⟨ys', z, rfl, i4, hz⟩ := Ims.last (ds := Tm.ds us') (d := u.d) i3
      refine ⟨fun σ' H' => ∃ m', m' < Tm.nod (us' ++ [u]) ∧ _, fun _ _ h => h, ?_⟩
      -- term = waiting.pop()
      refine ⟨.ref l, rfl, .inl ⟨rfl, _, .inl (.inl e3)⟩, l, _, z, rfl, rfl, e3, by simp, ?_⟩
      have m5 : Mv [l] H3 (upd H3 l (.lst (ys' ++ [z]).dropLast)) := .set e3 (by simp)
      have m25 : Mv [] H (upd H3 l (.lst (ys' ++ [z]).dropLast)) := m23.wr nl
      have e5 : upd H3 l (.lst (ys' ++ [z]).dropLast) l = some (.lst ys') := by rw [upd_same, List.dropLast_concat]
      generalize upd H3 l (.lst (ys' ++ [z]).dropLast) = H5 at m5 m25 e5 ⊢
      refine ⟨z, rfl, ?_⟩
      walk_at "nn"
      refine rd_isInt (hz.mv m5) ?_
      refine ⟨_, rfl, ?_⟩
      have o' : Tm.oks R us' ∧ u.ok R := ⟨Tm.oks_iff.mpr fun t ht => Tm.oks_iff.mp o2 t (by simp [ht]), Tm.oks_iff.mp o2 u (by simp)⟩
      have d' : Tm.deps us' ≤ 50 ∧ u.dep ≤ 50 := ⟨Tm.deps_le.mpr fun t ht => Tm.deps_le.mp d2 t (by simp [ht]), Tm.deps_le.mp d2 u (by simp)⟩
      rw [Tm.nod_append] at b2 ⊢
      rw [Tm.sizes_append] at s2
      cases u with
      | var i =>
        refine ⟨Tm.nod us', by rw [Tm.nod_var]; omega, ys', us', n, _, rfl, e5, i4.mv m5, o'.1, d'.1, ?_, by omega, rfl, m25⟩
        simp only [Tm.sizes, Tm.size] at s2
        omega
      | op x vs =>
        obtain ⟨a1, zs0, rfl, ha1, hzs0⟩ := (hz.mv m5).tupI
        obtain ⟨x', zs, rfl, hx', hzs⟩ := hzs0.invD
        refine ⟨.int n, rfl, Or.inl ⟨n, 1, rfl, rfl, ?_⟩⟩
        refine ⟨.ref l, rfl, .inl ⟨rfl, _, .inl (.inl e5)⟩, .ref a1, rfl, 1, rfl, rd_sl1 ha1 fun p6 H6 m6 e6 => ?_⟩
        have e7 := m6.same _ _ e5
        have hlen : zs.length = vs.length := by rw [hzs.length, Tm.ds_map, List.length_map]
        have hl' : ys'.length = us'.length := by rw [i4.length, Tm.ds_map, List.length_map]
        have h1 := Tm.nod_len vs
        have h2 := Tm.nod_len us'
        rw [Tm.nod_op] at b2 ⊢
        refine Or.inr ⟨l, p6, ys', zs, rfl, rfl, e7, e6, line5 (by omega), ?_⟩
        refine ⟨Tm.nod (us' ++ vs), by rw [Tm.nod_append]; omega, ys' ++ zs, us' ++ vs, n + 1, _, rfl, upd_same, ?_, ?_, ?_, ?_, by rw [Tm.nod_append]; omega, rfl, (m25.trans m6).wr nl⟩
        · rw [Tm.ds_append]
          exact (((i4.mv m5).mv m6).append (hzs.mv m6)).mv (Mv.set (S := [l]) e7 (by simp))
        · exact Tm.oks_iff.mpr fun t ht => (List.mem_append.mp ht).elim (Tm.oks_iff.mp o'.1 t) (Tm.oks_iff.mp o'.2.2.2 t)
        · have hd := d'.2
          simp only [Tm.dep] at hd
          exact Tm.deps_le.mpr fun t ht => (List.mem_append.mp ht).elim (Tm.deps_le.mp d'.1 t) (fun h => Tm.deps_le.mp (show Tm.deps vs ≤ 50 by omega) t h)
        · simp only [Tm.sizes, Tm.size] at s2
          rw [Tm.sizes_append]
          omega
end
end Fm
namespace Fm
open PySem PySem.Spec PyProof.Rows L2
local macro_rules | `(tactic| walk_at "nn") => `(tactic| dsimp only [tC, tNil, tCons, tCB, tCall, gName, tSeq, tAsg, tPar, tDrop, tRet])
theorem Tm.leaves_le (ts : List Tm) : (Tm.leavesL ts).length ≤ Tm.nod ts := by
  rw [Tm.leavesL_len]
  unfold Tm.nod
  omega
section
variable {P : Program} {w : World} {K : PySem.W.Frag} {mg : Str → Option Value} {base : Heap}
theorem ok_leaves (T : TX K mg) {k : Nat} : FnOk P w K mg base CX0 (k + 1) T.d_leaves.f T.d_leaves.fd P_leaves (sp_leaves K) := by
  refine T.d_leaves.F.ok sc_leaves (fun vs H Q E h => ?_) (fun cdv A outer s H vs Q E hr h => ?_)
  · obtain ⟨_, _, _, _, rfl, _⟩ := h
    rfl
  · obtain ⟨a, xs, ts, R, rfl, hS, hxs, hok, hR, hdp, hnd, q⟩ := h
    have hu64 := hr.units
    refine ⟨_, (pss_cons (ps_set (i := 1) sc_leaves.nd rfl (Or.inl rfl) (pe_lst pa_nil)) (pss_cons (ps_set (i := 2) sc_leaves.nd rfl (Or.inl rfl) (pe_callTy (r := rListOf K) call_listG (by rfl) T.b_list bt_list (pa_cons (pv 0) pa_nil))) (pss_cons (ps_expr (pe_bm0 PySem.F.plainAttrs_list PySem.F.slot_list_reverse PySem.F.type_list_reverse mt_reverse (pv 2))) (pss_cons (ps_while PassesOwn.never (pt_cmpR (r := rNeG K) (op_neG hu64) (pv 2) (pe_lst pa_nil) (nomark _)) (pss_cons (ps_set (i := 3) sc_leaves.nd rfl (Or.inl rfl) (pe_bm0 PySem.F.plainAttrs_list PySem.F.slot_list_pop PySem.F.type_list_pop mt_pop (pv 2))) (pss_one (ps_if (pt_val (pe_callB (r := rIsi K) call_isi (by rfl) T.b_isinstance bt_isinstance (pa_cons (pv 3) (pa_cons (pe_ty T.b_int bt_int) pa_nil)))) (pss_one (ps_expr (pe_bm PySem.F.plainAttrs_list PySem.F.slot_list_append PySem.F.type_list_append mt_append (pv 1) (pa_cons (pv 3) pa_nil)))) (pss_one (ps_expr (pe_bm PySem.F.plainAttrs_list PySem.F.slot_list_extend PySem.F.type_list_extend (r := rExtG K) mt_extendG (pv 2) (pa_cons (pe_slice3 (pv 3)) pa_nil)))))))) (pss_one (ps_ret (pv 1))))))), ?_⟩
    refine ⟨Nat.zero_le _, fun fl nf => ⟨.ref a, rfl, ?_⟩⟩
    have m0 : Mv [] H (upd H fl (.lst [])) := .new nf
    have e0 : upd H fl (.lst []) fl = some (.lst []) := upd_same
    generalize upd H fl (.lst []) = H0 at m0 e0 ⊢
    walk_at "nn"
    refine rd_listOf (hS.elim (fun h => .inl (m0.same.seq h)) fun h => .inr (m0.sqT h)) fun l H1 nl0 m1 e1 => ?_
    have nl : H l = none := m0.free nl0
    have nlf : fl ≠ l := ne_of_none e0 nl0
    have f1 := m1.same _ _ e0
    have i1 := hxs.mv (m0.trans m1)
    refine ⟨.ref l, rfl, .inl ⟨rfl, _, .inl (.inl e1)⟩, l, xs, rfl, rfl, e1, ?_⟩
    refine ⟨fun m σ H2 => ∃ (ys : List V) (us : List Tm) (acc : List Int) (y : Option V), σ = [some (.ref a), some (.ref fl), some (.ref l), y] ∧ H2 l = some (.lst ys) ∧ H2 fl = some (.lst (acc.map V.int)) ∧ Ims K H2 ys (Tm.ds us) ∧ Tm.oks R us ∧ Tm.deps us ≤ 50 ∧
      acc ++ Tm.leavesL us.reverse = Tm.leavesL ts ∧ Tm.nod us ≤ 100000 ∧ m = Tm.nod us ∧ Mv [] H H2, ⟨_, xs.reverse, ts.reverse, [], none, rfl, upd_same, ?_, ?_, ?_, ?_, by simp, by rw [Tm.nod_rev]; exact hnd, rfl, (m0.trans m1).wr nl⟩, fun m σ H2 hW => ?_⟩
    · rw [upd_ne nlf]
      exact f1
    · rw [Tm.ds_rev]
      exact i1.reverse.mv (Mv.set (S := [l]) e1 (by simp))
    · exact Tm.oks_iff.mpr fun t ht => Tm.oks_iff.mp hok t (by simpa using ht)
    · exact Tm.deps_le.mpr fun t ht => Tm.deps_le.mp hdp t (by simpa using ht)
    obtain ⟨ys, us, acc, y, rfl, e2, f2, i2, o2, d2, s2, b2, rfl, m2⟩ := hW
    refine ⟨.ref l, rfl, Nat.zero_le _, fun q1 n1 => ?_⟩
    have m3 : Mv [] H2 (upd H2 q1 (.lst [])) := .new n1
    have e3 : upd H2 q1 (.lst []) l = some (.lst ys) := m3.same _ _ e2
    have f3 : upd H2 q1 (.lst []) fl = some (.lst (acc.map V.int)) := m3.same _ _ f2
    refine rd_neNil hR e3 upd_same (i2.mv m3) o2 d2 ?_
    have m23 := m2.trans m3
    have i3 := i2.mv m3
    generalize upd H2 q1 (.lst []) = H3 at m3 e3 f3 m23 i3 ⊢
    refine ⟨_, rfl, ?_⟩
    rcases List.eq_nil_or_concat us with rfl | ⟨us', u, rfl⟩
    · refine ⟨.ref fl, rfl, q fl H3 nf m23 ?_⟩
      rw [f3]
      simp only [List.reverse_nil, Tm.leavesL, List.append_nil] at s2
      rw [s2]
    · rw [List.concat_eq_append] at *
      rw [show (!(us' ++ [u]).isEmpty) = true by simp]
      rw [Tm.ds_append] at i3
      obtain ⟨ys', z, rfl, i4, hz⟩ := Ims.last (ds := Tm.ds us') (d := u.d) i3
      refine ⟨fun σ' H' => ∃ m', m' < Tm.nod (us' ++ [u]) ∧ _, fun _ _ h => h, ?_⟩
      refine ⟨.ref l, rfl, .inl ⟨rfl, _, .inl (.inl e3)⟩, l, _, z, rfl, rfl, e3, by simp, ?_⟩
      have m5 : Mv [l] H3 (upd H3 l (.lst (ys' ++ [z]).dropLast)) := .set e3 (by simp)
      have m25 : Mv [] H (upd H3 l (.lst (ys' ++ [z]).dropLast)) := m23.wr nl
      have e5 : upd H3 l (.lst (ys' ++ [z]).dropLast) l = some (.lst ys') := by rw [upd_same, List.dropLast_concat]
      have f5 : upd H3 l (.lst (ys' ++ [z]).dropLast) fl = some (.lst (acc.map V.int)) := by rw [upd_ne nlf]; exact f3
      generalize upd H3 l (.lst (ys' ++ [z]).dropLast) = H5 at m5 m25 e5 f5 ⊢
      refine ⟨z, rfl, ?_⟩
      walk_at "nn"
      refine rd_isInt (hz.mv m5) ?_
      refine ⟨_, rfl, ?_⟩
      have o' : Tm.oks R us' ∧ u.ok R := ⟨Tm.oks_iff.mpr fun t ht => Tm.oks_iff.mp o2 t (by simp [ht]), Tm.oks_iff.mp o2 u (by simp)⟩
      have d' : Tm.deps us' ≤ 50 ∧ u.dep ≤ 50 := ⟨Tm.deps_le.mpr fun t ht => Tm.deps_le.mp d2 t (by simp [ht]), Tm.deps_le.mp d2 u (by simp)⟩
      have hacc : acc.length ≤ 100000 := by
        have h1 := congrArg List.length s2
        have h2 := Tm.leaves_le ts
        rw [List.length_append] at h1
        omega
      have hacc1 : acc.length + (Tm.leavesL (us' ++ [u]).reverse).length ≤ 100000 := by
        have h1 := congrArg List.length s2
        have h2 := Tm.leaves_le ts
        rw [List.length_append] at h1
        omega
      rw [Tm.nod_append] at b2 ⊢
      rw [List.reverse_append] at s2
      cases u with
      | var i =>
        cases hz.intI
        refine ⟨.ref fl, rfl, .inl ⟨rfl, _, .inl (.inl f5)⟩, .int i, rfl, fl, _, _, rfl, rfl, f5, by rw [List.length_map]; exact line5lt hacc, ?_⟩
        refine ⟨Tm.nod us', by rw [Tm.nod_var]; omega, ys', us', acc ++ [i], _, rfl, ?_, ?_, ?_, o'.1, d'.1, ?_, by omega, rfl, m25.wr nf⟩
        · rw [upd_ne nlf.symm]
          exact e5
        · rw [upd_same, List.map_append]
          rfl
        · exact (i4.mv m5).mv (Mv.set (S := [fl]) f5 (by simp))
        · rw [← s2, List.append_assoc]
          simp [Tm.leavesL, Tm.leaves]
      | op x vs =>
        obtain ⟨a1, zs0, rfl, ha1, hzs0⟩ := (hz.mv m5).tupI
        obtain ⟨x', zs, rfl, hx', hzs⟩ := hzs0.invD
        refine ⟨.ref l, rfl, .inl ⟨rfl, _, .inl (.inl e5)⟩, .ref a1, rfl, a1, _, zs, rfl, ha1, fun p6 n6 => ?_⟩
        have m6 : Mv [] H5 (upd H5 p6 (.tup zs.reverse)) := .new n6
        have e6 : SqT K (upd H5 p6 (.tup zs.reverse)) p6 zs.reverse := .inl (.inl upd_same)
        generalize upd H5 p6 (.tup zs.reverse) = H6 at m6 e6 ⊢
        have e7 := m6.same _ _ e5
        have f7 := m6.same _ _ f5
        have hlen : zs.length = vs.length := by rw [hzs.length, Tm.ds_map, List.length_map]
        have hl' : ys'.length = us'.length := by rw [i4.length, Tm.ds_map, List.length_map]
        have h1 := Tm.nod_len vs
        have h2 := Tm.nod_len us'
        rw [Tm.nod_op] at b2 ⊢
        refine Or.inr ⟨l, p6, ys', zs.reverse, rfl, rfl, e7, e6, line5 (by rw [List.length_reverse]; omega), ?_⟩
        refine ⟨Tm.nod (us' ++ vs.reverse), by rw [Tm.nod_append, Tm.nod_rev]; omega, ys' ++ zs.reverse, us' ++ vs.reverse, acc, _, rfl, upd_same, ?_, ?_, ?_, ?_, ?_, by rw [Tm.nod_append, Tm.nod_rev]; omega, rfl, (m25.trans m6).wr nl⟩
        · rw [upd_ne nlf]
          exact f7
        · rw [Tm.ds_append, Tm.ds_rev]
          exact (((i4.mv m5).mv m6).append (hzs.mv m6).reverse).mv (Mv.set (S := [l]) e7 (by simp))
        · exact Tm.oks_iff.mpr fun t ht => (List.mem_append.mp ht).elim (Tm.oks_iff.mp o'.1 t) (fun h => Tm.oks_iff.mp o'.2.2.2 t (by simpa using h))
        · have hd := d'.2
          simp only [Tm.dep] at hd
          exact Tm.deps_le.mpr fun t ht => (List.mem_append.mp ht).elim (Tm.deps_le.mp d'.1 t) (fun h => Tm.deps_le.mp (show Tm.deps vs ≤ 50 by omega) t (by simpa using h))
        · rw [← s2, List.reverse_append, List.reverse_reverse, Tm.leavesL_append, Tm.leavesL_append]
          simp [Tm.leavesL, Tm.leaves]
end
end Fm
namespace Fm
open PySem PySem.Spec PyProof.Rows L2 SlX
local macro_rules | `(tactic| walk_at "nn") => `(tactic| dsimp only [tC, tNil, tCons, tCB, tCall, gName, tSeq, tAsg, tPar, tDrop, tRet])
local macro_rules | `(tactic| walk_at "nc") => `(tactic| dsimp only [tC, tNil, tCons, tCB, tCall])
def fit (i : Int) : Prop := i.natAbs < 10 ^ 40
/-- values that can be counted -/
structure VsOk (us : List Tm) : Prop where
  ok : Tm.oks fit us
  dp : Tm.deps us ≤ 50
  nd : Tm.nod us ≤ 10000
/-- terms over so many variables that can be counted -/
structure TsOk (many : Int) (ts : List Tm) : Prop where
  ok : Tm.oks (fun i => 0 ≤ i ∧ i < many) ts
  dp : Tm.deps ts ≤ 50
  nd : Tm.nod ts ≤ 10000
theorem Tm.nod_mem {t : Tm} {ts : List Tm} (h : t ∈ ts) : Tm.nod [t] ≤ Tm.nod ts := by
  have h1 := Tm.size_le h
  have h2 := Tm.lv_mem h
  simp only [Tm.nod, Tm.sizes, Tm.lvs]
  omega
theorem VsOk.one {us : List Tm} (h : VsOk us) {t : Tm} (ht : t ∈ us) : Tm.oks fit [t] ∧ Tm.deps [t] ≤ 50 ∧ Tm.nod [t] ≤ 10000 := by
  refine ⟨⟨Tm.oks_iff.mp h.ok t ht, trivial⟩, ?_, Nat.le_trans (Tm.nod_mem ht) h.nd⟩
  have := Tm.deps_le.mp h.dp t ht
  simp only [Tm.deps]
  omega
theorem fit_of {i many : Int} (hm : many ≤ 1000) (h : 0 ≤ i ∧ i < many) : i.natAbs < 10 ^ 40 := Nat.lt_of_lt_of_le (show i.natAbs < 1000 by omega) (by decide)
theorem look_vat {K : PySem.W.Frag} {H : Hp} {c : Addr} {ys : List V} {us : List Tm} (hS : SqL K H c ys ∨ SqT K H c ys) (hy : Ims K H ys (Tm.ds us)) : Look1 K H (.ref c) (fun i => 0 ≤ i ∧ i < us.length) (vat us) := by
  have key : ∀ i : Int, 0 ≤ i ∧ i < us.length → 0 ≤ i ∧ ∃ v, ys[i.toNat]? = some v ∧ Im K H v (vat us i).d := fun i hi => by
    obtain ⟨v, hv, hm⟩ := hy.getD (i := i.toNat) (d := (vat us i).d) (by rw [Tm.ds_map, List.getElem?_map, vat_some hi.1 hi.2]; rfl)
    exact ⟨hi.1, v, hv, hm⟩
  refine ⟨c, rfl, ?_⟩
  rcases hS with h | h
  · exact .inl ⟨ys, h, key⟩
  · exact .inr (.inl ⟨ys, h, key⟩)
def sp_putAll (K : PySem.W.Frag) (d : Nat) : Sp := fun vs H Q _ => ∃ (a c : Addr) (xs ys : List V) (ts us : List Tm), vs = [.ref a, .ref c] ∧ (SqL K H a xs ∨ SqT K H a xs) ∧ Ims K H xs (Tm.ds ts) ∧ (SqL K H c ys ∨ SqT K H c ys) ∧ Ims K H ys (Tm.ds us) ∧
  Tm.oks (fun i => 0 ≤ i ∧ i < us.length) ts ∧ Tm.deps ts < d ∧ ts.length ≤ 1000 ∧ ∀ p zs H', Mv [] H H' → SqT K H' p zs → Ims K H' zs (Tm.ds (ts.map (Tm.put (vat us)))) → Q (.ref p) H'
def sp_sizePut (K : PySem.W.Frag) : Sp := fun vs H Q _ => ∃ (a c : Addr) (xs ys : List V) (ts us : List Tm), vs = [.ref a, .ref c] ∧ (SqL K H a xs ∨ SqT K H a xs) ∧ Ims K H xs (Tm.ds ts) ∧ (SqL K H c ys ∨ SqT K H c ys) ∧ Ims K H ys (Tm.ds us) ∧
  TsOk us.length ts ∧ VsOk us ∧ us.length ≤ 1000 ∧ ∀ H', Mv [] H H' → Q (.int (Tm.sizes (ts.map (Tm.put (vat us))))) H'
theorem sum_nat : ∀ ns : List Nat, (ns.map fun n : Nat => (n : Int)).sum = ((ns.sum : Nat) : Int)
  | [] => rfl
  | n :: ns => by
    rw [List.map_cons, List.sum_cons, List.sum_cons, sum_nat ns]
    omega
section
variable {P : Program} {w : World} {K : PySem.W.Frag} {mg : Str → Option Value} {base : Heap}
theorem ok_put_all (T : TX K mg) (d : Nat) {k : Nat} : FnOk P w K mg base CX0 (k + d + 2) T.d_put_all.f T.d_put_all.fd P_put_all (sp_putAll K d) := by
  have G_put : FnOk P w K mg base CX0 (d + 1) T.d_put.f T.d_put.fd P_put (sp_put K d) := ok_put T d
  refine T.d_put_all.F.ok sc_put_all (fun vs H Q E h => ?_) (fun cdv A outer s H vs Q E hr h => ?_)
  · obtain ⟨_, _, _, _, _, _, rfl, _⟩ := h
    rfl
  · obtain ⟨a, c, xs, ys, ts, us, rfl, hS, hxs, hU, hys, hok, hdp, hln, q⟩ := h
    refine ⟨_, (pss_one (ps_ret (pe_callTy (r := rTupOf K) call_tupG (by rfl) T.b_tuple bt_tuple (pa_cons (pe_lc (own := [("term", 2)]) (g := gName 2) (by rfl) sc_put_all.nd (pi_seq (pv 0)) (blkOk_by (own := [("term", 2)]) (N := N_put_all) (sc := defScope s_put_all) (by decide +kernel)) (fun _ _ _ _ _ => pg_name (i := 2) sc_put_all.nd rfl (Or.inl rfl)) (fun _ _ _ _ _ => pts_nil) (fun _ _ _ _ _ => (pe_call G_put (hr.mono (by omega)) rfl T.d_put.g T.d_put.F.kp T.d_put.b .nil pass0 (pa_cons (pv 2) (pa_cons (pv 1) pa_nil))))) pa_nil)))), ?_⟩
    have hl : xs.length = ts.length := by rw [hxs.length, Tm.ds_map, List.length_map]
    refine ⟨.ref a, rfl, a, rfl, ?_⟩
    refine lc_seq (xs := xs) hS (fun i D H1 => ∃ zs, H1 D = some (.lst zs) ∧ Ims K H1 zs (Tm.ds ((ts.take i).map (Tm.put (vat us)))) ∧ Mv [] H H1)
      (fun D nD => ⟨[], upd_same, Ims.nil, .new nD⟩) (fun i D H1 nD h1 => h1.choose_spec.2.2) (fun D nD i x H1 hx h1 => ?_) (fun D H1 nD h1 => ?_)
    · obtain ⟨zs, e1, i1, m1⟩ := h1
      obtain ⟨xd, hxd, him⟩ := hxs.get hx
      rw [Tm.ds_map, List.getElem?_map] at hxd
      obtain ⟨t, ht, rfl⟩ := Option.map_eq_some_iff.mp hxd
      have hmem := List.mem_of_getElem? ht
      have hi := (List.getElem?_eq_some_iff.mp ht).1
      refine ⟨rfl, x, rfl, .ref c, rfl, x, .ref c, t, _, vat us, rfl, him.mv m1, Tm.oks_iff.mp hok t hmem, ?_, (look_vat hU hys).mv m1, fun v H2 m2 h2 => ?_⟩
      · exact Nat.lt_of_le_of_lt (Tm.deps_le.mp (Nat.le_refl _) t hmem) hdp
      have e2 := m2.same _ _ e1
      refine ⟨_, e2, ?_, zs ++ [v], upd_same, ?_, (m1.trans m2).wr nD⟩
      · rw [i1.length, Tm.ds_map, List.length_map, List.length_map, List.length_take]
        exact small1000 (by omega)
      · rw [List.take_add_one, ht]
        rw [show Tm.ds (List.map (Tm.put (vat us)) (ts.take i ++ (some t).toList)) = Tm.ds ((ts.take i).map (Tm.put (vat us))) ++ [(t.put (vat us)).d] by simp [Tm.ds_map]]
        exact ((i1.mv m2).append (Ims.cons h2 Ims.nil)).mv (Mv.set (S := [D]) e2 (by simp))
    · obtain ⟨zs, e1, i1, m1⟩ := h1
      rw [hl, List.take_length] at i1
      walk_at "nc"
      refine rd_tupOf (.inl (.inl e1)) fun p2 H2 m2 e2 => q p2 zs H2 (m1.trans m2) e2 (i1.mv m2)
theorem ok_size_put (T : TX K mg) {k : Nat} : FnOk P w K mg base CX0 (k + 2) T.d_size_put.f T.d_size_put.fd P_size_put (sp_sizePut K) := by
  have G_size : FnOk P w K mg base CX0 1 T.d_size.f T.d_size.fd P_size (sp_size K) := ok_size T
  have G_leaves : FnOk P w K mg base CX0 1 T.d_leaves.f T.d_leaves.fd P_leaves (sp_leaves K) := ok_leaves T
  refine T.d_size_put.F.ok sc_size_put (fun vs H Q E h => ?_) (fun cdv A outer s H vs Q E hr h => ?_)
  · obtain ⟨_, _, _, _, _, _, rfl, _⟩ := h
    rfl
  · obtain ⟨a, c, xs, ys, ts, us, rfl, hS, hxs, hU, hys, hT, hV, hln, q⟩ := h
    refine ⟨_, (pss_cons (ps_set (i := 2) sc_size_put.nd rfl (Or.inr rfl) (pe_lc (own := [("value", 3)]) (g := gName 3) (by rfl) sc_size_put.nd (pi_seq (pv 1)) (blkOk_by (own := [("value", 3)]) (N := N_size_put) (sc := defScope s_size_put) (by decide +kernel)) (fun _ _ _ _ _ => pg_name (i := 3) sc_size_put.nd rfl (Or.inl rfl)) (fun _ _ _ _ _ => pts_nil) (fun _ _ _ _ _ => (pe_call G_size (hr.mono (by omega)) rfl T.d_size.g T.d_size.F.kp T.d_size.b .nil pass0 (pa_cons (pe_lst (pa_cons (pv 3) pa_nil)) pa_nil))))) (pss_one (ps_ret (pe_op (r := rAddG K) op_addG (pe_call G_size (hr.mono (by omega)) rfl T.d_size.g T.d_size.F.kp T.d_size.b .nil pass0 (pa_cons (pv 0) pa_nil)) (pe_callB (r := rSum K) (cr_sum rfl) (by rfl) T.b_sum bt_sum (pa_cons (pe_lc (own := [("unknown", 4)]) (g := gName 4) (by rfl) sc_size_put.nd (pi_seq (pe_call G_leaves (hr.mono (by omega)) rfl T.d_leaves.g T.d_leaves.F.kp T.d_leaves.b .nil pass0 (pa_cons (pv 0) pa_nil))) (blkOk_by (own := [("unknown", 4)]) (N := N_size_put) (sc := defScope s_size_put) (by decide +kernel)) (fun _ _ _ _ _ => pg_name (i := 4) sc_size_put.nd rfl (Or.inl rfl)) (fun _ _ _ _ _ => pts_nil) (fun _ _ _ _ _ => (pe_ix (r := rIx K) ix_seq (pv 2) (pv 4) (fun _ _ => rfl)))) pa_nil)))))), ?_⟩
    have hl : ys.length = us.length := by rw [hys.length, Tm.ds_map, List.length_map]
    have hPf : ∀ i : Int, 0 ≤ i ∧ i < us.length → i.natAbs < 10 ^ 40 := fun i hi => fit_of (many := us.length) (by omega) hi
    refine ⟨.ref c, rfl, c, rfl, ?_⟩
    refine lc_seq (xs := ys) hU (fun i D H1 => H1 D = some (.lst (((us.take i).map fun t => ((t.size : Nat) : Int)).map V.int)) ∧ Mv [] H H1)
      (fun D nD => ⟨upd_same, .new nD⟩) (fun i D H1 nD h1 => h1.2) (fun D nD i x H1 hx h1 => ?_) (fun D H1 nD h1 => ?_)
    · obtain ⟨e1, m1⟩ := h1
      obtain ⟨xd, hxd, him⟩ := hys.get hx
      rw [Tm.ds_map, List.getElem?_map] at hxd
      obtain ⟨t, ht, rfl⟩ := Option.map_eq_some_iff.mp hxd
      have hmem := List.mem_of_getElem? ht
      have hi := (List.getElem?_eq_some_iff.mp ht).1
      obtain ⟨o1, o2, o3⟩ := hV.one hmem
      refine ⟨rfl, x, rfl, (by decide : 1 ≤ sizeLine), fun p2 np2 => ?_⟩
      have m2 : Mv [] H1 (upd H1 p2 (.lst [x])) := .new np2
      refine ⟨p2, [x], [t], fit, rfl, .inl (.inl (.inl upd_same)), .cons ((him.mv m1).mv m2) .nil, o1, fun i hi => hi, o2, Nat.le_trans o3 (by decide), fun H3 m3 => ?_⟩
      have m23 := m2.trans m3
      have e3 := m23.same _ _ e1
      refine ⟨_, e3, ?_, ?_, (m1.trans m23).wr nD⟩
      · rw [List.length_map, List.length_map, List.length_take]
        exact small1000 (by omega)
      · rw [upd_same, List.take_add_one, ht]
        have : (Tm.sizes [t] : Nat) = t.size := by simp [Tm.sizes]
        rw [this]
        simp
    · obtain ⟨e1, m1⟩ := h1
      rw [hl, List.take_length] at e1
      refine ⟨.ref a, rfl, a, xs, ts, _, rfl, hS.imp (fun h => m1.same.seq h) m1.sqT, hxs.mv m1, hT.ok, hPf, hT.dp, Nat.le_trans hT.nd (by decide), fun H2 m2 => ?_⟩
      have m12 := m1.trans m2
      refine ⟨.ref a, rfl, a, xs, ts, _, rfl, hS.imp (fun h => m12.same.seq h) m12.sqT, hxs.mv m12, hT.ok, hPf, hT.dp, Nat.le_trans hT.nd (by decide), fun p3 H3 np3 m3 e3 => ⟨p3, rfl, ?_⟩⟩
      have m13 := m12.trans m3
      have eD3 := (m2.trans m3).same _ _ e1
      refine lc_seq (xs := (Tm.leavesL ts).map V.int) (.inl (.inl (.inl e3))) (fun i D2 H4 => H4 D2 = some (.lst (((((Tm.leavesL ts).take i).map fun j => (vat us j).size).map fun n : Nat => (n : Int)).map V.int)) ∧ Mv [] H3 H4)
        (fun D2 nD2 => ⟨upd_same, .new nD2⟩) (fun i D2 H4 nD2 h4 => h4.2) (fun D2 nD2 i x H4 hx h4 => ?_) (fun D2 H4 nD2 h4 => ?_)
      · obtain ⟨e4, m4⟩ := h4
        rw [List.getElem?_map] at hx
        obtain ⟨j, hj, rfl⟩ := Option.map_eq_some_iff.mp hx
        have hji := Tm.oks_leaves ts hT.ok j (List.mem_of_getElem? hj)
        have hi := (List.getElem?_eq_some_iff.mp hj).1
        have hll : (Tm.leavesL ts).length ≤ 10000 := Nat.le_trans (Tm.leaves_le ts) hT.nd
        refine ⟨rfl, .ref D, rfl, .int j, rfl, rd_ixL (.inl (.inl (m4.same _ _ eD3))) hji.1 (v := .int (vat us j).size) (by rw [List.getElem?_map, List.getElem?_map, vat_some hji.1 hji.2]; rfl) ?_⟩
        refine ⟨_, e4, ?_, ?_, m4.wr nD2⟩
        · rw [List.length_map, List.length_map, List.length_map, List.length_take]
          exact line5lt (by omega)
        · rw [upd_same, List.take_add_one, hj]
          simp
      · obtain ⟨e4, m4⟩ := h4
        rw [List.length_map, List.take_length] at e4
        refine ⟨D2, _, rfl, .inl (.inl e4), Or.inl ⟨_, _, rfl, rfl, ?_⟩⟩
        have := q H4 (m13.trans m4)
        rw [← Tm.puts_map, Tm.sizes_puts] at this
        rw [sum_nat]
        have e : ((Tm.sizes ts : Nat) : Int) + (((Tm.leavesL ts).map fun j => (vat us j).size).sum : Nat) = ((Tm.sizes ts + ((Tm.leavesL ts).map fun j => (vat us j).size).sum : Nat) : Int) := by omega
        show Q (.int (((Tm.sizes ts : Nat) : Int) + _)) H4
        rw [e]
        exact this
end
end Fm
/-! where sets lead, plainly -/
namespace Fm
open PySem PySem.Spec PyProof.Rows L2 SlX
def chsAt (sts : List Sta) (p : Int) : List (Int × Tm) := match sts[p.toNat]? with
  | some (.set chs _) => chs
  | _ => []
def vst (sts : List Sta) (p : Int) (vs : List Tm) : Nat → List Tm
  | 0 => vs
  | n + 1 => chg (vst sts p vs n) (chsAt sts (orb sts p n))
def Lead (sts : List Sta) (p : Int) (n : Nat) : Prop := (∀ j, j < n → isSet sts (orb sts p j) = true) ∧ isSet sts (orb sts p n) = false
theorem lead_least {sts : List Sta} {p : Int} : ∀ n, isSet sts (orb sts p n) = false → ∃ m, m ≤ n ∧ Lead sts p m := by
  intro n
  induction n using Nat.strongRecOn with
  | _ n ih =>
    intro h
    by_cases hall : ∀ j, j < n → isSet sts (orb sts p j) = true
    · exact ⟨n, Nat.le_refl _, hall, h⟩
    · obtain ⟨j, hj, hf⟩ : ∃ j, j < n ∧ isSet sts (orb sts p j) = false := by
        refine Classical.byContradiction fun hno => hall fun j hj => ?_
        cases e : isSet sts (orb sts p j) with
        | true => rfl
        | false => exact absurd ⟨j, hj, e⟩ hno
      obtain ⟨m, hm, hl⟩ := ih j hj hf
      exact ⟨m, by omega, hl⟩
theorem lead_shows {sts : List Sta} {p g : Int} (h : Shows sts p (some g)) : ∃ n, Lead sts p n ∧ orb sts p n = g := by
  obtain ⟨n, e, hf⟩ := h
  rw [← e] at hf
  obtain ⟨m, hm, hl⟩ := lead_least n hf
  refine ⟨m, hl, ?_⟩
  have := orb_stay hl.2 (n - m)
  rw [Nat.add_sub_cancel' hm, e] at this
  exact this.symm
theorem lead_one {sts : List Sta} {p : Int} {n m : Nat} (h : Lead sts p n) (k : Lead sts p m) : n = m := by
  rcases Nat.lt_trichotomy n m with e | e | e
  · have := k.1 n e
    rw [h.2] at this
    cases this
  · exact e
  · have := h.1 m e
    rw [k.2] at this
    cases this
theorem lead_no {sts : List Sta} {p : Int} {n : Nat} (h : Lead sts p n) (k : Shows sts p none) : False := by
  have := k n
  rw [h.2] at this
  cases this
/-- where sets lead: nowhere, to too many operations, to a frame -/
inductive Res where
  | silent
  | many
  | go (g : Int) (us : List Tm)
def OnTo (sts : List Sta) (p : Int) (vs : List Tm) : Res → Prop
  | .silent => Shows sts p none
  | .many => ∃ n, Lead sts p n ∧ ∃ j, 1 ≤ j ∧ j ≤ n ∧ 200 < Tm.sizes (vst sts p vs j)
  | .go g us => ∃ n, Lead sts p n ∧ g = orb sts p n ∧ us = vst sts p vs n ∧ ∀ j, 1 ≤ j → j ≤ n → Tm.sizes (vst sts p vs j) ≤ 200
theorem on_one {sts : List Sta} {p : Int} {vs : List Tm} : ∀ {r s : Res}, OnTo sts p vs r → OnTo sts p vs s → r = s
  | .silent, .silent, _, _ => rfl
  | .silent, .many, h, ⟨n, k, _⟩ => (lead_no k h).elim
  | .silent, .go _ _, h, ⟨n, k, _⟩ => (lead_no k h).elim
  | .many, .silent, ⟨n, k, _⟩, h => (lead_no k h).elim
  | .go _ _, .silent, ⟨n, k, _⟩, h => (lead_no k h).elim
  | .many, .many, _, _ => rfl
  | .many, .go _ _, ⟨n, h, j, j1, j2, j3⟩, ⟨m, k, _, _, k2⟩ => by
    cases lead_one h k
    have := k2 j j1 j2
    omega
  | .go _ _, .many, ⟨m, k, _, _, k2⟩, ⟨n, h, j, j1, j2, j3⟩ => by
    cases lead_one h k
    have := k2 j j1 j2
    omega
  | .go _ _, .go _ _, ⟨n, h, e1, e2, _⟩, ⟨m, k, f1, f2, _⟩ => by
    cases lead_one h k
    rw [e1, e2, f1, f2]
/-- a code's statements, as they are needed to go on -/
structure CdOk (rs : List ActR) (many : Int) (dc : Nat) (sts : List Sta) : Prop where
  ok : ∀ st ∈ sts, st.ok rs many sts.length
  dp : ∀ st ∈ sts, st.dp dc
  len : sts.length ≤ 1000
  m0 : 0 ≤ many
  m1 : many ≤ 24
  d5 : dc ≤ 5
  w : WOk rs
theorem CdOk.goal {rs : List ActR} {many : Int} {dc : Nat} {sts : List Sta} (h : CdOk rs many dc sts) : ∀ chs g, Sta.set chs g ∈ sts → 0 ≤ g ∧ g < sts.length := fun _ _ hm => (h.ok _ hm).2
theorem CdOk.chs {rs : List ActR} {many : Int} {dc : Nat} {sts : List Sta} (h : CdOk rs many dc sts) (p : Int) : ChOk many (chsAt sts p) ∧ ChDp many dc (chsAt sts p) := by
  unfold chsAt
  split
  · rename_i chs g e
    have hm := List.mem_of_getElem? e
    have h1 := (h.ok _ hm).1
    exact ⟨h1, fun c hc => (h1.2.2 c hc).2.2.1, h.dp _ hm⟩
  · exact ⟨⟨by simp, by simp, by simp⟩, by simp, by simp⟩
/-- a frame -/
structure FrOk (sts : List Sta) (many : Int) (dc : Nat) (p : Int) (vs : List Tm) : Prop where
  p0 : 0 ≤ p
  p1 : p < sts.length
  len : (vs.length : Int) = many
  ok : Tm.oks fit vs
  nd : Tm.nod vs ≤ 10000
  dp : Tm.deps vs + sts.length * dc ≤ 49
section
variable {rs : List ActR} {many : Int} {dc : Nat} {sts : List Sta} {p : Int} {vs : List Tm}
theorem orb_in (hC : CdOk rs many dc sts) (p0 : 0 ≤ p) (p1 : p < sts.length) : ∀ n, 0 ≤ orb sts p n ∧ orb sts p n < sts.length
  | 0 => ⟨p0, p1⟩
  | n + 1 => by
    obtain ⟨h0, h1⟩ := orb_in hC p0 p1 n
    show 0 ≤ stp sts (orb sts p n) ∧ stp sts (orb sts p n) < sts.length
    by_cases hs : isSet sts (orb sts p n) = true
    · obtain ⟨chs, g, hg, e⟩ := isSet_some hs
      rw [e]
      exact hC.goal chs g (List.mem_of_getElem? hg)
    · rw [stp_no (by simpa using hs)]
      exact ⟨h0, h1⟩
theorem lead_lt (hC : CdOk rs many dc sts) (p0 : 0 ≤ p) (p1 : p < sts.length) {n : Nat} (h : Lead sts p n) : n < sts.length := by
  have nd : ((List.range (n + 1)).map (orb sts p)).Nodup := by
    refine List.Pairwise.map _ (fun a b h => h) ?_
    refine List.Pairwise.imp_of_mem (R := (· < ·)) ?_ List.pairwise_lt_range
    intro a b ha hb hab e
    have hb' := List.mem_range.mp hb
    have := orb_loop (sts := sts) (p := p) (i := a) (n := b) hab e.symm (fun m hm => h.1 m (by omega)) n
    rw [h.2] at this
    cases this
  have := pigeon (n := sts.length) nd fun z hz => by
    obtain ⟨j, hj, rfl⟩ := List.mem_map.mp hz
    exact orb_in hC p0 p1 j
  rw [List.length_map, List.length_range] at this
  omega
theorem vst_ok (hC : CdOk rs many dc sts) (hF : FrOk sts many dc p vs) : ∀ n, ((vst sts p vs n).length : Int) = many ∧ Tm.oks fit (vst sts p vs n) ∧ Tm.deps (vst sts p vs n) ≤ Tm.deps vs + n * dc
  | 0 => ⟨hF.len, hF.ok, by simp [vst]⟩
  | n + 1 => by
    obtain ⟨h1, h2, h3⟩ := vst_ok hC hF n
    obtain ⟨_, h4⟩ := hC.chs (orb sts p n)
    obtain ⟨h5, h6⟩ := chg_ok h4 h1 h2 h3
    refine ⟨?_, h5, ?_⟩
    · show ((chg _ _).length : Int) = many
      rw [chg_len]
      exact h1
    · show Tm.deps (chg _ _) ≤ _
      rw [Nat.add_mul]
      omega
theorem nod_le {P : Int → Prop} {ts : List Tm} (h : Tm.oks P ts) : Tm.nod ts ≤ 3 * Tm.sizes ts + ts.length := by
  have := Tm.lvs_le ts h
  unfold Tm.nod
  omega
theorem vst_vs (hC : CdOk rs many dc sts) (hF : FrOk sts many dc p vs) {n : Nat} (hn : n ≤ sts.length) (hs : ∀ j, 1 ≤ j → j ≤ n → Tm.sizes (vst sts p vs j) ≤ 200) : VsOk (vst sts p vs n) := by
  obtain ⟨h1, h2, h3⟩ := vst_ok hC hF n
  have h4 := hF.dp
  have h5 : n * dc ≤ sts.length * dc := Nat.mul_le_mul_right _ hn
  refine ⟨h2, by omega, ?_⟩
  cases n with
  | zero => exact hF.nd
  | succ n =>
    have h6 := hs (n + 1) (by omega) (Nat.le_refl _)
    have h7 := nod_le h2
    have := hC.m1
    omega
end
/-- the terms of changes -/
theorem chT_ts {many : Int} {dc n : Nat} {chs : List (Int × Tm)} (h : ChDp many dc chs) (hn : (n : Int) = many) (hm : n ≤ 24) (hd : dc ≤ 5) : TsOk n (chT n chs) := by
  obtain ⟨h1, h2⟩ := chT_ok h hn
  rw [← hn] at h1
  refine ⟨h1, by omega, ?_⟩
  have h3 := nod_le h1
  rw [chT_len] at h3
  have h4 : ∀ ts : List Tm, Tm.oks (fun i => 0 ≤ i ∧ i < (n : Int)) ts → Tm.deps ts ≤ 5 → Tm.sizes ts ≤ ts.length * 121 := by
    intro ts
    induction ts with
    | nil => intro _ _; simp [Tm.sizes]
    | cons t ts ih =>
      intro ho hdd
      have h5 := Tm.sizes_small 5 t ho.1 (by simp only [Tm.deps] at hdd; omega)
      have h6 := ih ho.2 (by simp only [Tm.deps] at hdd; omega)
      have e : 3 ^ 5 = 243 := by decide
      rw [e] at h5
      simp only [Tm.sizes, List.length_cons]
      omega
  have h5 := h4 _ h1 (by omega)
  rw [chT_len] at h5
  omega
def frD (p : Int) (vs : List Tm) : PyData := .tuple [.int p, .tuple (Tm.ds vs)]
end Fm
namespace Fm
open PySem PySem.Spec PyProof.Rows L2 SlX
local macro_rules | `(tactic| walk_at "nn") => `(tactic| dsimp only [tC, tNil, tCons, tCB, tCall, gName, tSeq, tAsg, tPar, tDrop, tRet])
local macro_rules | `(tactic| walk_at "nc") => `(tactic| dsimp only [tC, tNil, tCons, tCB, tCall])
theorem ixN_in {n : Nat} {i : Int} (h0 : 0 ≤ i) (h1 : i < n) : ixN n i = some i.toNat := by
  unfold ixN
  rw [if_pos h0, if_pos h1]
/-- 200 operations at most, else TooMany(200) -/
def manyX (D : Addr) (H : Hp) (E : XK) : Prop := ∀ d H', Mv [] H H' → H' d = none → E (.ref D) (some d) (upd H' d (.xd [("limit", .int 200)]))
theorem manyX.mv {D : Addr} {H H1 : Hp} {E : XK} (h : manyX D H E) (m : Mv [] H H1) : manyX D H1 E := fun d H' m' nd => h d H' (m.trans m') nd
def sp_changed (K : PySem.W.Frag) (D : Addr) : Sp := fun vs H Q E => ∃ (a c : Addr) (ys zs : List V) (us : List Tm) (chs : List (Int × Tm)) (dc : Nat), vs = [.ref a, .ref c] ∧ SqT K H a ys ∧ Ims K H ys (Tm.ds us) ∧ VsOk us ∧ us.length ≤ 24 ∧ SqT K H c zs ∧ Ims K H zs (chs.map chD) ∧ ChOk us.length chs ∧ ChDp us.length dc chs ∧ dc ≤ 5 ∧
  (Tm.sizes (chg us chs) ≤ 200 → ∀ p zs H', Mv [] H H' → SqT K H' p zs → Ims K H' zs (Tm.ds (chg us chs)) → Q (.ref p) H') ∧ (200 < Tm.sizes (chg us chs) → manyX D H E)
theorem Ims.set {K : PySem.W.Frag} {H : Hp} : ∀ {xs : List V} {ds : List PyData} {i : Nat} {v : V} {d : PyData}, Ims K H xs ds → Im K H v d → Ims K H (xs.set i v) (ds.set i d)
  | _, [], _, _, _, h, _ => by rw [h.nilD]; exact .nil
  | _, e :: ds, 0, v, d, h, k => by
    obtain ⟨y, ys, rfl, h1, h2⟩ := h.invD
    exact .cons k h2
  | _, e :: ds, i + 1, v, d, h, k => by
    obtain ⟨y, ys, rfl, h1, h2⟩ := h.invD
    exact .cons h1 (Ims.set h2 k)
section
variable {P : Program} {w : World} {K : PySem.W.Frag} {mg : Str → Option Value} {base : Heap}
theorem ok_changed (T : TX K mg) (Y : TY P K mg) {k : Nat} : FnOk P w K mg base (CX P w) (k + 54) T.d_changed.f T.d_changed.fd P_changed (sp_changed K Y.C_TooMany) := by
  have G_size_put : FnOk P w K mg base CX0 2 T.d_size_put.f T.d_size_put.fd P_size_put (sp_sizePut K) := ok_size_put T
  have G_put_all : FnOk P w K mg base CX0 53 T.d_put_all.f T.d_put_all.fd P_put_all (sp_putAll K 51) := ok_put_all (k := 0) T 51
  refine T.d_changed.F.okX sc_changed (fun vs H Q E h => ?_) (fun cdv A outer s H vs Q E hr h => ?_)
  · obtain ⟨_, _, _, _, _, _, _, rfl, _⟩ := h
    rfl
  · obtain ⟨a, c, ys, zs, us, chs, dc, rfl, hA, hys, hV, h24, hZ, hzs, hCo, hCd, hdc, q1, q2⟩ := h
    have hu64 := hr.units
    refine ⟨_, (pss_cons (ps_set (i := 2) sc_changed.nd rfl (Or.inl rfl) (pe_listRg rfl rfl T.b_list (prg_1 rfl T.b_range (pe_callB (r := rLenG K) call_lenG (by rfl) T.b_len bt_len (pa_cons (pv 0) pa_nil))))) (pss_cons (ps_for (passes_of rfl) rfl (pi_seq (pv 1)) (pg_tup rfl (pgs_cons (pg_name (i := 3) sc_changed.nd rfl (Or.inl rfl)) (pgs_cons (pg_name (i := 4) sc_changed.nd rfl (Or.inl rfl)) pgs_nil))) (pss_one (ps_asg (pv 4) (pg_sub (pv 2) (pv 3) set_list)))) (pss_cons (ps_if (pt_cmpR op_gt (pe_call G_size_put (hr.mono (by omega)) rfl T.d_size_put.g T.d_size_put.F.kp T.d_size_put.b .nil pass0 (pa_cons (pv 2) (pa_cons (pv 0) pa_nil))) (pe_glob rfl T.c_MOST_OPERATIONS T.r_MOST_OPERATIONS) (nomark _)) (pss_one (ps_raise rfl (takes_of rfl rfl rfl rfl) (pmk_x Y.x_TooMany hr (pa_cons (pe_glob rfl T.c_MOST_OPERATIONS T.r_MOST_OPERATIONS) pa_nil)))) pss_nil) (pss_one (ps_ret (pe_call G_put_all (hr.mono (by omega)) rfl T.d_put_all.g T.d_put_all.F.kp T.d_put_all.b .nil pass0 (pa_cons (pv 2) (pa_cons (pv 0) pa_nil)))))))), ?_⟩
    have hyl : ys.length = us.length := by rw [hys.length, Tm.ds_map, List.length_map]
    have hzl : zs.length = chs.length := by rw [hzs.length, List.length_map]
    refine ⟨.ref a, rfl, Or.inl ⟨a, ys, rfl, .inr hA, ?_⟩⟩
    rw [hyl]
    refine ⟨_, rfl, RgOk.of_le (by decide) (by omega) (by decide) (by omega), fun tl ntl => ?_⟩
    have m1 : Mv [] H (upd H tl (.lst (rgV 0 (us.length : Nat)))) := .new ntl
    have e1 : upd H tl (.lst (rgV 0 (us.length : Nat))) tl = some (.lst (((List.range us.length).map fun i : Nat => (i : Int)).map V.int)) := by
      rw [upd_same]
      unfold rgV
      rw [List.map_map, Int.sub_zero, Int.toNat_natCast]
      congr 2
      refine List.map_congr_left fun i _ => ?_
      show V.int (0 + (i : Int)) = V.int (i : Int)
      rw [Int.zero_add]
    generalize upd H tl (.lst (rgV 0 (us.length : Nat))) = H1 at m1 e1 ⊢
    refine ⟨.ref c, rfl, c, rfl, Or.inr ⟨⟨_, m1.sqT hZ⟩, ?_⟩⟩
    refine for_tup (K := K) (a := c) (xs := zs) (fun i σ H2 => ∃ (ws : List V) (y3 y4 : Option V), σ = [some (.ref a), some (.ref c), some (.ref tl), y3, y4] ∧ H2 tl = some (.lst ws) ∧ Ims K H2 ws (Tm.ds (chT us.length (chs.take i))) ∧ Mv [] H H2)
      ⟨_, _, _, rfl, e1, ?_, m1⟩ (fun i σ H2 _ h2 => ?_) (fun i x σ H2 hx h2 => ?_) (fun σ H2 h2 => ?_)
    · rw [List.take_zero, chT_nil]
      have e : Tm.ds ((List.range us.length).map fun i : Nat => Tm.var (i : Int)) = ((List.range us.length).map fun i : Nat => (i : Int)).map PyData.int := by
        rw [Tm.ds_map, List.map_map, List.map_map]
        exact List.map_congr_left fun i _ => by simp [Tm.d, Function.comp]
      rw [e]
      exact Ims.ofInts _
    · obtain ⟨_, _, _, _, _, _, m2⟩ := h2
      exact m2.sqT hZ
    · obtain ⟨ws, y3, y4, rfl, e2, i2, m2⟩ := h2
      obtain ⟨xd, hxd, him⟩ := hzs.get hx
      rw [List.getElem?_map] at hxd
      obtain ⟨ch, hch, rfl⟩ := Option.map_eq_some_iff.mp hxd
      obtain ⟨b, x0, x1, rfl, hb, k0, k1⟩ := (him.mv m2).tup2
      cases k0.intI
      have hmem := List.mem_of_getElem? hch
      obtain ⟨c0, c1, _⟩ := hCo.2.2 ch hmem
      have hwl : ws.length = us.length := by rw [i2.length, Tm.ds_map, List.length_map, chT_len]
      refine ⟨b, _, rfl, hb, rfl, _, _, rfl, _, _, rfl, rfl, ?_⟩
      refine ⟨x1, rfl, .ref tl, rfl, .int ch.1, rfl, tl, ws, ch.1, ch.1.toNat, rfl, rfl, e2, ixN_in c0 (by omega), ?_⟩
      refine ⟨_, _, _, rfl, upd_same, ?_, m2.wr ntl⟩
      have hnot : ch.1 ∉ (chs.take i).map (·.1) := fun hm => by
        have hnd := hCo.1
        have hi := (List.getElem?_eq_some_iff.mp hch).1
        rw [← List.take_append_drop i chs, List.map_append] at hnd
        have hd : ch ∈ chs.drop i := by
          rw [List.drop_eq_getElem_cons hi]
          have : chs[i] = ch := by
            rw [List.getElem?_eq_getElem hi] at hch
            exact Option.some.inj hch
          rw [this]
          exact List.mem_cons_self
        exact (List.nodup_append.mp hnd).2.2 _ hm _ (List.mem_map.mpr ⟨ch, hd, rfl⟩) rfl
      rw [List.take_add_one, hch]
      show Ims K _ _ (Tm.ds (chT us.length (chs.take i ++ [ch])))
      rw [chT_snoc hnot c0, Tm.ds_map, List.map_set, ← Tm.ds_map]
      exact (i2.set k1).mv (Mv.set (S := [tl]) e2 (by simp))
    · obtain ⟨ws, y3, y4, rfl, e2, i2, m2⟩ := h2
      rw [hzl, List.take_length] at i2
      have hts := chT_ts hCd rfl h24 hdc
      refine ⟨.ref tl, rfl, .ref a, rfl, tl, a, ws, ys, chT us.length chs, us, rfl, .inl (.inl (.inl e2)), i2, .inr (m2.sqT hA), hys.mv m2, hts, hV, by omega, fun H3 m3 => ?_⟩
      have m23 := m2.trans m3
      refine ⟨_, 200, rfl, rfl, _, rfl, ite2 (fun e => ?_) (fun e => ?_)⟩
      · have e' : 200 < Tm.sizes (chg us chs) := by
          have := of_decide_eq_true e
          unfold chg
          omega
        exact ⟨.int 200, rfl, fun d nd => q2 e' d H3 m23 nd⟩
      · have e' : Tm.sizes (chg us chs) ≤ 200 := by
          have : ¬ ((200 : Int) < ((Tm.sizes ((chT us.length chs).map (Tm.put (vat us))) : Nat) : Int)) := fun h => e (decide_eq_true h)
          unfold chg
          omega
        refine ⟨.ref tl, rfl, .ref a, rfl, tl, a, ws, ys, chT us.length chs, us, rfl, .inl (.inl (.inl (m3.same _ _ e2))), i2.mv m3, .inr (m23.sqT hA), hys.mv m23, hts.ok, by have := hts.dp; omega, by rw [chT_len]; omega, fun p4 zs4 H4 m4 e4 i4 => q1 e' p4 zs4 H4 (m23.trans m4) e4 i4⟩
/-- a Code and a frame of it -/
def sp_afterSet (K : PySem.W.Frag) (C CW D : Addr) : Sp := fun vs H Q E => ∃ (x wx : Addr) (rs : List ActR) (many given : Int) (sts : List Sta) (dc : Nat) (p : Int) (us : List Tm) (v : V), vs = [.ref x, v] ∧ CodAt K H C CW x wx rs many given sts ∧ CdOk rs many dc sts ∧ 0 ≤ p ∧ p < sts.length ∧ (us.length : Int) = many ∧ VsOk us ∧ isSet sts p = true ∧ Im K H v (frD p us) ∧
  (Tm.sizes (chg us (chsAt sts p)) ≤ 200 → ∀ v' H', Mv [] H H' → Im K H' v' (frD (stp sts p) (chg us (chsAt sts p))) → Q v' H') ∧ (200 < Tm.sizes (chg us (chsAt sts p)) → manyX D H E)
def sp_onward (K : PySem.W.Frag) (C CW D : Addr) : Sp := fun vs H Q E => ∃ (x wx : Addr) (rs : List ActR) (many given : Int) (sts : List Sta) (dc : Nat) (p : Int) (us : List Tm) (v : V), vs = [.ref x, v] ∧ CodAt K H C CW x wx rs many given sts ∧ CdOk rs many dc sts ∧ FrOk sts many dc p us ∧ Im K H v (frD p us) ∧
  (OnTo sts p us .silent → ∀ H', Mv [] H H' → Q .non H') ∧ (∀ g ws, OnTo sts p us (.go g ws) → ∀ v' H', Mv [] H H' → Im K H' v' (frD g ws) → Q v' H') ∧ (OnTo sts p us .many → manyX D H E)
theorem ok_after_set (T : TX K mg) (Y : TY P K mg) {k : Nat} : FnOk P w K mg base (CX P w) (k + 55) T.d_after_set.f T.d_after_set.fd P_after_set (sp_afterSet K T.C_Code T.C_World Y.C_TooMany) := by
  have G_changed : FnOk P w K mg base (CX P w) 54 T.d_changed.f T.d_changed.fd P_changed (sp_changed K Y.C_TooMany) := ok_changed (k := 0) T Y
  have G_Code_statement : FnOk P w K mg base (CX P w) 4 T.d_Code_statement.f T.d_Code_statement.fd P_Code_statement (sp_stAt K T.C_Code T.C_World Y.C_NoPlace) := ok_Code_statement T Y
  refine T.d_after_set.F.okX sc_after_set (fun vs H Q E h => ?_) (fun cdv A outer s H vs Q E hr h => ?_)
  · obtain ⟨_, _, _, _, _, _, _, _, _, _, rfl, _⟩ := h
    rfl
  · obtain ⟨x, wx, rs, many, given, sts, dc, p, us, v, rfl, hC, hO, p0, p1, hl, hV, hs, hv, q1, q2⟩ := h
    have hu64 := hr.units
    refine ⟨_, (pss_cons (ps_asg (pv 1) (pg_tup rfl (pgs_cons (pg_name (i := 2) sc_after_set.nd rfl (Or.inl rfl)) (pgs_cons (pg_name (i := 3) sc_after_set.nd rfl (Or.inl rfl)) pgs_nil)))) (pss_cons (ps_set (i := 4) sc_after_set.nd rfl (Or.inl rfl) (pe_methSlS (pv 0) T.c_Code T.d_Code_statement.M G_Code_statement (hr.mono (by omega)) T.d_Code_statement.b (fun σ => passAt (takes_of rfl rfl rfl rfl) σ) (pa_cons (pv 2) pa_nil))) (pss_cons (ps_if (pt_cmpR (r := rNeG K) (op_neG hu64) (pe_ix (r := rIx K) ix_seq (pv 4) pe_int (fun _ _ => rfl)) pe_str (nomark _)) (pss_one ps_never) pss_nil) (pss_one (ps_ret (pe_tup (pa_cons (pe_ix (r := rIx K) ix_seq (pv 4) pe_int (fun _ _ => rfl)) (pa_cons (pe_callS G_changed (hr.mono (by omega)) rfl T.d_changed.g T.d_changed.F.kp T.d_changed.b (fun σ => passAt (takes_of rfl rfl rfl rfl) σ) (pa_cons (pv 3) (pa_cons (pe_ix (r := rIx K) ix_seq (pv 4) pe_int (fun _ _ => rfl)) pa_nil))) pa_nil)))))))), ?_⟩
    obtain ⟨a, x0, x1, rfl, ha, k0, k1⟩ := hv.tup2
    cases k0.intI
    obtain ⟨b, ys, rfl, hb, hys⟩ := k1.tupI
    obtain ⟨dx, l', xs, hsl, hW', hl', hxs⟩ := id hC
    refine ⟨.ref a, rfl, a, _, rfl, ha, rfl, _, _, rfl, _, _, rfl, rfl, ?_⟩
    refine ⟨.ref x, rfl, x, dx, _, rfl, hsl, .int p, rfl, ?_⟩
    refine ⟨x, wx, rs, many, given, sts, p, rfl, hC, fun _ _ v1 st H1 hst m1 hv1 => ?_, fun hbad => absurd ⟨p0, p1⟩ hbad⟩
    obtain ⟨chs, g, hg, hgo⟩ := isSet_some hs
    rw [hg] at hst
    cases hst
    have hch : chsAt sts p = chs := by unfold chsAt; rw [hg]
    rw [hch, hgo] at q1
    rw [hch] at q2
    obtain ⟨cO, cD⟩ := hO.chs p
    rw [hch] at cO cD
    rw [← hl] at cO cD
    obtain ⟨c, y0, y1, y2, rfl, hc, l0, l1, l2⟩ := hv1.tup3
    cases l0.strI
    cases l2.intI
    obtain ⟨e, zs, rfl, he, hzs⟩ := l1.tupI
    refine ⟨.ref c, rfl, rd_ixT hc (by decide) (v := .str "set") rfl ?_⟩
    refine Or.inl ⟨rfl, _, rfl, ?_⟩
    rw [show decide (V.str "set" = V.str "set") = true from decide_eq_true rfl]
    refine ⟨.ref c, rfl, rd_ixT hc (by decide) (v := .int g) rfl ?_⟩
    refine ⟨.ref b, rfl, .ref c, rfl, rd_ixT hc (by decide) (v := .ref e) rfl ?_⟩
    have h24 := hO.m1
    refine ⟨b, e, ys, zs, us, chs, dc, rfl, m1.sqT hb, hys.mv m1, hV, by omega, he, hzs, cO, cD, hO.d5, fun hle p2 zs2 H2 m2 e2 i2 => ?_, fun hgt => (q2 hgt).mv m1⟩
    refine ⟨(by decide : 2 ≤ sizeLine), fun p3 np3 => ?_⟩
    have m3 : Mv [] H2 (upd H2 p3 (.tup [.int g, .ref p2])) := .new np3
    exact q1 hle _ _ (m1.trans (m2.trans m3)) (.tup (.inl (.inl upd_same)) (.cons (.int _) (.cons (.tup (m3.sqT e2) (i2.mv m3)) .nil)))
theorem ok_onward (T : TX K mg) (Y : TY P K mg) {k : Nat} : FnOk P w K mg base (CX P w) (k + 56) T.d_onward.f T.d_onward.fd P_onward (sp_onward K T.C_Code T.C_World Y.C_TooMany) := by
  have G_after_set : FnOk P w K mg base (CX P w) 55 T.d_after_set.f T.d_after_set.fd P_after_set (sp_afterSet K T.C_Code T.C_World Y.C_TooMany) := ok_after_set (k := 0) T Y
  have G_Code_showing : FnOk P w K mg base (CX P w) 5 T.d_Code_showing.f T.d_Code_showing.fd P_Code_showing (sp_showing K T.C_Code T.C_World Y.C_NoPlace) := ok_Code_showing T Y
  refine T.d_onward.F.okX sc_onward (fun vs H Q E h => ?_) (fun cdv A outer s H vs Q E hr h => ?_)
  · obtain ⟨_, _, _, _, _, _, _, _, _, _, rfl, _⟩ := h
    rfl
  · obtain ⟨x, wx, rs, many, given, sts, dc, p, us, v, rfl, hC, hO, hF, hv, q1, q2, q3⟩ := h
    have hu64 := hr.units
    refine ⟨_, (pss_cons (ps_set (i := 2) sc_onward.nd rfl (Or.inl rfl) (pe_methSlS (pv 0) T.c_Code T.d_Code_showing.M G_Code_showing (hr.mono (by omega)) T.d_Code_showing.b (fun σ => passAt (takes_of rfl rfl rfl rfl) σ) (pa_cons (pe_ix (r := rIx K) ix_seq (pv 1) pe_int (fun _ _ => rfl)) pa_nil))) (pss_cons (ps_if (pt_cmpR op_isN (pv 2) pe_non (nomark _)) (pss_one (ps_ret pe_non)) pss_nil) (pss_cons (ps_while (passes_of rfl) (pt_cmpR (r := rNeG K) (op_neG hu64) (pe_ix (r := rIx K) ix_seq (pv 1) pe_int (fun _ _ => rfl)) (pv 2) (nomark _)) (pss_one (ps_set (i := 1) sc_onward.nd rfl (Or.inl rfl) (pe_callS G_after_set (hr.mono (by omega)) rfl T.d_after_set.g T.d_after_set.F.kp T.d_after_set.b (fun σ => passAt (takes_of rfl rfl rfl rfl) σ) (pa_cons (pv 0) (pa_cons (pv 1) pa_nil)))))) (pss_one (ps_ret (pv 1)))))), ?_⟩
    obtain ⟨dx, l', xs, hsl, hW', hl', hxs⟩ := id hC
    obtain ⟨a, x0, x1, rfl, ha, k0, k1⟩ := id hv.tup2
    cases k0.intI
    refine ⟨.ref x, rfl, x, dx, _, rfl, hsl, .ref a, rfl, rd_ixT ha (by decide) (v := .int p) rfl ?_⟩
    refine ⟨x, wx, rs, many, given, sts, p, rfl, hC, hO.len, hO.goal, fun _ _ r H1 hsh m1 => ?_, fun hbad => absurd ⟨hF.p0, hF.p1⟩ hbad⟩
    cases r with
    | none =>
      refine ⟨.non, rfl, rfl, _, rfl, ?_⟩
      rw [show decide (V.non = V.non) = true from decide_eq_true rfl]
      exact q1 hsh H1 m1
    | some g =>
      obtain ⟨n, hL, hg⟩ := lead_shows hsh
      have hn := lead_lt hO hF.p0 hF.p1 hL
      refine ⟨.int g, rfl, rfl, _, rfl, ?_⟩
      rw [show decide (V.int g = V.non) = false from decide_eq_false fun z => by cases z]
      refine ⟨fun m σ H2 => ∃ (j : Nat) (v : V), σ = [some (.ref x), some v, some (.int g)] ∧ j ≤ n ∧ Im K H2 v (frD (orb sts p j) (vst sts p us j)) ∧ (∀ i, 1 ≤ i → i ≤ j → Tm.sizes (vst sts p us i) ≤ 200) ∧ m = n - j ∧ Mv [] H H2,
        ⟨_, 0, _, rfl, Nat.zero_le _, hv.mv m1, fun i h1 h2 => by omega, rfl, m1⟩, fun m σ H2 hW => ?_⟩
      obtain ⟨j, v, rfl, hj, hv2, hs2, rfl, m2⟩ := hW
      obtain ⟨a2, y0, y1, rfl, ha2, l0, l1⟩ := id hv2.tup2
      cases l0.intI
      refine ⟨.ref a2, rfl, rd_ixT ha2 (by decide) (v := .int (orb sts p j)) rfl ?_⟩
      refine ⟨.int g, rfl, Or.inl ⟨rfl, _, rfl, ?_⟩⟩
      by_cases hjn : j = n
      · subst hjn
        rw [hg, show decide (V.int g = V.int g) = true from decide_eq_true rfl]
        rw [hg] at hv2
        exact ⟨.ref a2, rfl, q2 g _ ⟨j, hL, hg.symm, rfl, hs2⟩ _ H2 m2 hv2⟩
      · have hset := hL.1 j (by omega)
        have hne : orb sts p j ≠ g := fun e => by
          have := hL.2
          rw [hg, ← e, hset] at this
          cases this
        rw [show decide (V.int (orb sts p j) = V.int g) = false from decide_eq_false fun z => hne (V.int.inj z)]
        refine ⟨fun σ' H' => ∃ m', m' < n - j ∧ _, fun _ _ h => h, ?_⟩
        obtain ⟨v1, v2, v3⟩ := vst_ok hO hF j
        obtain ⟨o0, o1⟩ := orb_in hO hF.p0 hF.p1 j
        refine ⟨.ref x, rfl, .ref a2, rfl, x, wx, rs, many, given, sts, dc, orb sts p j, vst sts p us j, .ref a2, rfl, hC.mv m2, hO, o0, o1, v1, vst_vs hO hF (by omega) hs2, hset, hv2, fun hle v' H3 m3 hv3 => ?_, fun hgt => ?_⟩
        · refine ⟨n - (j + 1), by omega, j + 1, v', rfl, by omega, hv3, fun i h1 h2 => ?_, rfl, m2.trans m3⟩
          by_cases e : i = j + 1
          · subst e
            exact hle
          · exact hs2 i h1 (by omega)
        · exact (q3 ⟨n, hL, j + 1, by omega, by omega, hgt⟩).mv m2
end
end Fm
namespace Fm
open PySem PySem.Spec PyProof.Rows L2 SlX
local macro_rules | `(tactic| walk_at "nn") => `(tactic| dsimp only [tC, tNil, tCons, tCB, tCall, gName, tSeq, tAsg, tPar, tDrop, tRet])
local macro_rules | `(tactic| walk_at "nc") => `(tactic| dsimp only [tC, tNil, tCons, tCB, tCall])
/-- what is seen next -/
def headD (sts : List Sta) : Res → PyData
  | .silent => .tuple [.str "silent"]
  | .many => .str "many"
  | .go g us => match sts[g.toNat]? with
    | some (.ask act ts _) => .tuple [.str "ask", .str act, .tuple (Tm.ds (ts.map (Tm.put (vat us))))]
    | some (.fin word ts) => .tuple [.str "end", .str word, .tuple (Tm.ds (ts.map (Tm.put (vat us))))]
    | _ => .none
theorem headD_ask {sts : List Sta} {g : Int} {us ts : List Tm} {act : Str} {ways : List (Str × List Int × Int)} (h : sts[g.toNat]? = some (.ask act ts ways)) : headD sts (.go g us) = .tuple [.str "ask", .str act, .tuple (Tm.ds (ts.map (Tm.put (vat us))))] := by
  simp only [headD, h]
theorem headD_fin {sts : List Sta} {g : Int} {us ts : List Tm} {word : Str} (h : sts[g.toNat]? = some (.fin word ts)) : headD sts (.go g us) = .tuple [.str "end", .str word, .tuple (Tm.ds (ts.map (Tm.put (vat us))))] := by
  simp only [headD, h]
section
variable {rs : List ActR} {many : Int} {dc : Nat} {sts : List Sta} {p g : Int} {us ws : List Tm}
/-- where something is seen -/
structure GoOk (sts : List Sta) (many : Int) (dc : Nat) (d : Nat) (g : Int) (ws : List Tm) : Prop where
  g0 : 0 ≤ g
  g1 : g < sts.length
  no : isSet sts g = false
  len : (ws.length : Int) = many
  vok : VsOk ws
  dp : Tm.deps ws ≤ d + sts.length * dc
theorem onto_go (hC : CdOk rs many dc sts) (hF : FrOk sts many dc p us) (h : OnTo sts p us (.go g ws)) : GoOk sts many dc (Tm.deps us) g ws := by
  obtain ⟨n, hL, rfl, rfl, hs⟩ := h
  have hn := lead_lt hC hF.p0 hF.p1 hL
  obtain ⟨o0, o1⟩ := orb_in hC hF.p0 hF.p1 n
  obtain ⟨v1, v2, v3⟩ := vst_ok hC hF n
  have h5 : n * dc ≤ sts.length * dc := Nat.mul_le_mul_right _ (by omega)
  exact ⟨o0, o1, hL.2, v1, vst_vs hC hF (by omega) hs, by omega⟩
/-- an ask or an end -/
theorem go_at (hC : CdOk rs many dc sts) (g0 : 0 ≤ g) (g1 : g < sts.length) (hno : isSet sts g = false) : (∃ act ts ways, sts[g.toNat]? = some (.ask act ts ways) ∧ (Sta.ask act ts ways).ok rs many sts.length ∧ ts.length ≤ 2 ∧ (∀ t ∈ ts, TmOver many t ∧ t.dep ≤ dc)) ∨
    (∃ word ts, sts[g.toNat]? = some (.fin word ts) ∧ Nm word ∧ ts.length ≤ 2 ∧ (∀ t ∈ ts, TmOver many t ∧ t.dep ≤ dc)) := by
  have hl : g.toNat < sts.length := by omega
  have he := List.getElem?_eq_getElem hl
  have hm := List.getElem_mem hl
  generalize sts[g.toNat] = st at he hm
  have hok := hC.ok st hm
  have hdp := hC.dp st hm
  cases st with
  | set chs g' =>
    unfold isSet at hno
    rw [he] at hno
    cases hno
  | ask act ts ways =>
    refine .inl ⟨act, ts, ways, he, hok, ?_, fun t ht => ⟨?_, hdp t ht⟩⟩
    · obtain ⟨r, hr, _, hk⟩ := hok
      have := hk.len
      have := (hC.w.ok r hr).ar2
      omega
    · obtain ⟨r, hr, _, hk⟩ := hok
      exact hk.ts t ht
  | fin word ts => exact .inr ⟨word, ts, he, hok.1, hok.2.1, fun t ht => ⟨hok.2.2 t ht, hdp t ht⟩⟩
theorem over_oks {ts : List Tm} (hl : (ws.length : Int) = many) (h : ∀ t ∈ ts, TmOver many t ∧ t.dep ≤ dc) (hd : dc ≤ 5) : Tm.oks (fun i => 0 ≤ i ∧ i < ws.length) ts ∧ Tm.deps ts < 51 :=
  ⟨Tm.oks_iff.mpr fun t ht => Tm.ok_mono (fun i hi => by omega) t (h t ht).1.1, Nat.lt_of_le_of_lt ((Tm.deps_le (n := 5) (ts := ts)).mpr fun t ht => Nat.le_trans (h t ht).2 hd) (by decide)⟩
end
theorem cut2 {x y : V} (xs : List V) : cutV (x :: y :: xs) none (some 2) = [x, y] := by
  rw [cutV_to (by decide)]
  rfl
def sp_head (K : PySem.W.Frag) (C CW D : Addr) : Sp := fun vs H Q E => ∃ (x wx : Addr) (rs : List ActR) (many given : Int) (sts : List Sta) (dc : Nat) (p : Int) (us : List Tm) (v : V), vs = [.ref x, v] ∧ CodAt K H C CW x wx rs many given sts ∧ CdOk rs many dc sts ∧ FrOk sts many dc p us ∧ Im K H v (frD p us) ∧
  (∀ r, OnTo sts p us r → r ≠ .many → ∀ v' H', Mv [] H H' → Im K H' v' (headD sts r) → Q v' H') ∧ (OnTo sts p us .many → manyX D H E)
section
variable {P : Program} {w : World} {K : PySem.W.Frag} {mg : Str → Option Value} {base : Heap}
theorem ok_head (T : TX K mg) (Y : TY P K mg) {k : Nat} : FnOk P w K mg base (CX P w) (k + 57) T.d_head.f T.d_head.fd P_head (sp_head K T.C_Code T.C_World Y.C_TooMany) := by
  have G_onward : FnOk P w K mg base (CX P w) 56 T.d_onward.f T.d_onward.fd P_onward (sp_onward K T.C_Code T.C_World Y.C_TooMany) := ok_onward (k := 0) T Y
  have G_put_all : FnOk P w K mg base CX0 53 T.d_put_all.f T.d_put_all.fd P_put_all (sp_putAll K 51) := ok_put_all (k := 0) T 51
  have G_Code_statement : FnOk P w K mg base (CX P w) 4 T.d_Code_statement.f T.d_Code_statement.fd P_Code_statement (sp_stAt K T.C_Code T.C_World Y.C_NoPlace) := ok_Code_statement T Y
  refine T.d_head.F.okX sc_head (fun vs H Q E h => ?_) (fun cdv A outer s H vs Q E hr h => ?_)
  · obtain ⟨_, _, _, _, _, _, _, _, _, _, rfl, _⟩ := h
    rfl
  · obtain ⟨x, wx, rs, many, given, sts, dc, p, us, v, rfl, hC, hO, hF, hv, q1, q3⟩ := h
    refine ⟨_, (pss_cons (ps_set (i := 1) sc_head.nd rfl (Or.inl rfl) (pe_callS G_onward (hr.mono (by omega)) rfl T.d_onward.g T.d_onward.F.kp T.d_onward.b (fun σ => passAt (takes_of rfl rfl rfl rfl) σ) (pa_cons (pv 0) (pa_cons (pv 1) pa_nil)))) (pss_cons (ps_if (pt_cmpR op_isN (pv 1) pe_non (nomark _)) (pss_one (ps_ret (pe_glob rfl T.c_SILENT (show L2.RelV (.ref T.a_SILENT) _ from rfl)))) pss_nil) (pss_cons (ps_set (i := 2) sc_head.nd rfl (Or.inl rfl) (pe_methSlS (pv 0) T.c_Code T.d_Code_statement.M G_Code_statement (hr.mono (by omega)) T.d_Code_statement.b (fun σ => passAt (takes_of rfl rfl rfl rfl) σ) (pa_cons (pe_ix (r := rIx K) ix_seq (pv 1) pe_int (fun _ _ => rfl)) pa_nil))) (pss_one (ps_ret (pe_op (r := rAddG K) op_addG (pe_slice (r := rSlG K) sl_G (pv 2) po_none (po_some pe_int)) (pe_tup (pa_cons (pe_call G_put_all (hr.mono (by omega)) rfl T.d_put_all.g T.d_put_all.F.kp T.d_put_all.b .nil pass0 (pa_cons (pe_ix (r := rIx K) ix_seq (pv 2) pe_int (fun _ _ => rfl)) (pa_cons (pe_ix (r := rIx K) ix_seq (pv 1) pe_int (fun _ _ => rfl)) pa_nil))) pa_nil)))))))), ?_⟩
    refine ⟨.ref x, rfl, v, rfl, x, wx, rs, many, given, sts, dc, p, us, v, rfl, hC, hO, hF, hv, fun hsi H1 m1 => ?_, fun g ws hgo v1 H1 m1 hv1 => ?_, q3⟩
    · refine ⟨.non, rfl, rfl, _, rfl, ?_⟩
      rw [show decide (V.non = V.non) = true from decide_eq_true rfl]
      exact q1 .silent hsi (fun z => by cases z) _ H1 m1 (.tup (T.q_SILENT H1) (.cons (.str _) .nil))
    · obtain ⟨g0, g1, hno, hl, hV, _⟩ := onto_go hO hF hgo
      obtain ⟨a, x0, x1, rfl, ha, k0, k1⟩ := hv1.tup2
      cases k0.intI
      obtain ⟨b, ys, rfl, hb, hys⟩ := k1.tupI
      refine ⟨.ref a, rfl, rfl, _, rfl, ?_⟩
      rw [show decide (V.ref a = V.non) = false from decide_eq_false fun z => by cases z]
      obtain ⟨dx, l', xs, hsl, hW', hl', hxs⟩ := id (hC.mv m1)
      refine ⟨.ref x, rfl, x, dx, _, rfl, hsl, .ref a, rfl, rd_ixT ha (by decide) (v := .int g) rfl ?_⟩
      refine ⟨x, wx, rs, many, given, sts, g, rfl, hC.mv m1, fun _ _ v2 st H2 hst m2 hv2 => ?_, fun hbad => absurd ⟨g0, g1⟩ hbad⟩
      have hq := q1 (.go g ws) hgo (fun z => by cases z)
      rcases go_at hO g0 g1 hno with ⟨act, ts, ways, he, _, hts, hto⟩ | ⟨word, ts, he, _, hts, hto⟩
      · rw [he] at hst
        cases hst
        obtain ⟨oT, dT⟩ := over_oks hl hto hO.d5
        obtain ⟨c, y0, y1, y2, y3, rfl, hc, l0, l1, l2, l3⟩ := hv2.tup4
        cases l0.strI
        cases l1.strI
        obtain ⟨e, zs, rfl, hee, hzs⟩ := l2.tupI
        refine ⟨.ref c, rfl, 2, rfl, rd_slT hc fun p3 H3 m3 e3 => ?_⟩
        rw [cut2] at e3
        have m13 := m2.trans m3
        refine ⟨.ref c, rfl, rd_ixT (m3.sqT hc) (by decide) (v := .ref e) rfl ?_⟩
        refine ⟨.ref a, rfl, rd_ixT (m13.sqT ha) (by decide) (v := .ref b) rfl ?_⟩
        refine ⟨e, b, zs, ys, ts, ws, rfl, .inr (m3.sqT hee), hzs.mv m3, .inr (m13.sqT hb), hys.mv m13, oT, dT, by omega, fun p4 zs4 H4 m4 e4 i4 => ?_⟩
        refine ⟨(by decide : 1 ≤ sizeLine), fun p5 np5 => ?_⟩
        have m5 : Mv [] H4 (upd H4 p5 (.tup [.ref p4])) := .new np5
        have e5 : SqT K (upd H4 p5 (.tup [.ref p4])) p5 [.ref p4] := .inl (.inl upd_same)
        generalize upd H4 p5 (.tup [.ref p4]) = H5 at m5 e5 ⊢
        refine rd_cat ((m4.trans m5).sqT e3) e5 (by decide : 3 ≤ sizeLine) fun p6 H6 m6 e6 => ?_
        refine hq _ H6 (m1.trans (m13.trans (m4.trans (m5.trans m6)))) ?_
        rw [headD_ask he]
        exact .tup e6 (.cons (.str _) (.cons (.str _) (.cons (.tup ((m5.trans m6).sqT e4) (i4.mv (m5.trans m6))) .nil)))
      · rw [he] at hst
        cases hst
        obtain ⟨oT, dT⟩ := over_oks hl hto hO.d5
        obtain ⟨c, y0, y1, y2, rfl, hc, l0, l1, l2⟩ := hv2.tup3
        cases l0.strI
        cases l1.strI
        obtain ⟨e, zs, rfl, hee, hzs⟩ := l2.tupI
        refine ⟨.ref c, rfl, 2, rfl, rd_slT hc fun p3 H3 m3 e3 => ?_⟩
        rw [cut2] at e3
        have m13 := m2.trans m3
        refine ⟨.ref c, rfl, rd_ixT (m3.sqT hc) (by decide) (v := .ref e) rfl ?_⟩
        refine ⟨.ref a, rfl, rd_ixT (m13.sqT ha) (by decide) (v := .ref b) rfl ?_⟩
        refine ⟨e, b, zs, ys, ts, ws, rfl, .inr (m3.sqT hee), hzs.mv m3, .inr (m13.sqT hb), hys.mv m13, oT, dT, by omega, fun p4 zs4 H4 m4 e4 i4 => ?_⟩
        refine ⟨(by decide : 1 ≤ sizeLine), fun p5 np5 => ?_⟩
        have m5 : Mv [] H4 (upd H4 p5 (.tup [.ref p4])) := .new np5
        have e5 : SqT K (upd H4 p5 (.tup [.ref p4])) p5 [.ref p4] := .inl (.inl upd_same)
        generalize upd H4 p5 (.tup [.ref p4]) = H5 at m5 e5 ⊢
        refine rd_cat ((m4.trans m5).sqT e3) e5 (by decide : 3 ≤ sizeLine) fun p6 H6 m6 e6 => ?_
        refine hq _ H6 (m1.trans (m13.trans (m4.trans (m5.trans m6)))) ?_
        rw [headD_fin he]
        exact .tup e6 (.cons (.str _) (.cons (.str _) (.cons (.tup ((m5.trans m6).sqT e4) (i4.mv (m5.trans m6))) .nil)))
end
end Fm
namespace Fm
open PySem PySem.Spec PyProof.Rows L2 SlX
local macro_rules | `(tactic| walk_at "nn") => `(tactic| dsimp only [tC, tNil, tCons, tCB, tCall, gName, tSeq, tAsg, tPar, tDrop, tRet])
local macro_rules | `(tactic| walk_at "nc") => `(tactic| dsimp only [tC, tNil, tCons, tCB, tCall])
/-- a loop over enumerate of a tuple -/
theorem for_enumT {K : PySem.W.Frag} {a : Addr} {xs : List V} {g : TG} {tb : TS} {D : Ends} {σ : L2.St} {H : Hp} (Pv : Nat → L2.St → Hp → Prop) (h0 : Pv 0 σ H) (hl : ∀ i σ' H', Pv i σ' H' → SqT K H' a xs)
    (hs : ∀ i x T σ' H', xs[i]? = some x → Pv i σ' H' → H' T = none → g (.ref T) σ' (upd H' T (.tup [.int (i : Nat), x])) fun σ2 H2 => tb { D with nx := Pv (i + 1), ct := Pv (i + 1), bk := D.nx } σ2 H2) (hd : ∀ σ' H', Pv xs.length σ' H' → D.nx σ' H') :
    SqT K H a xs ∧ ∃ W : Nat → Nat → L2.St → Hp → Prop, (∃ m, W 0 m σ H) ∧ ∀ i m σ H, W i m σ H →
      ((IteT K a).stop i H ∧ D.nx σ H) ∨ ((IteT K a).go i H ∧ ∃ N : L2.St → Hp → Prop, (∀ σ' H', N σ' H' → ∃ m', m' < m ∧ W (i + 1) m' σ' H') ∧ ∀ x H', (IteT K a).yld i H x H' → g x σ H' fun σ2 H2 => tb { D with nx := N, ct := N, bk := D.nx } σ2 H2) := by
  refine ⟨hl 0 σ H h0, fun i m σ H => m = xs.length - i ∧ i ≤ xs.length ∧ Pv i σ H, ⟨xs.length, by simp, Nat.zero_le _, h0⟩, ?_⟩
  rintro i m σ H ⟨rfl, hi, p⟩
  have q := hl i σ H p
  by_cases hlt : i < xs.length
  · refine .inr ⟨⟨xs, xs[i], q, by simp [hlt]⟩, Pv (i + 1), fun σ' H' p' => ⟨xs.length - (i + 1), by omega, rfl, hlt, p'⟩, fun x H' y => ?_⟩
    obtain ⟨T, x', rfl, hT, rfl, y⟩ := y
    exact hs i x' T σ _ (y xs q) p hT
  · have e : i = xs.length := by omega
    subst e
    exact .inl ⟨⟨xs, q, Nat.le_refl _⟩, hd σ H p⟩
/-- variables are given new unknowns -/
def setVn (us : List Tm) (fresh : Int) (vars : List Int) : Nat → List Tm
  | 0 => us
  | n + 1 => (setVn us fresh vars n).set (vars.getD n 0).toNat (.var (fresh + n))
def setV (us : List Tm) (fresh : Int) (vars : List Int) : List Tm := setVn us fresh vars vars.length
theorem Tm.nod_set {j : Int} : ∀ (us : List Tm) (i : Nat), Tm.nod (us.set i (.var j)) ≤ Tm.nod us ∧ Tm.sizes (us.set i (.var j)) ≤ Tm.sizes us
  | [], _ => ⟨Nat.le_refl _, Nat.le_refl _⟩
  | u :: us, 0 => by
    have h1 : 1 ≤ u.size + u.lv := by
      have := Tm.nod_len [u]
      simp only [Tm.nod, Tm.sizes, Tm.lvs, List.length_singleton] at this
      omega
    simp only [List.set_cons_zero, Tm.nod, Tm.sizes, Tm.lvs, Tm.size, Tm.lv]
    omega
  | u :: us, i + 1 => by
    have := Tm.nod_set (j := j) us i
    simp only [List.set_cons_succ, Tm.nod, Tm.sizes, Tm.lvs] at *
    omega
theorem setVn_ok {us : List Tm} {fresh : Int} {vars : List Int} (h0 : 0 ≤ fresh) (h1 : fresh ≤ 10 ^ 30) (hl : vars.length ≤ 1000) (hV : VsOk us) : ∀ n, n ≤ vars.length → VsOk (setVn us fresh vars n) ∧ (setVn us fresh vars n).length = us.length ∧ Tm.sizes (setVn us fresh vars n) ≤ Tm.sizes us ∧ Tm.deps (setVn us fresh vars n) ≤ Tm.deps us
  | 0, _ => ⟨hV, rfl, Nat.le_refl _, Nat.le_refl _⟩
  | n + 1, hn => by
    obtain ⟨h2, h3, h4, h5⟩ := setVn_ok h0 h1 hl hV n (by omega)
    have h6 := Tm.nod_set (j := fresh + n) (setVn us fresh vars n) (vars.getD n 0).toNat
    have hf : fit (fresh + n) := by
      have : (fresh + (n : Int)).natAbs ≤ 10 ^ 30 + 1000 := by
        have : fresh.toNat ≤ 10 ^ 30 := by
          have e : ((10 ^ 30 : Nat) : Int) = 10 ^ 30 := by decide
          omega
        omega
      exact Nat.lt_of_le_of_lt this (by decide)
    have hm : ∀ t ∈ setVn us fresh vars (n + 1), t ∈ setVn us fresh vars n ∨ t = .var (fresh + n) := fun t ht => List.mem_or_eq_of_mem_set ht
    refine ⟨⟨Tm.oks_iff.mpr fun t ht => ?_, ?_, Nat.le_trans h6.1 h2.nd⟩, ?_, Nat.le_trans h6.2 h4, ?_⟩
    · rcases hm t ht with h | rfl
      · exact Tm.oks_iff.mp h2.ok t h
      · exact hf
    · refine Tm.deps_le.mpr fun t ht => ?_
      rcases hm t ht with h | rfl
      · exact Tm.deps_le.mp h2.dp t h
      · simp [Tm.dep]
    · show ((setVn us fresh vars n).set _ _).length = _
      rw [List.length_set, h3]
    · refine Tm.deps_le.mpr fun t ht => ?_
      rcases hm t ht with h | rfl
      · exact Tm.deps_le.mp h5 t h
      · simp [Tm.dep]
/-- what an outcome finds -/
def Fits (sts : List Sta) (p : Int) (us : List Tm) (o : Str) (g : Int) (ws : List Tm) (act : Str) (ts : List Tm) (ways : List (Str × List Int × Int)) (vars : List Int) (goal : Int) : Prop := OnTo sts p us (.go g ws) ∧ sts[g.toNat]? = some (.ask act ts ways) ∧ (o, vars, goal) ∈ ways
def sp_answered (K : PySem.W.Frag) (C CW D : Addr) : Sp := fun vs H Q E => ∃ (x wx : Addr) (rs : List ActR) (many given : Int) (sts : List Sta) (dc : Nat) (p : Int) (us : List Tm) (v : V) (o : Str) (fresh : Int), vs = [.ref x, v, .str o, .int fresh] ∧ CodAt K H C CW x wx rs many given sts ∧ CdOk rs many dc sts ∧ FrOk sts many dc p us ∧ Im K H v (frD p us) ∧ 0 ≤ fresh ∧ fresh ≤ 10 ^ 30 ∧
  (OnTo sts p us .many ∨ ∃ g ws act ts ways vars goal, Fits sts p us o g ws act ts ways vars goal) ∧ (OnTo sts p us .many → manyX D H E) ∧
  ∀ g ws act ts ways vars goal, Fits sts p us o g ws act ts ways vars goal → (Tm.sizes (setV ws fresh vars) ≤ 200 → ∀ v' H', Mv [] H H' → Im K H' v' (frD goal (setV ws fresh vars)) → Q v' H') ∧ (200 < Tm.sizes (setV ws fresh vars) → manyX D H E)
section
variable {P : Program} {w : World} {K : PySem.W.Frag} {mg : Str → Option Value} {base : Heap}
theorem ok_answered (T : TX K mg) (Y : TY P K mg) {k : Nat} : FnOk P w K mg base (CX P w) (k + 57) T.d_answered.f T.d_answered.fd P_answered (sp_answered K T.C_Code T.C_World Y.C_TooMany) := by
  have G_onward : FnOk P w K mg base (CX P w) 56 T.d_onward.f T.d_onward.fd P_onward (sp_onward K T.C_Code T.C_World Y.C_TooMany) := ok_onward (k := 0) T Y
  have G_changed : FnOk P w K mg base (CX P w) 54 T.d_changed.f T.d_changed.fd P_changed (sp_changed K Y.C_TooMany) := ok_changed (k := 0) T Y
  have G_Code_statement : FnOk P w K mg base (CX P w) 4 T.d_Code_statement.f T.d_Code_statement.fd P_Code_statement (sp_stAt K T.C_Code T.C_World Y.C_NoPlace) := ok_Code_statement T Y
  refine T.d_answered.F.okX sc_answered (fun vs H Q E h => ?_) (fun cdv A outer s H vs Q E hr h => ?_)
  · obtain ⟨_, _, _, _, _, _, _, _, _, _, _, _, rfl, _⟩ := h
    rfl
  · obtain ⟨x, wx, rs, many, given, sts, dc, p, us, v, o, fresh, rfl, hC, hO, hF, hv, f0, f1, hany, q3, q1⟩ := h
    have hu64 := hr.units
    refine ⟨_, (pss_cons (ps_set (i := 1) sc_answered.nd rfl (Or.inl rfl) (pe_callS G_onward (hr.mono (by omega)) rfl T.d_onward.g T.d_onward.F.kp T.d_onward.b (fun σ => passAt (takes_of rfl rfl rfl rfl) σ) (pa_cons (pv 0) (pa_cons (pv 1) pa_nil)))) (pss_cons (ps_set (i := 4) sc_answered.nd rfl (Or.inl rfl) (pe_ifExp (pt_cmpR op_isN (pv 1) pe_non (nomark _)) (pe_glob rfl T.c_SILENT (show L2.RelV (.ref T.a_SILENT) _ from rfl)) (pe_methSlS (pv 0) T.c_Code T.d_Code_statement.M G_Code_statement (hr.mono (by omega)) T.d_Code_statement.b (fun σ => passAt (takes_of rfl rfl rfl rfl) σ) (pa_cons (pe_ix (r := rIx K) ix_seq (pv 1) pe_int (fun _ _ => rfl)) pa_nil)))) (pss_cons (ps_if (pt_cmpR (r := rNeG K) (op_neG hu64) (pe_ix (r := rIx K) ix_seq (pv 4) pe_int (fun _ _ => rfl)) pe_str (nomark _)) (pss_one ps_never) pss_nil) (pss_cons (ps_for (passes_of rfl) rfl (pi_seq (pe_ix (r := rIx K) ix_seq (pv 4) pe_int (fun _ _ => rfl))) (pg_tup rfl (pgs_cons (pg_name (i := 5) sc_answered.nd rfl (Or.inl rfl)) (pgs_cons (pg_name (i := 6) sc_answered.nd rfl (Or.inl rfl)) (pgs_cons (pg_name (i := 7) sc_answered.nd rfl (Or.inl rfl)) pgs_nil)))) (pss_one (ps_if (pt_cmpR (r := rEqG K) (op_eqG hu64) (pv 5) (pv 2) (nomark _)) (pss_cons (ps_set (i := 8) sc_answered.nd rfl (Or.inl rfl) (pe_callTy (r := rListG K) (call_listA rfl) (by rfl) T.b_list bt_list (pa_cons (pe_ix (r := rIx K) ix_seq (pv 1) pe_int (fun _ _ => rfl)) pa_nil))) (pss_cons (ps_for (passes_of rfl) rfl (pi_enumG (by rfl) T.b_enumerate (pa_cons (pv 6) pa_nil)) (pg_tup rfl (pgs_cons (pg_name (i := 9) sc_answered.nd rfl (Or.inl rfl)) (pgs_cons (pg_name (i := 10) sc_answered.nd rfl (Or.inl rfl)) pgs_nil))) (pss_one (ps_asg (pe_op (r := rAddG K) op_addG (pv 3) (pv 9)) (pg_sub (pv 8) (pv 10) set_list)))) (pss_one (ps_ret (pe_tup (pa_cons (pv 7) (pa_cons (pe_callS G_changed (hr.mono (by omega)) rfl T.d_changed.g T.d_changed.F.kp T.d_changed.b (fun σ => passAt (takes_of rfl rfl rfl rfl) σ) (pa_cons (pe_callTy (r := rTupOf K) call_tupG (by rfl) T.b_tuple bt_tuple (pa_cons (pv 8) pa_nil)) (pa_cons (pe_tup pa_nil) pa_nil))) pa_nil))))))) pss_nil))) (pss_one ps_never))))), ?_⟩
    refine ⟨.ref x, rfl, v, rfl, x, wx, rs, many, given, sts, dc, p, us, v, rfl, hC, hO, hF, hv, fun hsi H1 m1 => ?_, fun g ws hgo v1 H1 m1 hv1 => ?_, q3⟩
    · rcases hany with h | ⟨g, ws, act, ts, ways, vars, goal, h, _⟩
      · exact absurd (on_one hsi h) (fun z => by cases z)
      · exact absurd (on_one hsi h) (fun z => by cases z)
    · obtain ⟨act, ts, ways, vars, goal, he, hmem⟩ : ∃ act ts ways vars goal, sts[g.toNat]? = some (.ask act ts ways) ∧ (o, vars, goal) ∈ ways := by
        rcases hany with h | ⟨g', ws', act, ts, ways, vars, goal, h, h2, h3⟩
        · exact absurd (on_one hgo h) (fun z => by cases z)
        · cases on_one hgo h
          exact ⟨act, ts, ways, vars, goal, h2, h3⟩
      obtain ⟨qa, qb⟩ := q1 g ws act ts ways vars goal ⟨hgo, he, hmem⟩
      obtain ⟨g0, g1, hno, hl, hV, _⟩ := onto_go hO hF hgo
      have hok := hO.ok _ (List.mem_of_getElem? he)
      obtain ⟨hnd, _⟩ := sta_keyed hO.w hok
      obtain ⟨r, hr', _, hk⟩ := hok
      obtain ⟨bi, _, hvl, hvn, hvi, go0, go1⟩ := hk.ways _ hmem
      have hvn : vars.Nodup := hvn
      have hvi : ∀ j ∈ vars, 0 ≤ j ∧ j < many := hvi
      obtain ⟨a, x0, x1, rfl, ha, k0, k1⟩ := hv1.tup2
      cases k0.intI
      obtain ⟨b, ys, rfl, hb, hys⟩ := k1.tupI
      have hyl : ys.length = ws.length := by rw [hys.length, Tm.ds_map, List.length_map]
      have h24 := hO.m1
      have hv24 : vars.length ≤ 24 := by
        have := pigeon (n := many.toNat) hvn fun z hz => by
          have := hvi z hz
          omega
        omega
      refine ⟨.ref a, rfl, rfl, _, rfl, ?_⟩
      rw [show decide (V.ref a = V.non) = false from decide_eq_false fun z => by cases z]
      obtain ⟨dx, l', xs, hsl, hW', hl', hxs⟩ := id (hC.mv m1)
      refine ⟨.ref x, rfl, x, dx, _, rfl, hsl, .ref a, rfl, rd_ixT ha (by decide) (v := .int g) rfl ?_⟩
      refine ⟨x, wx, rs, many, given, sts, g, rfl, hC.mv m1, fun _ _ v2 st H2 hst m2 hv2 => ?_, fun hbad => absurd ⟨g0, g1⟩ hbad⟩
      rw [he] at hst
      cases hst
      obtain ⟨c, y0, y1, y2, y3, rfl, hc, l0, l1, l2, l3⟩ := hv2.tup4
      cases l0.strI
      obtain ⟨e, zs, rfl, hee, hzs⟩ := l3.tupI
      have hzl : zs.length = ways.length := by rw [hzs.length, List.length_map]
      refine ⟨.ref c, rfl, rd_ixT hc (by decide) (v := .str "ask") rfl ?_⟩
      refine Or.inl ⟨rfl, _, rfl, ?_⟩
      rw [show decide (V.str "ask" = V.str "ask") = true from decide_eq_true rfl]
      refine ⟨.ref c, rfl, rd_ixT hc (by decide) (v := .ref e) rfl ⟨e, rfl, Or.inr ⟨⟨_, hee⟩, ?_⟩⟩⟩
      obtain ⟨kk, hkk⟩ := List.getElem?_of_mem hmem
      have hkl := (List.getElem?_eq_some_iff.mp hkk).1
      refine for_tup (K := K) (a := e) (xs := zs) (fun i σ H3 => ∃ (y5 y6 y7 : Option V), σ = [some (.ref x), some (.ref a), some (.str o), some (.int fresh), some (.ref c), y5, y6, y7, none, none, none] ∧ i ≤ kk ∧ Mv [] H2 H3)
        ⟨_, _, _, rfl, Nat.zero_le _, .refl⟩ (fun i σ H3 _ h3 => ?_) (fun i z σ H3 hz h3 => ?_) (fun σ H3 h3 => ?_)
      · obtain ⟨_, _, _, _, _, m3⟩ := h3
        exact m3.sqT hee
      · obtain ⟨y5, y6, y7, rfl, hik, m3⟩ := h3
        obtain ⟨zd, hzd, him⟩ := hzs.get hz
        rw [List.getElem?_map] at hzd
        obtain ⟨way, hway, rfl⟩ := Option.map_eq_some_iff.mp hzd
        obtain ⟨t, z0, z1, z2, rfl, ht, j0, j1, j2⟩ := (him.mv m3).tup3
        cases j0.strI
        cases j2.intI
        obtain ⟨f, vv, rfl, hf, hvv⟩ := j1.tupI
        refine ⟨t, _, rfl, ht, rfl, _, _, rfl, _, _, rfl, _, _, rfl, rfl, ?_⟩
        refine ⟨.str way.1, rfl, .str o, rfl, Or.inl ⟨rfl, _, rfl, ite2 (fun eo => ?_) (fun eo => ?_)⟩⟩
        · have eo' : way.1 = o := V.str.inj (of_decide_eq_true eo)
          have hi : i = kk := by
            have hw := (List.getElem?_eq_some_iff.mp hway).1
            have e1 : (ways.map (·.1))[i]? = some o := by rw [List.getElem?_map, hway, ← eo']; rfl
            have e2 : (ways.map (·.1))[kk]? = some o := by rw [List.getElem?_map, hkk]; rfl
            exact (List.getElem?_inj (by rw [List.length_map]; exact hw) hnd).mp (e1.trans e2.symm)
          subst hi
          rw [hkk] at hway
          cases hway
          have m23 := m2.trans m3
          refine ⟨.ref a, rfl, rd_ixT (m23.sqT ha) (by decide) (v := .ref b) rfl (Or.inl ⟨b, ys, rfl, .inr (m23.sqT hb), fun l nl => ?_⟩)⟩
          have m4 : Mv [] H3 (upd H3 l (.lst ys)) := .new nl
          have e4 : upd H3 l (.lst ys) l = some (.lst ys) := upd_same
          generalize upd H3 l (.lst ys) = H4 at m4 e4 ⊢
          refine ⟨.ref f, rfl, f, vv, rfl, Or.inr ?_⟩
          have hvvl : vv.length = vars.length := by rw [hvv.length, List.length_map]
          refine for_enumT (K := K) (a := f) (xs := vv) (fun j σ H5 => ∃ (ws' : List V) (y9 y10 : Option V), σ = [some (.ref x), some (.ref a), some (.str o), some (.int fresh), some (.ref c), some (.str o), some (.ref f), some (.int goal), some (.ref l), y9, y10] ∧ j ≤ vars.length ∧ H5 l = some (.lst ws') ∧ Ims K H5 ws' (Tm.ds (setVn ws fresh vars j)) ∧ Mv [] H3 H5)
            ⟨ys, _, _, rfl, Nat.zero_le _, e4, hys.mv (m23.trans m4), m4⟩ (fun j σ H5 h5 => ?_) (fun j z T' σ H5 hz5 h5 nT => ?_) (fun σ H5 h5 => ?_)
          · obtain ⟨_, _, _, _, _, _, _, m5⟩ := h5
            exact m5.sqT hf
          · obtain ⟨ws', y9, y10, rfl, hj, e5, i5, m5⟩ := h5
            obtain ⟨zd5, hzd5, him5⟩ := hvv.get hz5
            rw [List.getElem?_map] at hzd5
            obtain ⟨var, hvar, rfl⟩ := Option.map_eq_some_iff.mp hzd5
            cases him5.intI
            have hjv : j < vars.length := (List.getElem?_eq_some_iff.mp hvar).1
            have hvar' := hvi var (List.mem_of_getElem? hvar)
            obtain ⟨s1, s2, _, _⟩ := setVn_ok (vars := vars) f0 f1 (by omega) hV j (by omega)
            have hwl : ws'.length = ws.length := by rw [i5.length, Tm.ds_map, List.length_map, s2]
            have m6 : Mv [] H5 (upd H5 T' (.tup [.int (j : Nat), .int var])) := .new nT
            have e6 : SqT K (upd H5 T' (.tup [.int (j : Nat), .int var])) T' [.int (j : Nat), .int var] := .inl (.inl upd_same)
            have e56 := m6.same _ _ e5
            have i6 := i5.mv m6
            generalize upd H5 T' (.tup [.int (j : Nat), .int var]) = H6 at m6 e6 e56 i6 ⊢
            refine ⟨T', _, rfl, e6, rfl, _, _, rfl, _, _, rfl, rfl, ?_⟩
            refine ⟨.int fresh, rfl, .int (j : Nat), rfl, Or.inl ⟨fresh, j, rfl, rfl, .ref l, rfl, .int var, rfl, l, ws', var, var.toNat, rfl, rfl, e56, ixN_in hvar'.1 (by omega), ?_⟩⟩
            refine ⟨_, _, _, rfl, by omega, upd_same, ?_, (m5.trans m6).wr nl⟩
            have eg : vars.getD j 0 = var := by rw [List.getD_eq_getElem?_getD, hvar]; rfl
            show Ims K _ _ (Tm.ds ((setVn ws fresh vars j).set (vars.getD j 0).toNat (.var (fresh + j))))
            rw [eg, Tm.ds_map, List.map_set, ← Tm.ds_map]
            refine (i6.set ?_).mv (Mv.set (S := [l]) e56 (by simp))
            exact .int _
          · obtain ⟨ws', y9, y10, rfl, hj, e5, i5, m5⟩ := h5
            rw [hvvl] at i5
            have m25 := m23.trans m5
            obtain ⟨s1, s2, s3, s4⟩ := setVn_ok (vars := vars) f0 f1 (by omega) hV vars.length (Nat.le_refl _)
            refine ⟨.int goal, rfl, .ref l, rfl, ?_⟩
            walk_at "nc"
            refine rd_tupOf (.inl (.inl e5)) fun p6 H6 m6 e6 => ⟨Nat.zero_le _, fun p7 np7 => ?_⟩
            have m7 : Mv [] H6 (upd H6 p7 (.tup [])) := .new np7
            have e7 : SqT K (upd H6 p7 (.tup [])) p7 [] := .inl (.inl upd_same)
            generalize upd H6 p7 (.tup []) = H7 at m7 e7 ⊢
            have m67 := m6.trans m7
            have m17 := m1.trans (m25.trans m67)
            refine ⟨p6, p7, ws', [], setV ws fresh vars, [], 0, rfl, m7.sqT e6, i5.mv m67, s1, by show (setVn ws fresh vars vars.length).length ≤ 24; omega, e7, .nil, ⟨by simp, by simp, by simp⟩, ⟨by simp, by simp⟩, by decide, ?_, ?_⟩
            · rw [chg_nil]
              intro hle p8 zs8 H8 m8 e8 i8
              refine ⟨(by decide : 2 ≤ sizeLine), fun p9 np9 => ?_⟩
              have m9 : Mv [] H8 (upd H8 p9 (.tup [.int goal, .ref p8])) := .new np9
              exact qa hle _ _ (m17.trans (m8.trans m9)) (.tup (.inl (.inl upd_same)) (.cons (.int _) (.cons (.tup (m9.sqT e8) (i8.mv m9)) .nil)))
            · rw [chg_nil]
              intro hgt
              exact (qb hgt).mv m17
        · refine ⟨_, _, _, rfl, ?_, m3⟩
          have : i ≠ kk := fun z => by
            subst z
            rw [hkk] at hway
            cases hway
            exact eo (decide_eq_true rfl)
          omega
      · obtain ⟨_, _, _, _, hik, _⟩ := h3
        rw [hzl] at hik
        omega
end
end Fm
/-! this law's own changes -/
namespace Fm
open PySem PySem.Spec PyProof.Rows L2 SlX
local macro_rules | `(tactic| walk_at "nn") => `(tactic| dsimp only [tC, tNil, tCons, tCB, tCall, gName, tSeq, tAsg, tPar, tDrop, tRet])
local macro_rules | `(tactic| walk_at "nc") => `(tactic| dsimp only [tC, tNil, tCons, tCB, tCall])
theorem chAt_mem {c : Int × Tm} {i : Nat} : ∀ {chs : List (Int × Tm)}, (chs.map (·.1)).Nodup → c ∈ chs → c.1 = (i : Int) → chAt chs i = c.2
  | e :: chs, nd, hm, hc => by
    rw [List.map_cons, List.nodup_cons] at nd
    unfold chAt
    rw [List.find?_cons]
    rcases List.mem_cons.mp hm with rfl | hm
    · rw [show (c.1 == (i : Int)) = true from by rw [hc]; exact beq_self_eq_true _]
      rfl
    · have hne : e.1 ≠ (i : Int) := fun z => nd.1 (by rw [z, ← hc]; exact List.mem_map.mpr ⟨c, hm, rfl⟩)
      rw [show (e.1 == (i : Int)) = false from beq_eq_false_iff_ne.mpr hne]
      exact chAt_mem nd.2 hm hc
theorem chAt_not {i : Nat} {chs : List (Int × Tm)} (h : (i : Int) ∉ chs.map (·.1)) : chAt chs i = .var i := by
  unfold chAt
  rw [List.find?_eq_none.mpr fun x hx z => h (by rw [← eq_of_beq z]; exact List.mem_map.mpr ⟨x, hx, rfl⟩)]
  rfl
/-- changes as a dict has them -/
theorem ch_pairs {K : PySem.W.Frag} {H : Hp} : ∀ {chs : List (Int × Tm)} {zs : List V}, Ims K H zs (chs.map chD) → ∃ (ps : List Addr) (kvs : List (L2.Key × V)), zs = ps.map V.ref ∧ Paired (fun p (kv : L2.Key × V) => SqT K H p [kV kv.1, kv.2]) ps kvs ∧ kvs.map (·.1) = (chs.map (·.1)).map Sum.inl ∧
    ∀ c ∈ chs, ∃ v, ((Sum.inl c.1 : L2.Key), v) ∈ kvs ∧ Im K H v c.2.d
  | [], zs, h => ⟨[], [], h.nilD, .nil, rfl, by simp⟩
  | c :: chs, zs, h => by
    obtain ⟨v, zs', rfl, h1, h2⟩ := h.invD
    obtain ⟨ps, kvs, rfl, h3, h4, h5⟩ := ch_pairs h2
    obtain ⟨a, x, y, rfl, ha, k0, k1⟩ := h1.tup2
    cases k0.intI
    refine ⟨a :: ps, (.inl c.1, y) :: kvs, rfl, .cons ha h3, by simp [h4], fun e he => ?_⟩
    rcases List.mem_cons.mp he with rfl | he
    · exact ⟨y, by simp, k1⟩
    · obtain ⟨v, hv, hi⟩ := h5 e he
      exact ⟨v, by simp [hv], hi⟩
theorem nd_inl {xs : List Int} (n : xs.Nodup) : (xs.map (Sum.inl : Int → L2.Key)).Nodup := List.Pairwise.map _ (fun a b h e => h (Sum.inl.inj e)) n
theorem ch_val {K : PySem.W.Frag} {H : Hp} {chs : List (Int × Tm)} {kvs : List (L2.Key × V)} (nd : (chs.map (·.1)).Nodup) (h4 : kvs.map (·.1) = (chs.map (·.1)).map Sum.inl) (h5 : ∀ c ∈ chs, ∃ v, ((Sum.inl c.1 : L2.Key), v) ∈ kvs ∧ Im K H v c.2.d) (i : Nat) :
    Im K H ((valV kvs (.inl (i : Int))).getD (.int i)) (chAt chs i).d := by
  have nk : (kvs.map (·.1)).Nodup := by rw [h4]; exact nd_inl nd
  by_cases hi : (i : Int) ∈ chs.map (·.1)
  · obtain ⟨c, hc, e⟩ := List.mem_map.mp hi
    obtain ⟨v, hv, him⟩ := h5 c hc
    rw [e] at hv
    rw [valV_mem nk hv, chAt_mem nd hc e]
    exact him
  · rw [valV_none (by rw [h4]; intro z; obtain ⟨j, hj, e⟩ := List.mem_map.mp z; cases e; exact hi hj), chAt_not hi]
    exact .int _
def sp_lchanged (K : PySem.W.Frag) : Sp := fun vs H Q _ => ∃ (a c : Addr) (ys zs : List V) (us : List Tm) (chs : List (Int × Tm)) (dc : Nat), vs = [.ref a, .ref c] ∧ SqT K H a ys ∧ Ims K H ys (Tm.ds us) ∧ VsOk us ∧ us.length ≤ 24 ∧ PlT H c zs ∧ Ims K H zs (chs.map chD) ∧ ChOk us.length chs ∧ ChDp us.length dc chs ∧ dc ≤ 5 ∧
  (Tm.sizes (chg us chs) ≤ 200 → ∀ p zs H', Mv [] H H' → SqT K H' p zs → Ims K H' zs (Tm.ds (chg us chs)) → Q (.ref p) H') ∧ (200 < Tm.sizes (chg us chs) → ∀ H', Mv [] H H' → Q .non H')
section
variable {P : Program} {w : World} {K : PySem.W.Frag} {mg : Str → Option Value} {base : Heap}
theorem ok__law_grown (T : TX K mg) {k : Nat} : FnOk P w K mg base CX0 (k + 53) T.d__law_grown.f T.d__law_grown.fd P__law_grown (sp_sizePut K) := by
  have G__law_size : FnOk P w K mg base CX0 52 T.d__law_size.f T.d__law_size.fd P__law_size (sp_sizeR K 51) := ok__law_size T 51
  have G__law_leaves : FnOk P w K mg base CX0 52 T.d__law_leaves.f T.d__law_leaves.fd P__law_leaves (sp_leavesR K 51) := ok__law_leaves T 51
  refine T.d__law_grown.F.ok sc__law_grown (fun vs H Q E h => ?_) (fun cdv A outer s H vs Q E hr h => ?_)
  · obtain ⟨_, _, _, _, _, _, rfl, _⟩ := h
    rfl
  · obtain ⟨a, c, xs, ys, ts, us, rfl, hS, hxs, hU, hys, hT, hV, hln, q⟩ := h
    refine ⟨_, (pss_one (ps_ret (pe_op (r := rAddG K) op_addG (pe_call G__law_size (hr.mono (by omega)) rfl T.d__law_size.g T.d__law_size.F.kp T.d__law_size.b .nil pass0 (pa_cons (pv 0) pa_nil)) (pe_callB (r := rSum K) (cr_sum rfl) (by rfl) T.b_sum bt_sum (pa_cons (pe_lc (own := [("_law_one", 2)]) (g := gName 2) (by rfl) sc__law_grown.nd (pi_seq (pe_call G__law_leaves (hr.mono (by omega)) rfl T.d__law_leaves.g T.d__law_leaves.F.kp T.d__law_leaves.b .nil pass0 (pa_cons (pv 0) pa_nil))) (blkOk_by (own := [("_law_one", 2)]) (N := N__law_grown) (sc := defScope s__law_grown) (by decide +kernel)) (fun _ _ _ _ _ => pg_name (i := 2) sc__law_grown.nd rfl (Or.inl rfl)) (fun _ _ _ _ _ => pts_nil) (fun _ _ _ _ _ => (pe_call G__law_size (hr.mono (by omega)) rfl T.d__law_size.g T.d__law_size.F.kp T.d__law_size.b .nil pass0 (pa_cons (pe_lst (pa_cons (pe_ix (r := rIx K) ix_seq (pv 1) (pv 2) (fun _ _ => rfl)) pa_nil)) pa_nil)))) pa_nil))))), ?_⟩
    have hnl := Tm.nod_len ts
    have hnd := hT.nd
    have hlv : Tm.lvs ts ≤ Tm.nod ts := by unfold Tm.nod; omega
    have hdp := hT.dp
    refine ⟨.ref a, rfl, a, xs, ts, rfl, hS, hxs, by omega, by omega, Tm.oks_mono (fun _ _ => trivial) ts hT.ok, fun H1 m1 => ?_⟩
    refine ⟨.ref a, rfl, a, xs, ts, rfl, hS.imp (fun h => m1.same.seq h) m1.sqT, hxs.mv m1, by omega, by omega, fun p2 H2 np2 m2 e2 => ⟨p2, rfl, ?_⟩⟩
    have m12 := m1.trans m2
    refine lc_seq (xs := (Tm.leavesL ts).map V.int) (.inl (.inl (.inl e2))) (fun i D H3 => H3 D = some (.lst (((((Tm.leavesL ts).take i).map fun j => (vat us j).size).map fun n : Nat => (n : Int)).map V.int)) ∧ Mv [] H2 H3)
      (fun D nD => ⟨upd_same, .new nD⟩) (fun i D H3 nD h3 => h3.2) (fun D nD i x H3 hx h3 => ?_) (fun D H3 nD h3 => ?_)
    · obtain ⟨e3, m3⟩ := h3
      rw [List.getElem?_map] at hx
      obtain ⟨j, hj, rfl⟩ := Option.map_eq_some_iff.mp hx
      have hji := Tm.oks_leaves ts hT.ok j (List.mem_of_getElem? hj)
      have hi := (List.getElem?_eq_some_iff.mp hj).1
      have hll : (Tm.leavesL ts).length ≤ 10000 := by rw [Tm.leavesL_len]; omega
      have m03 := m12.trans m3
      obtain ⟨v, hv, him⟩ := hys.getD (i := j.toNat) (d := (vat us j).d) (by rw [Tm.ds_map, List.getElem?_map, vat_some hji.1 hji.2]; rfl)
      have hmem := vat_mem hji.1 hji.2
      obtain ⟨o1, o2, o3⟩ := hV.one hmem
      refine ⟨rfl, .ref c, rfl, .int j, rfl, ?_⟩
      have key : ∀ Q : VK, Q v H3 → rIx K (.ref c) (.int j) H3 Q := fun Q hq => by
        rcases hU with h | h
        · exact rd_ixL (m03.same.seq h) hji.1 hv hq
        · exact rd_ixT (m03.sqT h) hji.1 hv hq
      refine key _ ⟨(by decide : 1 ≤ sizeLine), fun p4 np4 => ?_⟩
      have m4 : Mv [] H3 (upd H3 p4 (.lst [v])) := .new np4
      refine ⟨p4, [v], [vat us j], rfl, .inl (.inl (.inl upd_same)), .cons ((him.mv m03).mv m4) .nil, by omega, by simp, Tm.oks_mono (fun _ _ => trivial) _ o1, fun H5 m5 => ?_⟩
      have m45 := m4.trans m5
      have e5 := m45.same _ _ e3
      refine ⟨_, e5, ?_, ?_, (m3.trans m45).wr nD⟩
      · rw [List.length_map, List.length_map, List.length_map, List.length_take]
        exact line5lt (by omega)
      · rw [upd_same, List.take_add_one, hj]
        have : (Tm.sizes [vat us j] : Nat) = (vat us j).size := by simp [Tm.sizes]
        rw [this]
        simp
    · obtain ⟨e3, m3⟩ := h3
      rw [List.length_map, List.take_length] at e3
      refine ⟨D, _, rfl, .inl (.inl e3), Or.inl ⟨_, _, rfl, rfl, ?_⟩⟩
      have := q H3 (m12.trans m3)
      rw [← Tm.puts_map, Tm.sizes_puts] at this
      rw [sum_nat]
      have e : ((Tm.sizes ts : Nat) : Int) + (((Tm.leavesL ts).map fun j => (vat us j).size).sum : Nat) = ((Tm.sizes ts + ((Tm.leavesL ts).map fun j => (vat us j).size).sum : Nat) : Int) := by omega
      show Q (.int (((Tm.sizes ts : Nat) : Int) + _)) H3
      rw [e]
      exact this
theorem ok__law_changed (T : TX K mg) {k : Nat} : FnOk P w K mg base CX0 (k + 54) T.d__law_changed.f T.d__law_changed.fd P__law_changed (sp_lchanged K) := by
  have G__law_grown : FnOk P w K mg base CX0 53 T.d__law_grown.f T.d__law_grown.fd P__law_grown (sp_sizePut K) := ok__law_grown (k := 0) T
  have G__law_put : FnOk P w K mg base CX0 52 T.d__law_put.f T.d__law_put.fd P__law_put (sp_put K 51) := ok__law_put T 51
  refine T.d__law_changed.F.ok sc__law_changed (fun vs H Q E h => ?_) (fun cdv A outer s H vs Q E hr h => ?_)
  · obtain ⟨_, _, _, _, _, _, _, rfl, _⟩ := h
    rfl
  · obtain ⟨a, c, ys, zs, us, chs, dc, rfl, hA, hys, hV, h24, hZ, hzs, hCo, hCd, hdc, q1, q2⟩ := h
    have hu1 := hu1_of hr
    refine ⟨_, (pss_cons (ps_set (i := 2) sc__law_changed.nd rfl (Or.inr rfl) (pe_callTy (r := rDictT K) (call_dictT rfl) (by rfl) T.b_dict bt_dict (pa_cons (pv 1) pa_nil))) (pss_cons (ps_setLc (i := 3) (own := [("_law_at", 4)]) (g := gName 4) (by rfl) sc__law_changed.nd rfl rfl (sw_true rfl rfl rfl (by decide +kernel)) (pi_range1 (by rfl) T.b_range (pa_cons (pe_callB (r := rLenG K) call_lenG (by rfl) T.b_len bt_len (pa_cons (pv 0) pa_nil)) pa_nil)) (blkOk_by (own := [("_law_at", 4)]) (N := N__law_changed) (sc := defScope s__law_changed) (by decide +kernel)) (fun _ _ _ _ _ => pg_name (i := 4) sc__law_changed.nd rfl (Or.inl rfl)) (fun _ _ _ _ _ => pts_nil) (fun _ _ _ _ _ => (pe_dget2 hu1 (pv 2) (pv 4) (pv 4) ⟨rfl, rfl, rfl, rfl⟩))) (pss_cons (ps_if (pt_cmpR op_gt (pe_call G__law_grown (hr.mono (by omega)) rfl T.d__law_grown.g T.d__law_grown.F.kp T.d__law_grown.b .nil pass0 (pa_cons (pv 3) (pa_cons (pv 0) pa_nil))) pe_int (nomark _)) (pss_one (ps_ret pe_non)) pss_nil) (pss_one (ps_ret (pe_callTy (r := rTupOf K) call_tupG (by rfl) T.b_tuple bt_tuple (pa_cons (pe_lc (own := [("_law_term_here", 5)]) (g := gName 5) (by rfl) sc__law_changed.nd (pi_seq (pv 3)) (blkOk_by (own := [("_law_term_here", 5)]) (N := N__law_changed) (sc := defScope s__law_changed) (by decide +kernel)) (fun _ _ _ _ _ => pg_name (i := 5) sc__law_changed.nd rfl (Or.inl rfl)) (fun _ _ _ _ _ => pts_nil) (fun _ _ _ _ _ => (pe_call G__law_put (hr.mono (by omega)) rfl T.d__law_put.g T.d__law_put.F.kp T.d__law_put.b .nil pass0 (pa_cons (pv 5) (pa_cons (pv 0) pa_nil))))) pa_nil))))))), ?_⟩
    have hyl : ys.length = us.length := by rw [hys.length, Tm.ds_map, List.length_map]
    obtain ⟨ps, kvs, rfl, hps, h4, h5⟩ := ch_pairs hzs
    have nk : (kvs.map (·.1)).Nodup := by rw [h4]; exact nd_inl hCo.1
    refine ⟨.ref c, rfl, c, ps, kvs, rfl, hZ, hps, fun dd ndd => ?_⟩
    rw [show mergeK [] kvs = kvs from (mergeK_nd kvs [] nk).trans (List.nil_append _)]
    have m1 : Mv [] H (upd H dd (.dK kvs)) := .new ndd
    have e1 : upd H dd (.dK kvs) dd = some (.dK kvs) := upd_same
    generalize upd H dd (.dK kvs) = H1 at m1 e1 ⊢
    refine ⟨.ref a, rfl, Or.inl ⟨a, ys, rfl, .inr (m1.sqT hA), _, rfl, by omega, by omega, fun D nD => ?_⟩⟩
    have nD0 := m1.free nD
    refine lc_range (lo := 0) (n := ((ys.length : Nat) : Int).toNat) (fun i H2 => ∃ ws, H2 D = some (.lst ws) ∧ Ims K H2 ws (Tm.ds ((List.range i).map (chAt chs))) ∧ Mv [] H1 H2)
      ⟨[], upd_same, Ims.nil, .new nD⟩ (fun i H2 hi h2 => ?_) (fun H2 h2 => ?_)
    · obtain ⟨ws, e2, i2, m2⟩ := h2
      rw [Int.toNat_natCast] at hi
      have ed := m2.same _ _ e1
      refine ⟨rfl, .ref dd, rfl, dd, rfl, .inl ⟨kvs, .inl ed⟩, _, rfl, _, rfl, valV kvs (.inl (0 + (i : Int))), Or.inl ⟨kvs, .inl (0 + (i : Int)), .inl ed, rfl, rfl⟩, ?_⟩
      rw [Int.zero_add]
      have hv := (ch_val hCo.1 h4 h5 i).mv (m1.trans m2)
      refine ⟨_, e2, ?_, _, upd_same, ?_, m2.wr nD⟩
      · rw [i2.length, Tm.ds_map, List.length_map, List.length_map, List.length_range]
        exact small1000 (by omega)
      · rw [List.range_succ, List.map_append]
        rw [show Tm.ds ((List.range i).map (chAt chs) ++ [i].map (chAt chs)) = Tm.ds ((List.range i).map (chAt chs)) ++ [(chAt chs i).d] by simp [Tm.ds_map]]
        exact (i2.append (.cons hv .nil)).mv (Mv.set (S := [D]) e2 (by simp))
    · obtain ⟨ws, e2, i2, m2⟩ := h2
      rw [Int.toNat_natCast, hyl] at i2
      have i2 : Ims K H2 ws (Tm.ds (chT us.length chs)) := i2
      have hts := chT_ts hCd rfl h24 hdc
      have m02 := m1.trans m2
      refine ⟨.ref D, rfl, .ref a, rfl, D, a, ws, ys, chT us.length chs, us, rfl, .inl (.inl (.inl e2)), i2, .inr (m02.sqT hA), hys.mv m02, hts, hV, by omega, fun H3 m3 => ?_⟩
      have m03 := m02.trans m3
      refine ⟨_, 200, rfl, rfl, _, rfl, ite2 (fun e => ?_) (fun e => ?_)⟩
      · have e' : 200 < Tm.sizes (chg us chs) := by
          have := of_decide_eq_true e
          unfold chg
          omega
        exact q2 e' H3 m03
      · have e' : Tm.sizes (chg us chs) ≤ 200 := by
          have : ¬ ((200 : Int) < ((Tm.sizes ((chT us.length chs).map (Tm.put (vat us))) : Nat) : Int)) := fun h => e (decide_eq_true h)
          unfold chg
          omega
        have e3 := m3.same _ _ e2
        have i3 := i2.mv m3
        have hwl : ws.length = us.length := by rw [i2.length, Tm.ds_map, List.length_map, chT_len]
        refine ⟨.ref D, rfl, D, rfl, ?_⟩
        refine lc_seq (xs := ws) (.inl (.inl (.inl e3))) (fun i D2 H4 => ∃ vs, H4 D2 = some (.lst vs) ∧ Ims K H4 vs (Tm.ds (((chT us.length chs).take i).map (Tm.put (vat us)))) ∧ Mv [] H3 H4)
          (fun D2 nD2 => ⟨[], upd_same, Ims.nil, .new nD2⟩) (fun i D2 H4 nD2 h4 => h4.choose_spec.2.2) (fun D2 nD2 i x H4 hx h4 => ?_) (fun D2 H4 nD2 h4 => ?_)
        · obtain ⟨vs, e4, i4, m4⟩ := h4
          obtain ⟨xd, hxd, him⟩ := i3.get hx
          rw [Tm.ds_map, List.getElem?_map] at hxd
          obtain ⟨t, ht, rfl⟩ := Option.map_eq_some_iff.mp hxd
          have hmem := List.mem_of_getElem? ht
          have hi := (List.getElem?_eq_some_iff.mp ht).1
          rw [chT_len] at hi
          have m04 := m03.trans m4
          refine ⟨rfl, x, rfl, .ref a, rfl, x, .ref a, t, _, vat us, rfl, him.mv m4, Tm.oks_iff.mp hts.ok t hmem, ?_, (look_vat (.inr hA) hys).mv m04, fun v H5 m5 h5 => ?_⟩
          · have := Tm.deps_le.mp hts.dp t hmem
            omega
          have e5 := m5.same _ _ e4
          refine ⟨_, e5, ?_, vs ++ [v], upd_same, ?_, (m4.trans m5).wr nD2⟩
          · rw [i4.length, Tm.ds_map, List.length_map, List.length_map, List.length_take]
            exact small1000 (by omega)
          · rw [List.take_add_one, ht]
            rw [show Tm.ds (List.map (Tm.put (vat us)) ((chT us.length chs).take i ++ (some t).toList)) = Tm.ds (((chT us.length chs).take i).map (Tm.put (vat us))) ++ [(t.put (vat us)).d] by simp [Tm.ds_map]]
            exact ((i4.mv m5).append (Ims.cons h5 Ims.nil)).mv (Mv.set (S := [D2]) e5 (by simp))
        · obtain ⟨vs, e4, i4, m4⟩ := h4
          rw [hwl] at i4
          rw [List.take_of_length_le (by rw [chT_len]; omega)] at i4
          walk_at "nc"
          exact rd_tupOf (.inl (.inl e4)) fun p5 H5 m5 e5 => q1 e' p5 vs H5 (m03.trans (m4.trans m5)) e5 (i4.mv m5)
end
end Fm
/-! this law's own way on -/
namespace Fm
open PySem PySem.Spec PyProof.Rows L2 SlX
local macro_rules | `(tactic| walk_at "nn") => `(tactic| dsimp only [tC, tNil, tCons, tCB, tCall, gName, tSeq, tAsg, tPar, tDrop, tRet])
local macro_rules | `(tactic| walk_at "nc") => `(tactic| dsimp only [tC, tNil, tCons, tCB, tCall])
def resD : Res → PyData
  | .silent => .str "silent"
  | .many => .str "many"
  | .go g us => frD g us
def sp_lonward (K : PySem.W.Frag) : Sp := fun vs H Q _ => ∃ (c d : Addr) (rs : List ActR) (many given : Int) (sts : List Sta) (dc : Nat) (p : Int) (us : List Tm) (v : V), vs = [.ref c, v] ∧ LCode K H c d many given sts ∧ CdOk rs many dc sts ∧ FrOk sts many dc p us ∧ Im K H v (frD p us) ∧
  ∀ r, OnTo sts p us r → ∀ v' H', Mv [] H H' → Im K H' v' (resD r) → Q v' H'
def sp_lhead (K : PySem.W.Frag) : Sp := fun vs H Q _ => ∃ (c d : Addr) (rs : List ActR) (many given : Int) (sts : List Sta) (dc : Nat) (p : Int) (us : List Tm) (v : V), vs = [.ref c, v] ∧ LCode K H c d many given sts ∧ CdOk rs many dc sts ∧ FrOk sts many dc p us ∧ Im K H v (frD p us) ∧
  ∀ r, OnTo sts p us r → ∀ v' H', Mv [] H H' → Im K H' v' (headD sts r) → Q v' H'
section
variable {P : Program} {w : World} {K : PySem.W.Frag} {mg : Str → Option Value} {base : Heap}
theorem ok__law_onward (T : TX K mg) {k : Nat} : FnOk P w K mg base CX0 (k + 55) T.d__law_onward.f T.d__law_onward.fd P__law_onward (sp_lonward K) := by
  have G__law_changed : FnOk P w K mg base CX0 54 T.d__law_changed.f T.d__law_changed.fd P__law_changed (sp_lchanged K) := ok__law_changed (k := 0) T
  have G__law_showing : FnOk P w K mg base CX0 1 T.d__law_showing.f T.d__law_showing.fd P__law_showing (sp_lshow K) := ok__law_showing T
  refine T.d__law_onward.F.ok sc__law_onward (fun vs H Q E h => ?_) (fun cdv A outer s H vs Q E hr h => ?_)
  · obtain ⟨_, _, _, _, _, _, _, _, _, _, rfl, _⟩ := h
    rfl
  · obtain ⟨c, d, rs, many, given, sts, dc, p, us, v, rfl, hC, hO, hF, hv, q⟩ := h
    have hu1 := hu1_of hr
    have hu64 := hr.units
    refine ⟨_, (pss_cons (ps_set (i := 2) sc__law_onward.nd rfl (Or.inl rfl) (pe_call G__law_showing (hr.mono (by omega)) rfl T.d__law_showing.g T.d__law_showing.F.kp T.d__law_showing.b .nil pass0 (pa_cons (pv 0) (pa_cons (pe_ix (r := rIx K) ix_seq (pv 1) pe_int (fun _ _ => rfl)) pa_nil)))) (pss_cons (ps_if (pt_cmpR op_isN (pv 2) pe_non (nomark _)) (pss_one (ps_ret pe_str)) pss_nil) (pss_cons (ps_while PassesOwn.never (pt_cmpR (r := rNeG K) (op_neG hu64) (pe_ix (r := rIx K) ix_seq (pv 1) pe_int (fun _ _ => rfl)) (pv 2) (nomark _)) (pss_cons (ps_set (i := 3) sc__law_onward.nd rfl (Or.inl rfl) (pe_ix (r := rIx K) ix_seq (pe_dget hu1 (pv 0) pe_str (fun _ _ => rfl)) (pe_ix (r := rIx K) ix_seq (pv 1) pe_int (fun _ _ => rfl)) (fun _ _ => rfl))) (pss_cons (ps_set (i := 4) sc__law_onward.nd rfl (Or.inl rfl) (pe_call G__law_changed (hr.mono (by omega)) rfl T.d__law_changed.g T.d__law_changed.F.kp T.d__law_changed.b .nil pass0 (pa_cons (pe_ix (r := rIx K) ix_seq (pv 1) pe_int (fun _ _ => rfl)) (pa_cons (pe_ix (r := rIx K) ix_seq (pv 3) pe_int (fun _ _ => rfl)) pa_nil)))) (pss_cons (ps_if (pt_cmpR op_isN (pv 4) pe_non (nomark _)) (pss_one (ps_ret pe_str)) pss_nil) (pss_one (ps_set (i := 1) sc__law_onward.nd rfl (Or.inl rfl) (pe_tup (pa_cons (pe_ix (r := rIx K) ix_seq (pv 3) pe_int (fun _ _ => rfl)) (pa_cons (pv 4) pa_nil))))))))) (pss_one (ps_ret (pv 1)))))), ?_⟩
    obtain ⟨l, vs, hc, hl, hR⟩ := id hC
    have hvl : vs.length = sts.length := by
      have := hR.1.length
      rwa [List.length_map] at this
    obtain ⟨a, x0, x1, rfl, ha, k0, k1⟩ := id hv.tup2
    cases k0.intI
    refine ⟨.ref c, rfl, .ref a, rfl, rd_ixT ha (by decide) (v := .int p) rfl ?_⟩
    refine ⟨c, d, many, given, sts, p, rfl, hC, hO.len, hO.goal, hF.p0, hF.p1, fun r hsh => ?_⟩
    cases r with
    | none =>
      refine ⟨.non, rfl, rfl, _, rfl, ?_⟩
      rw [show decide (V.non = V.non) = true from decide_eq_true rfl]
      exact q .silent hsh _ H .refl (.str _)
    | some g =>
      obtain ⟨n, hL, hg⟩ := lead_shows hsh
      have hn := lead_lt hO hF.p0 hF.p1 hL
      refine ⟨.int g, rfl, rfl, _, rfl, ?_⟩
      rw [show decide (V.int g = V.non) = false from decide_eq_false fun z => by cases z]
      refine ⟨fun m σ H2 => ∃ (j : Nat) (v : V) (y3 y4 : Option V), σ = [some (.ref c), some v, some (.int g), y3, y4] ∧ j ≤ n ∧ Im K H2 v (frD (orb sts p j) (vst sts p us j)) ∧ (∀ i, 1 ≤ i → i ≤ j → Tm.sizes (vst sts p us i) ≤ 200) ∧ m = n - j ∧ Mv [] H H2,
        ⟨_, 0, _, _, _, rfl, Nat.zero_le _, hv, fun i h1 h2 => by omega, rfl, .refl⟩, fun m σ H2 hW => ?_⟩
      obtain ⟨j, v, y3, y4, rfl, hj, hv2, hs2, rfl, m2⟩ := hW
      obtain ⟨a2, z0, z1, rfl, ha2, l0, l1⟩ := id hv2.tup2
      cases l0.intI
      refine ⟨.ref a2, rfl, rd_ixT ha2 (by decide) (v := .int (orb sts p j)) rfl ?_⟩
      refine ⟨.int g, rfl, Or.inl ⟨rfl, _, rfl, ?_⟩⟩
      by_cases hjn : j = n
      · subst hjn
        rw [hg, show decide (V.int g = V.int g) = true from decide_eq_true rfl]
        rw [hg] at hv2
        exact ⟨.ref a2, rfl, q (.go g (vst sts p us j)) ⟨j, hL, hg.symm, rfl, hs2⟩ _ H2 m2 hv2⟩
      · have hset := hL.1 j (by omega)
        have hne : orb sts p j ≠ g := fun e => by
          have := hL.2
          rw [hg, ← e, hset] at this
          cases this
        rw [show decide (V.int (orb sts p j) = V.int g) = false from decide_eq_false fun z => hne (V.int.inj z)]
        refine ⟨fun σ' H' => ∃ m', m' < n - j ∧ _, fun _ _ h => h, ?_⟩
        obtain ⟨v1, v2, v3⟩ := vst_ok hO hF j
        obtain ⟨o0, o1⟩ := orb_in hO hF.p0 hF.p1 j
        obtain ⟨chs, g', hst, hgo⟩ := isSet_some hset
        have hch : chsAt sts (orb sts p j) = chs := by unfold chsAt; rw [hst]
        obtain ⟨cO, cD⟩ := hO.chs (orb sts p j)
        rw [hch, ← v1] at cO cD
        have hpj : (orb sts p j).toNat < vs.length := by omega
        obtain ⟨b, e, zs, hvb, hb, he, hzs⟩ := (hR.mv0 m2).2 _ _ _ (List.getElem?_eq_getElem hpj) hst
        have hvi : vs[(orb sts p j).toNat]? = some (.ref b) := by rw [← hvb]; exact List.getElem?_eq_getElem hpj
        obtain ⟨f, ys, rfl, hf, hys⟩ := l1.tupI
        refine ⟨.ref c, rfl, c, .ref l, rfl, Or.inl ⟨_, .inr "rows", .inl (m2.same _ _ hc), rfl, (code_rows d l many given).symm⟩, ?_⟩
        refine ⟨.ref a2, rfl, rd_ixT ha2 (by decide) (v := .int (orb sts p j)) rfl (rd_ixL (.inl (.inl (m2.same _ _ hl))) o0 hvi ?_)⟩
        refine ⟨.ref a2, rfl, rd_ixT ha2 (by decide) (v := .ref f) rfl ⟨.ref b, rfl, rd_ixT hb (by decide) (v := .ref e) rfl ?_⟩⟩
        have h24 := hO.m1
        have hnx : vst sts p us (j + 1) = chg (vst sts p us j) chs := by
          show chg _ (chsAt sts (orb sts p j)) = _
          rw [hch]
        refine ⟨f, e, ys, zs, vst sts p us j, chs, dc, rfl, hf, hys, vst_vs hO hF (by omega) hs2, by omega, he, hzs, cO, cD, hO.d5, fun hle p3 zs3 H3 m3 e3 i3 => ?_, fun hgt H3 m3 => ?_⟩
        · refine ⟨.ref p3, rfl, rfl, _, rfl, ?_⟩
          rw [show decide (V.ref p3 = V.non) = false from decide_eq_false fun z => by cases z]
          refine ⟨.ref b, rfl, rd_ixT (m3.sqT hb) (by decide) (v := .int g') rfl ⟨.ref p3, rfl, (by decide : 2 ≤ sizeLine), fun p4 np4 => ?_⟩⟩
          have m4 : Mv [] H3 (upd H3 p4 (.tup [.int g', .ref p3])) := .new np4
          refine ⟨n - (j + 1), by omega, j + 1, _, _, _, rfl, by omega, ?_, fun i h1 h2 => ?_, rfl, m2.trans (m3.trans m4)⟩
          · rw [hnx]
            show Im K _ _ (frD (stp sts (orb sts p j)) _)
            rw [hgo]
            exact .tup (.inl (.inl upd_same)) (.cons (.int _) (.cons (.tup (m4.sqT e3) (i3.mv m4)) .nil))
          · by_cases e : i = j + 1
            · rw [e, hnx]
              exact hle
            · exact hs2 i h1 (by omega)
        · refine ⟨.non, rfl, rfl, _, rfl, ?_⟩
          rw [show decide (V.non = V.non) = true from decide_eq_true rfl]
          exact q .many ⟨n, hL, j + 1, by omega, by omega, by rw [hnx]; exact hgt⟩ _ H3 (m2.trans m3) (.str _)
end
end Fm
/-! what is seen next, by this law's own look -/
namespace Fm
open PySem PySem.Spec PyProof.Rows L2 SlX
local macro_rules | `(tactic| walk_at "nn") => `(tactic| dsimp only [tC, tNil, tCons, tCB, tCall, gName, tSeq, tAsg, tPar, tDrop, tRet])
local macro_rules | `(tactic| walk_at "nc") => `(tactic| dsimp only [tC, tNil, tCons, tCB, tCall])
section
variable {P : Program} {w : World} {K : PySem.W.Frag} {mg : Str → Option Value} {base : Heap}
theorem rd_isStrS {H : Hp} {x : Str} {Q : VK} (q : Q (.bl true) H) : rIsi K [.str x, .ty "str"] H Q := ⟨.str x, .ty "str", _, _, true, rfl, .ty "str", .base (.str x), kit_ty (by decide +kernel), q⟩
theorem rd_isStrT {H : Hp} {a : Addr} {xs : List V} {Q : VK} (h : SqT K H a xs) (q : Q (.bl false) H) : rIsi K [.ref a, .ty "str"] H Q := ⟨.ref a, .ty "str", _, _, false, rfl, .ty "str", tyx_sqT h, kit_ty (a := "tuple") (by decide +kernel), q⟩
theorem ok__law_head (T : TX K mg) {k : Nat} : FnOk P w K mg base CX0 (k + 56) T.d__law_head.f T.d__law_head.fd P__law_head (sp_lhead K) := by
  have G__law_onward : FnOk P w K mg base CX0 55 T.d__law_onward.f T.d__law_onward.fd P__law_onward (sp_lonward K) := ok__law_onward (k := 0) T
  have G__law_put : FnOk P w K mg base CX0 52 T.d__law_put.f T.d__law_put.fd P__law_put (sp_put K 51) := ok__law_put T 51
  refine T.d__law_head.F.ok sc__law_head (fun vs H Q E h => ?_) (fun cdv A outer s H vs Q E hr h => ?_)
  · obtain ⟨_, _, _, _, _, _, _, _, _, _, rfl, _⟩ := h
    rfl
  · obtain ⟨c, d, rs, many, given, sts, dc, p, us, v, rfl, hC, hO, hF, hv, q⟩ := h
    have hu1 := hu1_of hr
    have hu64 := hr.units
    refine ⟨_, (pss_cons (ps_set (i := 2) sc__law_head.nd rfl (Or.inr rfl) (pe_call G__law_onward (hr.mono (by omega)) rfl T.d__law_onward.g T.d__law_onward.F.kp T.d__law_onward.b .nil pass0 (pa_cons (pv 0) (pa_cons (pv 1) pa_nil)))) (pss_cons (ps_if (pt_val (pe_callB (r := rIsi K) call_isi (by rfl) T.b_isinstance bt_isinstance (pa_cons (pv 2) (pa_cons (pe_ty T.b_str bt_str) pa_nil)))) (pss_one (ps_ret (pe_ifExp (pt_cmpR (r := rEqG K) (op_eqG hu64) (pv 2) pe_str (nomark _)) (pe_tup (pa_cons pe_str pa_nil)) (pv 2)))) pss_nil) (pss_cons (ps_set (i := 3) sc__law_head.nd rfl (Or.inl rfl) (pe_ix (r := rIx K) ix_seq (pe_dget hu1 (pv 0) pe_str (fun _ _ => rfl)) (pe_ix (r := rIx K) ix_seq (pv 2) pe_int (fun _ _ => rfl)) (fun _ _ => rfl))) (pss_one (ps_ret (pe_op (r := rAddG K) op_addG (pe_slice (r := rSlG K) sl_G (pv 3) po_none (po_some pe_int)) (pe_tup (pa_cons (pe_callTy (r := rTupOf K) call_tupG (by rfl) T.b_tuple bt_tuple (pa_cons (pe_lc (own := [("_law_term_here", 4)]) (g := gName 4) (by rfl) sc__law_head.nd (pi_seq (pe_ix (r := rIx K) ix_seq (pv 3) pe_int (fun _ _ => rfl))) (blkOk_by (own := [("_law_term_here", 4)]) (N := N__law_head) (sc := defScope s__law_head) (by decide +kernel)) (fun _ _ _ _ _ => pg_name (i := 4) sc__law_head.nd rfl (Or.inl rfl)) (fun _ _ _ _ _ => pts_nil) (fun _ _ _ _ _ => (pe_call G__law_put (hr.mono (by omega)) rfl T.d__law_put.g T.d__law_put.F.kp T.d__law_put.b .nil pass0 (pa_cons (pv 4) (pa_cons (pe_ix (r := rIx K) ix_seq (pv 2) pe_int (fun _ _ => rfl)) pa_nil))))) pa_nil)) pa_nil)))))))), ?_⟩
    refine ⟨.ref c, rfl, v, rfl, c, d, rs, many, given, sts, dc, p, us, v, rfl, hC, hO, hF, hv, fun r hon v1 H1 m1 hv1 => ?_⟩
    refine ⟨v1, rfl, ?_⟩
    walk_at "nc"
    cases r with
    | silent =>
      cases hv1.strI
      refine rd_isStrS ⟨_, rfl, .str "silent", rfl, Or.inl ⟨rfl, _, rfl, ?_⟩⟩
      rw [show decide (V.str "silent" = V.str "silent") = true from decide_eq_true rfl]
      refine ⟨(by decide : 1 ≤ sizeLine), fun p2 np2 => ?_⟩
      exact q .silent hon _ _ (m1.trans (.new np2)) (.tup (.inl (.inl upd_same)) (.cons (.str _) .nil))
    | many =>
      cases hv1.strI
      refine rd_isStrS ⟨_, rfl, .str "many", rfl, Or.inl ⟨rfl, _, rfl, ?_⟩⟩
      rw [ne_str (by decide +kernel)]
      exact ⟨.str "many", rfl, q .many hon _ H1 m1 (.str _)⟩
    | go g ws =>
      obtain ⟨g0, g1, hno, hl, hV, _⟩ := onto_go hO hF hon
      obtain ⟨a, x0, x1, rfl, ha, k0, k1⟩ := hv1.tup2
      cases k0.intI
      obtain ⟨b, ys, rfl, hb, hys⟩ := k1.tupI
      refine rd_isStrT ha ⟨_, rfl, ?_⟩
      obtain ⟨l, vs, hc, hlr, hR⟩ := id (hC.mv m1)
      have hvl : vs.length = sts.length := by
        have := hR.1.length
        rwa [List.length_map] at this
      have hgi : g.toNat < vs.length := by omega
      obtain ⟨dd, hdd, him⟩ := hR.1.get (List.getElem?_eq_getElem hgi)
      rw [List.getElem?_map] at hdd
      obtain ⟨st, hst, rfl⟩ := Option.map_eq_some_iff.mp hdd
      have hq := q (.go g ws) hon
      refine ⟨.ref c, rfl, c, .ref l, rfl, Or.inl ⟨_, .inr "rows", .inl hc, rfl, (code_rows d l many given).symm⟩, ?_⟩
      refine ⟨.ref a, rfl, rd_ixT ha (by decide) (v := .int g) rfl (rd_ixL (.inl (.inl hlr)) g0 (List.getElem?_eq_getElem hgi) ?_)⟩
      have key : ∃ (cc e : Addr) (z0 z1 : Str) (zs zs' : List V) (ts : List Tm), vs[g.toNat] = .ref cc ∧ SqT K H1 cc (.str z0 :: .str z1 :: .ref e :: zs') ∧ SqT K H1 e zs ∧ Ims K H1 zs (Tm.ds ts) ∧ (∀ t ∈ ts, TmOver many t ∧ t.dep ≤ dc) ∧ ts.length ≤ 2 ∧ headD sts (.go g ws) = .tuple [.str z0, .str z1, .tuple (Tm.ds (ts.map (Tm.put (vat ws))))] := by
        rcases go_at hO g0 g1 hno with ⟨act, ts, ways, he, _, hts, hto⟩ | ⟨word, ts, he, _, hts, hto⟩
        · rw [he] at hst
          cases hst
          obtain ⟨cc, y0, y1, y2, y3, hvc, hcc, l0, l1, l2, l3⟩ := him.tup4
          cases l0.strI
          cases l1.strI
          obtain ⟨e, zs, rfl, hee, hzs⟩ := l2.tupI
          exact ⟨cc, e, _, _, zs, _, ts, hvc, hcc, hee, hzs, hto, hts, headD_ask he⟩
        · rw [he] at hst
          cases hst
          obtain ⟨cc, y0, y1, y2, hvc, hcc, l0, l1, l2⟩ := him.tup3
          cases l0.strI
          cases l1.strI
          obtain ⟨e, zs, rfl, hee, hzs⟩ := l2.tupI
          exact ⟨cc, e, _, _, zs, _, ts, hvc, hcc, hee, hzs, hto, hts, headD_fin he⟩
      obtain ⟨cc, e, z0, z1, zs, zs', ts, hvc, hcc, hee, hzs, hto, hts, hhd⟩ := key
      rw [hhd] at hq
      rw [hvc]
      obtain ⟨oT, dT⟩ := over_oks hl hto hO.d5
      have hzl : zs.length = ts.length := by rw [hzs.length, Tm.ds_map, List.length_map]
      refine ⟨.ref cc, rfl, 2, rfl, rd_slT hcc fun p3 H3 m3 e3 => ?_⟩
      rw [cut2] at e3
      refine ⟨.ref cc, rfl, rd_ixT (m3.sqT hcc) (by decide) (v := .ref e) rfl ⟨e, rfl, ?_⟩⟩
      refine lc_seq (xs := zs) (.inr (m3.sqT hee)) (fun i D H4 => ∃ us', H4 D = some (.lst us') ∧ Ims K H4 us' (Tm.ds ((ts.take i).map (Tm.put (vat ws)))) ∧ Mv [] H3 H4)
        (fun D nD => ⟨[], upd_same, Ims.nil, .new nD⟩) (fun i D H4 nD h4 => h4.choose_spec.2.2) (fun D nD i x H4 hx h4 => ?_) (fun D H4 nD h4 => ?_)
      · obtain ⟨us', e4, i4, m4⟩ := h4
        obtain ⟨xd, hxd, himx⟩ := hzs.get hx
        rw [Tm.ds_map, List.getElem?_map] at hxd
        obtain ⟨t, ht, rfl⟩ := Option.map_eq_some_iff.mp hxd
        have hmem := List.mem_of_getElem? ht
        have hi := (List.getElem?_eq_some_iff.mp ht).1
        have m34 := m3.trans m4
        refine ⟨rfl, x, rfl, .ref a, rfl, rd_ixT (m34.sqT ha) (by decide) (v := .ref b) rfl ?_⟩
        refine ⟨x, .ref b, t, _, vat ws, rfl, himx.mv m34, Tm.oks_iff.mp oT t hmem, Nat.lt_of_le_of_lt (Tm.deps_le.mp (Nat.le_refl _) t hmem) dT, (look_vat (.inr hb) hys).mv m34, fun v' H5 m5 h5 => ?_⟩
        have e5 := m5.same _ _ e4
        refine ⟨_, e5, ?_, us' ++ [v'], upd_same, ?_, (m4.trans m5).wr nD⟩
        · rw [i4.length, Tm.ds_map, List.length_map, List.length_map, List.length_take]
          exact small1000 (by omega)
        · rw [List.take_add_one, ht]
          rw [show Tm.ds (List.map (Tm.put (vat ws)) (ts.take i ++ (some t).toList)) = Tm.ds ((ts.take i).map (Tm.put (vat ws))) ++ [(t.put (vat ws)).d] by simp [Tm.ds_map]]
          exact ((i4.mv m5).append (Ims.cons h5 Ims.nil)).mv (Mv.set (S := [D]) e5 (by simp))
      · obtain ⟨us', e4, i4, m4⟩ := h4
        rw [hzl, List.take_length] at i4
        walk_at "nc"
        refine rd_tupOf (.inl (.inl e4)) fun p5 H5 m5 e5 => ?_
        refine ⟨(by decide : 1 ≤ sizeLine), fun p6 np6 => ?_⟩
        have m6 : Mv [] H5 (upd H5 p6 (.tup [.ref p5])) := .new np6
        have e6 : SqT K (upd H5 p6 (.tup [.ref p5])) p6 [.ref p5] := .inl (.inl upd_same)
        generalize upd H5 p6 (.tup [.ref p5]) = H6 at m6 e6 ⊢
        have m46 := m4.trans (m5.trans m6)
        refine rd_cat (m46.sqT e3) e6 (by decide : 3 ≤ sizeLine) fun p7 H7 m7 e7 => ?_
        have m67 := m6.trans m7
        exact hq _ H7 (m1.trans (m3.trans (m46.trans m7))) (.tup e7 (.cons (.str _) (.cons (.str _) (.cons (.tup (m67.sqT e5) (i4.mv (m5.trans m67))) .nil))))
end
end Fm
/-! frames with terms put in, plainly; what may be shown of frames -/
namespace Fm
open PySem PySem.Spec PyProof.Rows L2 SlX
namespace Tm
mutual
theorem cst_le {P : Int → Prop} : ∀ t : Tm, ok P t → cst t ≤ 96 * size t
  | .var _, _ => by simp [cst, size]
  | .op _ ts, h => by
    have := csts_le ts h.2.2
    have := h.2.1
    simp only [cst, size]
    omega
theorem csts_le {P : Int → Prop} : ∀ ts : List Tm, oks P ts → csts ts ≤ 96 * sizes ts + 2 * ts.length
  | [], _ => by simp [csts]
  | t :: ts, h => by
    have := cst_le t h.1
    have := csts_le ts h.2
    simp only [csts, sizes, List.length_cons]
    omega
end
end Tm
section
variable {rs : List ActR} {many : Int} {dc : Nat} {sts : List Sta} {p g : Int} {us ws : List Tm}
theorem vst_sub (s : Int → Tm) (hC : CdOk rs many dc sts) (hF : FrOk sts many dc p us) : ∀ n, vst sts p (us.map (Tm.put s)) n = (vst sts p us n).map (Tm.put s)
  | 0 => rfl
  | n + 1 => by
    show chg _ _ = (chg _ _).map _
    rw [vst_sub s hC hF n]
    exact chg_sub s (hC.chs (orb sts p n)).2 (vst_ok hC hF n).1
theorem onto_sub (s : Int → Tm) (hC : CdOk rs many dc sts) (hF : FrOk sts many dc p us) (h : OnTo sts p us (.go g ws)) : ∀ {r : Res}, OnTo sts p (us.map (Tm.put s)) r → r ≠ .many → r = .go g (ws.map (Tm.put s))
  | .silent, h2, _ => by
    obtain ⟨n, hL, _⟩ := h
    exact (lead_no hL h2).elim
  | .many, _, h3 => absurd rfl h3
  | .go g2 ws2, h2, _ => by
    obtain ⟨n, hL, rfl, rfl, _⟩ := h
    obtain ⟨m, kL, rfl, rfl, _⟩ := h2
    cases lead_one hL kL
    rw [vst_sub s hC hF n]
theorem vat_sub (s : Int → Tm) {i : Int} (h0 : 0 ≤ i) (h1 : i < ws.length) : vat (ws.map (Tm.put s)) i = (vat ws i).put s := by
  unfold vat
  rw [List.getElem?_map, List.getElem?_eq_getElem (show i.toNat < ws.length by omega)]
  rfl
theorem head_sub (s : Int → Tm) {ts : List Tm} (h : Tm.oks (fun i => 0 ≤ i ∧ i < ws.length) ts) : ts.map (Tm.put (vat (ws.map (Tm.put s)))) = (ts.map (Tm.put (vat ws))).map (Tm.put s) := by
  rw [List.map_map]
  refine List.map_congr_left fun t ht => ?_
  show t.put _ = (t.put _).put s
  rw [Tm.put_put]
  refine Tm.put_congr t fun i hi => ?_
  have hi' := Tm.ok_leaves t (Tm.oks_iff.mp h t ht) i hi
  exact vat_sub s hi'.1 hi'.2
theorem setVn_sub (s : Int → Tm) {fresh : Int} {vars : List Int} (hs : ∀ k : Nat, s (fresh + k) = .var (fresh + k)) : ∀ n, setVn (ws.map (Tm.put s)) fresh vars n = (setVn ws fresh vars n).map (Tm.put s)
  | 0 => rfl
  | n + 1 => by
    show (setVn _ _ _ n).set _ _ = ((setVn _ _ _ n).set _ _).map _
    rw [setVn_sub s hs n, List.map_set]
    congr 1
    show _ = Tm.put s (.var (fresh + n))
    simp only [Tm.put]
    exact (hs n).symm
theorem setV_sub (s : Int → Tm) {fresh : Int} {vars : List Int} (hs : ∀ k : Nat, s (fresh + k) = .var (fresh + k)) : setV (ws.map (Tm.put s)) fresh vars = (setV ws fresh vars).map (Tm.put s) := setVn_sub s hs _
/-- what may be shown -/
theorem shw_ts {ts : List Tm} (ho : Tm.oks fit ts) (hw : Tm.csts ts + 41 * Tm.lvs ts ≤ 15000000) : fineAll (Tm.ds ts) ∧ PyData.depthAll (Tm.ds ts) = Tm.deps ts ∧ wls (Tm.ds ts) ≤ 15000000 := ⟨fine_ds (fun _ h => h) ts ho, depth_ds ts, Nat.le_trans (wl_ds ts ho) hw⟩
theorem shw_fr {p : Int} {us : List Tm} (hp : p.natAbs < 10 ^ 40) (hV : VsOk us) (hl : us.length ≤ 1000) : Shw (frD p us) := by
  have h1 := Tm.csts_le us hV.ok
  have h2 := hV.nd
  have h3 : Tm.sizes us ≤ Tm.nod us ∧ Tm.lvs us ≤ Tm.nod us := by unfold Tm.nod; omega
  obtain ⟨k1, k2, k3⟩ := shw_ts hV.ok (by omega)
  have hd := hV.dp
  refine ⟨⟨hp, k1, trivial⟩, ?_, ?_⟩
  · simp only [frD, PyData.depth, PyData.depthAll, k2]
    omega
  · simp only [frD, wl, wls]
    omega
/-- what is seen, by its parts -/
theorem headD_go (hC : CdOk rs many dc sts) (hG : GoOk sts many dc d g ws) : ∃ (z0 z1 : Str) (ts : List Tm), headD sts (.go g ws) = .tuple [.str z0, .str z1, .tuple (Tm.ds (ts.map (Tm.put (vat ws))))] ∧ (∀ us : List Tm, headD sts (.go g us) = .tuple [.str z0, .str z1, .tuple (Tm.ds (ts.map (Tm.put (vat us))))]) ∧
    PyData.strOk z0 = true ∧ PyData.strOk z1 = true ∧ z0.length ≤ 8 ∧ z1.length ≤ 8 ∧ ts.length ≤ 2 ∧ Tm.oks (fun i => 0 ≤ i ∧ i < ws.length) ts ∧ Tm.deps ts ≤ dc := by
  rcases go_at hC hG.g0 hG.g1 hG.no with ⟨act, ts, ways, he, hok, hts, hto⟩ | ⟨word, ts, he, hw, hts, hto⟩
  · obtain ⟨r, hr, rfl, _⟩ := hok
    have hn := (hC.w.ok r hr).nm
    exact ⟨"ask", r.nm, ts, headD_ask he, fun us => headD_ask he, by decide +kernel, nm_ok hn, by decide +kernel, hn.2.1, hts, (over_oks hG.len hto hC.d5).1, Tm.deps_le.mpr fun t ht => (hto t ht).2⟩
  · exact ⟨"end", word, ts, headD_fin he, fun us => headD_fin he, by decide +kernel, nm_ok hw, by decide +kernel, hw.2.1, hts, (over_oks hG.len hto hC.d5).1, Tm.deps_le.mpr fun t ht => (hto t ht).2⟩
theorem put_vs {ts : List Tm} (hV : VsOk ws) (hs : Tm.sizes ws ≤ 200) (hl : ws.length ≤ 24) (ho : Tm.oks (fun i => 0 ≤ i ∧ i < ws.length) ts) (hd : Tm.deps ts ≤ 2) (ht : ts.length ≤ 2) :
    Tm.oks fit (ts.map (Tm.put (vat ws))) ∧ Tm.deps (ts.map (Tm.put (vat ws))) ≤ 2 + Tm.deps ws ∧ Tm.csts (ts.map (Tm.put (vat ws))) + 41 * Tm.lvs (ts.map (Tm.put (vat ws))) ≤ 15000000 := by
  have hv : ∀ i : Int, 0 ≤ i ∧ i < ws.length → (vat ws i).ok fit ∧ (vat ws i).dep ≤ Tm.deps ws ∧ (vat ws i).cst ≤ 19200 ∧ (vat ws i).lv ≤ 424 := fun i hi => by
    have hm := vat_mem (vs := ws) hi.1 hi.2
    have h1 := Tm.oks_iff.mp hV.ok _ hm
    have h2 := Tm.cst_le _ h1
    have h3 := Tm.size_le hm
    have h4 := Tm.lv_le _ h1
    exact ⟨h1, Tm.deps_le.mp (Nat.le_refl _) _ hm, by omega, by omega⟩
  rw [← Tm.puts_map]
  refine ⟨Tm.oks_puts (fun i hi => (hv i hi).1) ts ho, ?_, ?_⟩
  · have := Tm.deps_puts (fun i hi => (hv i hi).2.1) ts ho
    omega
  · have h1 := Tm.csts_puts (fun i hi => (hv i hi).2.2.1) ts ho
    have h2 := Tm.lvs_puts (fun i hi => (hv i hi).2.2.2) ts ho
    have h3 : ∀ us : List Tm, Tm.oks (fun i => 0 ≤ i ∧ i < (ws.length : Int)) us → Tm.deps us ≤ 2 → Tm.lvs us ≤ us.length * 9 ∧ Tm.csts us ≤ us.length * 500 := by
      intro us
      induction us with
      | nil => intro _ _; simp [Tm.lvs, Tm.csts]
      | cons u us ih =>
        intro ho hdd
        have k1 := Tm.small 2 u ho.1 (by simp only [Tm.deps] at hdd; omega)
        have k2 := ih ho.2 (by simp only [Tm.deps] at hdd; omega)
        have e : 3 ^ 2 = 9 := by decide
        rw [e] at k1
        simp only [Tm.lvs, Tm.csts, List.length_cons]
        omega
    obtain ⟨h4, h5⟩ := h3 ts ho hd
    have h6 : Tm.lvs ts ≤ 18 := by omega
    have h7 : Tm.lvs ts * 19200 ≤ 18 * 19200 := Nat.mul_le_mul_right _ h6
    have h8 : Tm.lvs ts * 424 ≤ 18 * 424 := Nat.mul_le_mul_right _ h6
    omega
theorem shw_head (hC : CdOk rs many dc sts) (hdc : dc ≤ 2) (hG : GoOk sts many dc d g ws) (hs : Tm.sizes ws ≤ 200) : Shw (headD sts (.go g ws)) := by
  obtain ⟨z0, z1, ts, e, _, s0, s1, n0, n1, hts, ho, hd⟩ := headD_go hC hG
  have hl : ws.length ≤ 24 := by have := hG.len; have := hC.m1; omega
  obtain ⟨h1, h2, h3⟩ := put_vs hG.vok hs hl ho (by omega) hts
  obtain ⟨k1, k2, k3⟩ := shw_ts h1 h3
  have h4 := hG.vok.dp
  rw [e]
  refine ⟨⟨s0, s1, k1, trivial⟩, ?_, ?_⟩
  · simp only [PyData.depth, PyData.depthAll, k2]
    omega
  · simp only [wl, wls]
    omega
theorem fine_head (hC : CdOk rs many dc sts) (hdc : dc ≤ 2) (hF : FrOk sts many dc p us) : ∀ {r : Res}, OnTo sts p us r → fine (headD sts r) ∧ (headD sts r).depth ≤ 58
  | .silent, _ => ⟨⟨show PyData.strOk _ = true by decide +kernel, trivial⟩, by simp [headD, PyData.depth, PyData.depthAll]⟩
  | .many, _ => ⟨show PyData.strOk _ = true by decide +kernel, by simp [headD, PyData.depth]⟩
  | .go g ws, h => by
    have hG := onto_go hC hF h
    obtain ⟨z0, z1, ts, e, _, s0, s1, n0, n1, hts, ho, hd⟩ := headD_go hC hG
    have hv : ∀ i : Int, 0 ≤ i ∧ i < ws.length → (vat ws i).ok fit ∧ (vat ws i).dep ≤ 50 := fun i hi => by
      have hm := vat_mem (vs := ws) hi.1 hi.2
      exact ⟨Tm.oks_iff.mp hG.vok.ok _ hm, Tm.deps_le.mp hG.vok.dp _ hm⟩
    rw [e, ← Tm.puts_map]
    refine ⟨⟨s0, s1, fine_ds (fun _ h => h) _ (Tm.oks_puts (fun i hi => (hv i hi).1) ts ho), trivial⟩, ?_⟩
    have := Tm.deps_puts (fun i hi => (hv i hi).2) ts ho
    simp only [PyData.depth, PyData.depthAll, depth_ds]
    omega
end
end Fm
namespace Fm
open PySem PySem.Spec PyProof.Rows L2 SlX
local macro_rules | `(tactic| walk_at "nn") => `(tactic| dsimp only [tC, tNil, tCons, tCB, tCall, gName, tSeq, tAsg, tPar, tDrop, tRet])
local macro_rules | `(tactic| walk_at "nc") => `(tactic| dsimp only [tC, tNil, tCons, tCB, tCall])
/-- terms for the unknowns 0 to 3 -/
def flf (fs : List Tm) (i : Int) : Tm := if i < 4 then vat fs i else .var i
def sp_filled (K : PySem.W.Frag) (d : Nat) : Sp := fun vs H Q _ => ∃ (v : V) (a : Addr) (xs : List V) (t : Tm) (fs : List Tm), vs = [v, .ref a] ∧ Im K H v t.d ∧ t.ok (fun i => 0 ≤ i) ∧ t.dep < d ∧ SqL K H a xs ∧ Ims K H xs (Tm.ds fs) ∧ fs.length = 4 ∧
  ∀ v' H', Mv [] H H' → Im K H' v' (t.put (flf fs)).d → Q v' H'
def Res.isMany : Res → Bool
  | .many => true
  | _ => false
def Res.isSilent : Res → Bool
  | .silent => true
  | _ => false
def sp_small (K : PySem.W.Frag) : Sp := fun vs H Q _ => ∃ (c d : Addr) (rs : List ActR) (many given : Int) (sts : List Sta) (dc : Nat) (p : Int) (us ws : List Tm) (v v2 : V), vs = [.ref c, v, v2] ∧ LCode K H c d many given sts ∧ CdOk rs many dc sts ∧ dc ≤ 2 ∧ FrOk sts many dc p us ∧ FrOk sts many dc p ws ∧ Im K H v (frD p us) ∧ Im K H v2 (frD p ws) ∧
  ∀ r r2, OnTo sts p us r → OnTo sts p ws r2 → ∀ H', Mv [] H H' → Q (.bl (!(r.isMany || r2.isMany) && !r.isSilent)) H'
section
variable {P : Program} {w : World} {K : PySem.W.Frag} {mg : Str → Option Value} {base : Heap}
theorem ok__law_filled (T : TX K mg) : ∀ d : Nat, FnOk P w K mg base CX0 (d + 1) T.d__law_filled.f T.d__law_filled.fd P__law_filled (sp_filled K d)
  | 0 => ⟨fun vs H Q E h => by obtain ⟨_, _, _, _, _, _, _, _, h, _⟩ := h; omega, fun _ _ _ _ _ _ _ _ _ _ _ _ _ h => by obtain ⟨_, _, _, _, _, _, _, _, h, _⟩ := h; omega⟩
  | d + 1 => by
    have G__law_filled := ok__law_filled T d
    refine T.d__law_filled.F.ok sc__law_filled (fun vs H Q E h => ?_) (fun cdv A outer s H vs Q E hr h => ?_)
    · obtain ⟨_, _, _, _, _, rfl, _⟩ := h
      rfl
    · obtain ⟨v, b, fv, t, fs, rfl, him, hok, hdp, hB, hfs, h4, q⟩ := h
      refine ⟨_, (pss_cons (ps_if (pt_val (pe_callB (r := rIsi K) call_isi (by rfl) T.b_isinstance bt_isinstance (pa_cons (pv 0) (pa_cons (pe_ty T.b_int bt_int) pa_nil)))) (pss_one (ps_ret (pe_ifExp (pt_cmpR op_lt (pv 0) pe_int (nomark _)) (pe_ix (r := rIx K) ix_seq (pv 1) (pv 0) (fun _ _ => rfl)) (pv 0)))) pss_nil) (pss_one (ps_ret (pe_op (r := rAddG K) op_addG (pe_slice (r := rSlG K) sl_G (pv 0) po_none (po_some pe_int)) (pe_callTy (r := rTupOf K) call_tupG (by rfl) T.b_tuple bt_tuple (pa_cons (pe_lc (own := [("_law_part", 2)]) (g := gName 2) (by rfl) sc__law_filled.nd (pi_seq (pe_slice (r := rSlG K) sl_G (pv 0) (po_some pe_int) po_none)) (blkOk_by (own := [("_law_part", 2)]) (N := N__law_filled) (sc := defScope s__law_filled) (by decide +kernel)) (fun _ _ _ _ _ => pg_name (i := 2) sc__law_filled.nd rfl (Or.inl rfl)) (fun _ _ _ _ _ => pts_nil) (fun _ _ _ _ _ => (pe_call G__law_filled (hr.mono (by omega)) rfl T.d__law_filled.g T.d__law_filled.F.kp T.d__law_filled.b .nil pass0 (pa_cons (pv 2) (pa_cons (pv 1) pa_nil))))) pa_nil)))))), ?_⟩
      refine ⟨v, rfl, ?_⟩
      walk_at "nn"
      refine rd_isInt him ?_
      refine ⟨_, rfl, ?_⟩
      cases t with
      | var i =>
        cases him.intI
        have h0 : 0 ≤ i := hok
        refine ⟨.int i, rfl, i, 4, rfl, rfl, _, rfl, ite2 (fun e => ?_) (fun e => ?_)⟩
        · have hi : i < 4 := of_decide_eq_true e
          obtain ⟨y, hy, hm⟩ := hfs.getD (i := i.toNat) (d := (vat fs i).d) (by rw [Tm.ds_map, List.getElem?_map, vat_some h0 (by omega)]; rfl)
          refine ⟨.ref b, rfl, .int i, rfl, rd_ixL hB h0 hy (q _ _ .refl ?_)⟩
          simp only [Tm.put]
          unfold flf
          rw [if_pos hi]
          exact hm
        · have hi : ¬ i < 4 := fun h => e (decide_eq_true h)
          refine ⟨.int i, rfl, q _ _ .refl ?_⟩
          simp only [Tm.put]
          unfold flf
          rw [if_neg hi]
          exact .int _
      | op x ts =>
        obtain ⟨a, xs0, rfl, ha, hxs⟩ := him.tupI
        obtain ⟨x', xs, rfl, hx', hys⟩ := hxs.invD
        cases hx'.strI
        refine ⟨.ref a, rfl, 1, rfl, rd_slA ha fun p1 H1 m1 e1 => ⟨.ref a, rfl, 1, rfl, rd_sl1 (m1.sqT ha) fun p2 H2 m2 e2 => ⟨p2, rfl, Or.inr ⟨⟨_, e2⟩, fun D nD => ?_⟩⟩⟩⟩
        have m12 := m1.trans m2
        have hl : xs.length = ts.length := by rw [hys.length, Tm.ds_map, List.length_map]
        refine lc_tup (K := K) (a := p2) (xs := xs) (fun i H3 => ∃ ys, H3 D = some (.lst ys) ∧ Ims K H3 ys (Tm.ds ((ts.take i).map (Tm.put (flf fs)))) ∧ Mv [] H2 H3)
          ⟨[], upd_same, Ims.nil, .new nD⟩ (fun i H3 _ h3 => ?_) (fun i z H3 hz h3 => ?_) (fun H3 h3 => ?_)
        · obtain ⟨ys, _, _, m3⟩ := h3
          exact m3.sqT e2
        · obtain ⟨ys, e3, i3, m3⟩ := h3
          obtain ⟨zd, hzd, hzi⟩ := hys.get hz
          rw [Tm.ds_map, List.getElem?_map] at hzd
          obtain ⟨zt, hzt, rfl⟩ := Option.map_eq_some_iff.mp hzd
          have hmem := List.mem_of_getElem? hzt
          have m13 := m12.trans m3
          refine ⟨rfl, z, rfl, .ref b, rfl, z, b, fv, zt, fs, rfl, hzi.mv m13, Tm.oks_iff.mp hok.2.2 zt hmem, ?_, m13.same.seq hB, hfs.mv m13, h4, fun y H4 m4 h4 => ?_⟩
          · have h5 := Tm.deps_le.mp (show Tm.deps ts ≤ Tm.deps ts from Nat.le_refl _) zt hmem
            simp only [Tm.dep] at hdp
            omega
          · have e4 := m4.same _ _ e3
            refine ⟨_, e4, ?_, ys ++ [y], upd_same, ?_, (m3.trans m4).wr nD⟩
            · have h6 := (List.getElem?_eq_some_iff.mp hzt).1
              have h7 := hok.2.1
              rw [i3.length, Tm.ds_map, List.length_map, List.length_map, List.length_take]
              exact small1000 (by omega)
            · rw [List.take_add_one, hzt]
              rw [show Tm.ds (List.map (Tm.put (flf fs)) (ts.take i ++ (some zt).toList)) = Tm.ds ((ts.take i).map (Tm.put (flf fs))) ++ [(zt.put (flf fs)).d] by simp [Tm.ds_map]]
              exact ((i3.mv m4).append (Ims.cons h4 Ims.nil)).mv (Mv.set (S := [D]) e4 (by simp))
        · obtain ⟨ys, e3, i3, m3⟩ := h3
          rw [hl, List.take_length] at i3
          walk_at "nn"
          refine rd_tupOf (.inl (.inl e3)) fun p4 H4 m4 e4 => ?_
          refine rd_cat (m4.sqT (m3.sqT (m2.sqT e1))) e4 ?_ fun p5 H5 m5 e5 => ?_
          · have h7 := hok.2.1
            rw [i3.length, Tm.ds_map, List.length_map, List.length_map]
            exact Nat.le_of_lt (small1000 (by simp; omega))
          · refine q _ H5 (((m12.trans m3).trans m4).trans m5) (Im.tup e5 (Ims.cons (Im.str x) ?_))
            rw [← Tm.puts_map] at i3
            exact (i3.mv m4).mv m5
theorem shaped2 {d e : PyData} (hd : fine d ∧ d.depth ≤ 58) (he : fine e ∧ e.depth ≤ 58) : SeqAt.shaped (.list [d, e]) = true := by
  show (PyData.canLay0 (.list [d, e]) && decide (PyData.depth (.list [d, e]) ≤ 64)) = true
  have h1 := (fine_lay (.list [d, e]) ⟨hd.1, he.1, trivial⟩).1
  rw [h1, decide_eq_true (by simp only [PyData.depth, PyData.depthAll]; omega)]
  rfl
theorem shaped1 {d : PyData} (hd : fine d ∧ d.depth ≤ 58) : SeqAt.shaped d = true := by
  show (PyData.canLay0 d && decide (PyData.depth d ≤ 64)) = true
  rw [(fine_lay d hd.1).1, decide_eq_true (by omega)]
  rfl
theorem eqv_many {rs : List ActR} {many : Int} {dc d : Nat} {sts : List Sta} {p : Int} {us : List Tm} (hC : CdOk rs many dc sts) (hF : FrOk sts many dc p us) : ∀ {r : Res}, OnTo sts p us r → PyData.eqv (headD sts r) (.str "many") = r.isMany
  | .silent, _ => by simp [headD, PyData.eqv, Res.isMany]
  | .many, _ => by simp [headD, PyData.eqv, Res.isMany]
  | .go g ws, h => by
    obtain ⟨z0, z1, ts, e, _⟩ := headD_go hC (onto_go hC hF h)
    rw [e]
    simp [PyData.eqv, Res.isMany]
theorem eqv_silent {rs : List ActR} {many : Int} {dc d : Nat} {sts : List Sta} {p : Int} {us : List Tm} (hC : CdOk rs many dc sts) (hF : FrOk sts many dc p us) : ∀ {r : Res}, OnTo sts p us r → PyData.eqv (headD sts r) (.tuple [.str "silent"]) = r.isSilent
  | .silent, _ => by simp [headD, PyData.eqv, PyData.eqvAll, Res.isSilent]
  | .many, _ => by simp [headD, PyData.eqv, Res.isSilent]
  | .go g ws, h => by
    obtain ⟨z0, z1, ts, e, _⟩ := headD_go hC (onto_go hC hF h)
    rw [e]
    simp [PyData.eqv, PyData.eqvAll, Res.isSilent]
theorem ok__law_is_small (T : TX K mg) {k : Nat} : FnOk P w K mg base CX0 (k + 57) T.d__law_is_small.f T.d__law_is_small.fd P__law_is_small (sp_small K) := by
  have G__law_head : FnOk P w K mg base CX0 56 T.d__law_head.f T.d__law_head.fd P__law_head (sp_lhead K) := ok__law_head (k := 0) T
  refine T.d__law_is_small.F.ok sc__law_is_small (fun vs H Q E h => ?_) (fun cdv A outer s H vs Q E hr h => ?_)
  · obtain ⟨_, _, _, _, _, _, _, _, _, _, _, _, rfl, _⟩ := h
    rfl
  · obtain ⟨c, d, rs, many, given, sts, dc, p, us, ws, v, v2, rfl, hC, hO, hdc, hF, hF2, hv, hv2, q⟩ := h
    have hu64 := hr.units
    have hu65 := hu65_of hr
    refine ⟨_, (pss_cons (ps_set (i := 3) sc__law_is_small.nd rfl (Or.inl rfl) (pe_lst (pa_cons (pe_call G__law_head (hr.mono (by omega)) rfl T.d__law_head.g T.d__law_head.F.kp T.d__law_head.b .nil pass0 (pa_cons (pv 0) (pa_cons (pv 1) pa_nil))) (pa_cons (pe_call G__law_head (hr.mono (by omega)) rfl T.d__law_head.g T.d__law_head.F.kp T.d__law_head.b .nil pass0 (pa_cons (pv 0) (pa_cons (pv 2) pa_nil))) pa_nil)))) (pss_one (ps_ret (pe_and (pe_cmpR (r := rNotInG K) (op_notInG hu65) pe_str (pv 3) rfl) (pe_one (pe_cmpR (r := rNeG K) (op_neG hu64) (pe_ix (r := rIx K) ix_seq (pv 3) pe_int (fun _ _ => rfl)) (pe_tup (pa_cons pe_str pa_nil)) (nomark _))))))), ?_⟩
    refine ⟨.ref c, rfl, v, rfl, c, d, rs, many, given, sts, dc, p, us, v, rfl, hC, hO, hF, hv, fun r hon v3 H1 m1 hv3 => ?_⟩
    refine ⟨.ref c, rfl, v2, rfl, c, d, rs, many, given, sts, dc, p, ws, v2, rfl, hC.mv m1, hO, hF2, hv2.mv m1, fun r2 hon2 v4 H2 m2 hv4 => ?_⟩
    refine ⟨(by decide : 2 ≤ sizeLine), fun l nl => ?_⟩
    have m3 : Mv [] H2 (upd H2 l (.lst [v3, v4])) := .new nl
    have e3 : upd H2 l (.lst [v3, v4]) l = some (.lst [v3, v4]) := upd_same
    generalize upd H2 l (.lst [v3, v4]) = H3 at m3 e3 ⊢
    have i3 := hv3.mv (m2.trans m3)
    have i4 := hv4.mv m3
    have f1 := fine_head hO hdc hF hon
    have f2 := fine_head hO hdc hF2 hon2
    have hq := q r r2 hon hon2
    refine ⟨.ref l, rfl, Or.inl ⟨.str "many", [headD sts r, headD sts r2], .str "many", .lst (.inl (.inl e3)) (.cons i3.dp (.cons i4.dp .nil)), by decide +kernel, shaped2 f1 f2, ?_⟩⟩
    have ea : (List.any [headD sts r, headD sts r2] fun z => PyData.eqv z (.str "many")) = (r.isMany || r2.isMany) := by
      simp only [List.any_cons, List.any_nil, Bool.or_false]
      rw [eqv_many (d := 0) hO hF hon, eqv_many (d := 0) hO hF2 hon2]
    rw [ea]
    refine ⟨_, rfl, ?_⟩
    cases hb : (r.isMany || r2.isMany) with
    | true =>
      have := hq H3 (m1.trans (m2.trans m3))
      rw [hb] at this
      exact this
    | false =>
      refine ⟨.ref l, rfl, rd_ixL (.inl (.inl e3)) (by decide) (v := v3) rfl ⟨(by decide : 1 ≤ sizeLine), fun p4 np4 => ?_⟩⟩
      have m4 : Mv [] H3 (upd H3 p4 (.tup [.str "silent"])) := .new np4
      refine Or.inr ⟨headD sts r, .tuple [.str "silent"], (i3.mv m4).dp, .tup (.inl (.inl upd_same)) (.cons (.str _) .nil), shaped1 f1, by decide +kernel, ?_⟩
      rw [eqv_silent (d := 0) hO hF hon]
      have := hq _ (m1.trans (m2.trans (m3.trans m4)))
      rw [hb] at this
      exact this
end
end Fm
namespace Fm
open PySem PySem.Spec PyProof.Rows L2 SlX
local macro_rules | `(tactic| walk_at "nn") => `(tactic| dsimp only [tC, tNil, tCons, tCB, tCall, gName, tSeq, tAsg, tPar, tDrop, tRet])
local macro_rules | `(tactic| walk_at "nc") => `(tactic| dsimp only [tC, tNil, tCons, tCB, tCall])
def fitN (i : Int) : Prop := 0 ≤ i ∧ i.natAbs < 10 ^ 40
/-- a frame behind so many turns, and the one with terms put in -/
structure FrA (sts : List Sta) (many : Int) (s : Int → Tm) (n : Nat) (p : Int) (us : List Tm) : Prop where
  p0 : 0 ≤ p
  p1 : p < sts.length
  len : (us.length : Int) = many
  ok : Tm.oks fitN us
  dp : Tm.deps us ≤ 1 + n * 8
  sz : Tm.sizes us ≤ 200
  sz2 : Tm.sizes (us.map (Tm.put s)) ≤ 200
section
variable {rs : List ActR} {many : Int} {sts : List Sta} {p g : Int} {us ws fs : List Tm} {n : Nat}
theorem flf_ok (h4 : fs.length = 4) (hok : Tm.oks fit fs) (hdp : Tm.deps fs ≤ 2) (i : Int) (hi : fitN i) : (flf fs i).ok fit ∧ (flf fs i).dep ≤ 2 := by
  unfold flf
  split
  · have hm := vat_mem (vs := fs) hi.1 (by omega)
    exact ⟨Tm.oks_iff.mp hok _ hm, Tm.deps_le.mp hdp _ hm⟩
  · exact ⟨hi.2, by simp [Tm.dep]⟩
theorem map_len : (us.map (Tm.put (flf fs))).length = us.length := List.length_map _
theorem sub_ok (h4 : fs.length = 4) (hok : Tm.oks fit fs) (hdp : Tm.deps fs ≤ 2) (ho : Tm.oks fitN us) : Tm.oks fit (us.map (Tm.put (flf fs))) ∧ Tm.deps (us.map (Tm.put (flf fs))) ≤ Tm.deps us + 2 := by
  rw [← Tm.puts_map]
  exact ⟨Tm.oks_puts (fun i hi => (flf_ok h4 hok hdp i hi).1) us ho, Tm.deps_puts (fun i hi => (flf_ok h4 hok hdp i hi).2) us ho⟩
theorem FrA.fr (h : FrA sts many (flf fs) n p us) (hl : sts.length ≤ 8) (hn : n ≤ 4) (hm : many ≤ 24) : FrOk sts many 1 p us := by
  have h1 := nod_le h.ok
  have h2 := h.sz
  have h3 := h.dp
  have h4 := h.len
  exact ⟨h.p0, h.p1, h.len, Tm.oks_mono (fun i hi => hi.2) us h.ok, by omega, by omega⟩
theorem FrA.fr2 (h : FrA sts many (flf fs) n p us) (hl : sts.length ≤ 8) (hn : n ≤ 4) (hm : many ≤ 24) (h4 : fs.length = 4) (hok : Tm.oks fit fs) (hdp : Tm.deps fs ≤ 2) : FrOk sts many 1 p (us.map (Tm.put (flf fs))) := by
  obtain ⟨k1, k2⟩ := sub_ok h4 hok hdp h.ok
  have h1 := nod_le k1
  have h2 := h.sz2
  have h3 := h.dp
  have h5 := h.len
  rw [List.length_map] at h1
  exact ⟨h.p0, h.p1, by rw [List.length_map]; exact h.len, k1, by omega, by omega⟩
theorem vst_oks {Pr : Int → Prop} {dc : Nat} (hC : CdOk rs many dc sts) (hl : (us.length : Int) = many) (ho : Tm.oks Pr us) : ∀ m, ((vst sts p us m).length : Int) = many ∧ Tm.oks Pr (vst sts p us m)
  | 0 => ⟨hl, ho⟩
  | m + 1 => by
    obtain ⟨h1, h2⟩ := vst_oks hC hl ho m
    obtain ⟨h3, _⟩ := chg_ok (hC.chs (orb sts p m)).2 h1 h2 (Nat.le_refl _)
    refine ⟨?_, h3⟩
    show ((chg _ _).length : Int) = many
    rw [chg_len]
    exact h1
theorem setVn_oks {Pr : Int → Prop} {fresh : Int} {vars : List Int} (hf : ∀ k : Nat, Pr (fresh + k)) (ho : Tm.oks Pr ws) : ∀ m, Tm.oks Pr (setVn ws fresh vars m)
  | 0 => ho
  | m + 1 => by
    have h := setVn_oks (vars := vars) hf ho m
    refine Tm.oks_iff.mpr fun t ht => ?_
    rcases List.mem_or_eq_of_mem_set ht with h' | rfl
    · exact Tm.oks_iff.mp h t h'
    · exact hf m
/-- where both go -/
structure GoA (sts : List Sta) (many : Int) (s : Int → Tm) (n : Nat) (g : Int) (ws : List Tm) : Prop where
  go : GoOk sts many 1 (1 + n * 8) g ws
  go2 : GoOk sts many 1 (3 + n * 8) g (ws.map (Tm.put s))
  ok : Tm.oks fitN ws
  sz : Tm.sizes ws ≤ 200
  sz2 : Tm.sizes (ws.map (Tm.put s)) ≤ 200
theorem FrA.goA (hC : CdOk rs many 1 sts) (h : FrA sts many (flf fs) n p us) (hl : sts.length ≤ 8) (hn : n ≤ 4) (h4 : fs.length = 4) (hok : Tm.oks fit fs) (hdp : Tm.deps fs ≤ 2) (h1 : OnTo sts p us (.go g ws)) (h2 : OnTo sts p (us.map (Tm.put (flf fs))) (.go g (ws.map (Tm.put (flf fs))))) : GoA sts many (flf fs) n g ws := by
  have hF := h.fr hl hn hC.m1
  have hF2 := h.fr2 hl hn hC.m1 h4 hok hdp
  have k1 := onto_go hC hF h1
  have k2 := onto_go hC hF2 h2
  have k3 := (sub_ok h4 hok hdp h.ok).2
  have k4 := h.dp
  refine ⟨⟨k1.g0, k1.g1, k1.no, k1.len, k1.vok, by have := k1.dp; omega⟩, ⟨k2.g0, k2.g1, k2.no, k2.len, k2.vok, by have := k2.dp; omega⟩, ?_, ?_, ?_⟩
  · obtain ⟨m, _, _, rfl, _⟩ := h1
    exact (vst_oks hC h.len h.ok m).2
  · obtain ⟨m, _, _, rfl, hs⟩ := h1
    cases m with
    | zero => exact h.sz
    | succ m => exact hs _ (by omega) (Nat.le_refl _)
  · obtain ⟨m, _, _, e, hs⟩ := h2
    rw [e]
    cases m with
    | zero => exact h.sz2
    | succ m => exact hs _ (by omega) (Nat.le_refl _)
end
def sp_right (K : PySem.W.Frag) (C CW : Addr) : Sp := fun vs H Q _ => ∃ (b x wx c d tl : Addr) (rs : List ActR) (many given : Int) (sts : List Sta) (p : Int) (us fs : List Tm) (v1 v2 : V) (fv : List V), vs = [.ref b, .ref x, .ref c, v1, v2, .ref tl] ∧ Bag H b ∧ CodAt K H C CW x wx rs many given sts ∧ LCode K H c d many given sts ∧ CdOk rs many 1 sts ∧ sts.length ≤ 8 ∧
  H tl = some (.lst fv) ∧ tl ≠ b ∧ Ims K H fv (Tm.ds fs) ∧ fs.length = 4 ∧ Tm.oks fit fs ∧ Tm.deps fs ≤ 2 ∧ FrA sts many (flf fs) 0 p us ∧ Im K H v1 (frD p us) ∧ Im K H v2 (frD p (us.map (Tm.put (flf fs)))) ∧ ∀ H', Dr b H H' → Q (.bl true) H'
section
variable {P : Program} {w : World} {K : PySem.W.Frag} {mg : Str → Option Value} {base : Heap}
theorem ok__law_right (T : TX K mg) (Y : TY P K mg) {k : Nat} : FnOkG P w K mg base CX0 (k + 60) T.d__law_right.f T.d__law_right.fd P__law_right (sp_right K T.C_Code T.C_World) := by
  have G__law_take : FnOk P w K mg base CX0 1 T.d__law_take.f T.d__law_take.fd P__law_take sp_take := ok__law_take T
  have G__law_alike : FnOkG P w K mg base CX0 1 T.d__law_alike.f T.d__law_alike.fd P__law_alike (sp_alike K) := ok__law_alike T
  have G__law_is_small : FnOk P w K mg base CX0 57 T.d__law_is_small.f T.d__law_is_small.fd P__law_is_small (sp_small K) := ok__law_is_small (k := 0) T
  have G__law_filled : FnOk P w K mg base CX0 58 T.d__law_filled.f T.d__law_filled.fd P__law_filled (sp_filled K 57) := ok__law_filled T 57
  have G_onward : FnOk P w K mg base (CX P w) 56 T.d_onward.f T.d_onward.fd P_onward (sp_onward K T.C_Code T.C_World Y.C_TooMany) := ok_onward (k := 0) T Y
  have G_head : FnOk P w K mg base (CX P w) 57 T.d_head.f T.d_head.fd P_head (sp_head K T.C_Code T.C_World Y.C_TooMany) := ok_head (k := 0) T Y
  have G_answered : FnOk P w K mg base (CX P w) 57 T.d_answered.f T.d_answered.fd P_answered (sp_answered K T.C_Code T.C_World Y.C_TooMany) := ok_answered (k := 0) T Y
  refine okG T.d__law_right.F sc__law_right (fun vs H Q E h => ?_) (fun cdv A outer s H vs Q E hgd hr h => ?_)
  · obtain ⟨_, _, _, _, _, _, _, _, _, _, _, _, _, _, _, _, rfl, _⟩ := h
    rfl
  · obtain ⟨b, x, wx, c, d, tl, rs, many, given, sts, p, us, fs, v1, v2, fv, rfl, hB, hX, hC, hO, hl8, etl, htb, hfs, hf4, hfo, hfd, hA, hv1, hv2, q⟩ := h
    have hu1 := hu1_of hr
    have hu64 := hr.units
    have hu65 := hu65_of hr
    refine ⟨_, (pss_cons (ps_for PassesOwn.never rfl (pi_range1 (by rfl) T.b_range (pa_cons pe_int pa_nil)) (pg_name (i := 6) sc__law_right.nd rfl (Or.inl rfl)) (pss_cons (ps_if (pt_not (pt_val (pe_call G__law_is_small (hr.mono (by omega)) rfl T.d__law_is_small.g T.d__law_is_small.F.kp T.d__law_is_small.b .nil pass0 (pa_cons (pv 2) (pa_cons (pv 3) (pa_cons (pv 4) pa_nil)))))) (pss_one (ps_ret pe_bl)) pss_nil) (pss_cons (ps_par (i := 7) (j := 8) rfl sc__law_right.nd rfl rfl (by decide) rfl rfl (pa_cons (pe_callS G_onward (hr.mono (by omega)) rfl T.d_onward.g T.d_onward.F.kp T.d_onward.b (fun σ => passAt takes0 σ) (pa_cons (pv 1) (pa_cons (pv 3) pa_nil))) (pa_cons (pe_callS G_onward (hr.mono (by omega)) rfl T.d_onward.g T.d_onward.F.kp T.d_onward.b (fun σ => passAt takes0 σ) (pa_cons (pv 1) (pa_cons (pv 4) pa_nil))) pa_nil)) rfl) (pss_cons (ps_if (pt_not (pt_val (pe_callG G__law_alike hgd (hr.mono (by omega)) rfl T.d__law_alike.g T.d__law_alike.F.kp T.d__law_alike.b .nil pass0 (pa_cons (pv 8) (pa_cons (pe_tup (pa_cons (pe_ix (r := rIx K) ix_seq (pv 7) pe_int (fun _ _ => rfl)) (pa_cons (pe_callTy (r := rTupOf K) call_tupG (by rfl) T.b_tuple bt_tuple (pa_cons (pe_lc (own := [("_law_value", 14)]) (g := gName 14) (by rfl) sc__law_right.nd (pi_seq (pe_ix (r := rIx K) ix_seq (pv 7) pe_int (fun _ _ => rfl))) (blkOk_by (own := [("_law_value", 14)]) (N := N__law_right) (sc := defScope s__law_right) (by decide +kernel)) (fun _ _ _ _ _ => pg_name (i := 14) sc__law_right.nd rfl (Or.inl rfl)) (fun _ _ _ _ _ => pts_nil) (fun _ _ _ _ _ => (pe_call G__law_filled (hr.mono (by omega)) rfl T.d__law_filled.g T.d__law_filled.F.kp T.d__law_filled.b .nil pass0 (pa_cons (pv 14) (pa_cons (pv 5) pa_nil))))) pa_nil)) pa_nil))) pa_nil))))) (pss_one (ps_ret pe_bl)) pss_nil) (pss_cons (ps_par (i := 9) (j := 10) rfl sc__law_right.nd rfl rfl (by decide) rfl rfl (pa_cons (pe_callS G_head (hr.mono (by omega)) rfl T.d_head.g T.d_head.F.kp T.d_head.b (fun σ => passAt takes0 σ) (pa_cons (pv 1) (pa_cons (pv 3) pa_nil))) (pa_cons (pe_callS G_head (hr.mono (by omega)) rfl T.d_head.g T.d_head.F.kp T.d_head.b (fun σ => passAt takes0 σ) (pa_cons (pv 1) (pa_cons (pv 4) pa_nil))) pa_nil)) rfl) (pss_cons (ps_if (pt_not (pt_val (pe_callG G__law_alike hgd (hr.mono (by omega)) rfl T.d__law_alike.g T.d__law_alike.F.kp T.d__law_alike.b .nil pass0 (pa_cons (pv 10) (pa_cons (pe_op (r := rAddG K) op_addG (pe_slice (r := rSlG K) sl_G (pv 9) po_none (po_some pe_int)) (pe_tup (pa_cons (pe_callTy (r := rTupOf K) call_tupG (by rfl) T.b_tuple bt_tuple (pa_cons (pe_lc (own := [("_law_term_here", 15)]) (g := gName 15) (by rfl) sc__law_right.nd (pi_seq (pe_ix (r := rIx K) ix_seq (pv 9) pe_int (fun _ _ => rfl))) (blkOk_by (own := [("_law_term_here", 15)]) (N := N__law_right) (sc := defScope s__law_right) (by decide +kernel)) (fun _ _ _ _ _ => pg_name (i := 15) sc__law_right.nd rfl (Or.inl rfl)) (fun _ _ _ _ _ => pts_nil) (fun _ _ _ _ _ => (pe_call G__law_filled (hr.mono (by omega)) rfl T.d__law_filled.g T.d__law_filled.F.kp T.d__law_filled.b .nil pass0 (pa_cons (pv 15) (pa_cons (pv 5) pa_nil))))) pa_nil)) pa_nil))) pa_nil))))) (pss_one (ps_ret pe_bl)) pss_nil) (pss_cons (ps_set (i := 11) sc__law_right.nd rfl (Or.inl rfl) (pe_ix (r := rIx K) ix_seq (pe_dget hu1 (pv 2) pe_str (fun _ _ => rfl)) (pe_ix (r := rIx K) ix_seq (pv 7) pe_int (fun _ _ => rfl)) (fun _ _ => rfl))) (pss_cons (ps_if (pt_cmpR (r := rNeG K) (op_neG hu64) (pe_ix (r := rIx K) ix_seq (pv 11) pe_int (fun _ _ => rfl)) pe_str (nomark _)) (pss_one (ps_ret pe_bl)) pss_nil) (pss_cons (ps_par (i := 12) (j := 13) rfl sc__law_right.nd rfl rfl (by decide) rfl rfl (pa_cons (pe_ix (r := rIx K) ix_seq (pe_ix (r := rIx K) ix_seq (pe_ix (r := rIx K) ix_seq (pv 11) pe_int (fun _ _ => rfl)) (pe_call G__law_take (hr.mono (by omega)) rfl T.d__law_take.g T.d__law_take.F.kp T.d__law_take.b .nil pass0 (pa_cons (pv 0) (pa_cons (pe_callB (r := rLenG K) call_lenG (by rfl) T.b_len bt_len (pa_cons (pe_ix (r := rIx K) ix_seq (pv 11) pe_int (fun _ _ => rfl)) pa_nil)) pa_nil))) (fun _ _ => rfl)) pe_int (fun _ _ => rfl)) (pa_cons (pe_op (r := rAddG K) op_addG (pe_op op_pow pe_int pe_int) (pe_op op_mulG pe_int (pv 6))) pa_nil)) rfl) (pss_cons (ps_par (i := 3) (j := 4) rfl sc__law_right.nd rfl rfl (by decide) rfl rfl (pa_cons (pe_callS G_answered (hr.mono (by omega)) rfl T.d_answered.g T.d_answered.F.kp T.d_answered.b (fun σ => passAt takes0 σ) (pa_cons (pv 1) (pa_cons (pv 3) (pa_cons (pv 12) (pa_cons (pv 13) pa_nil))))) (pa_cons (pe_callS G_answered (hr.mono (by omega)) rfl T.d_answered.g T.d_answered.F.kp T.d_answered.b (fun σ => passAt takes0 σ) (pa_cons (pv 1) (pa_cons (pv 4) (pa_cons (pv 12) (pa_cons (pv 13) pa_nil))))) pa_nil)) rfl) (pss_one (ps_if (pt_not (pt_val (pe_callG G__law_alike hgd (hr.mono (by omega)) rfl T.d__law_alike.g T.d__law_alike.F.kp T.d__law_alike.b .nil pass0 (pa_cons (pv 4) (pa_cons (pe_tup (pa_cons (pe_ix (r := rIx K) ix_seq (pv 3) pe_int (fun _ _ => rfl)) (pa_cons (pe_callTy (r := rTupOf K) call_tupG (by rfl) T.b_tuple bt_tuple (pa_cons (pe_lc (own := [("_law_value", 14)]) (g := gName 14) (by rfl) sc__law_right.nd (pi_seq (pe_ix (r := rIx K) ix_seq (pv 3) pe_int (fun _ _ => rfl))) (blkOk_by (own := [("_law_value", 14)]) (N := N__law_right) (sc := defScope s__law_right) (by decide +kernel)) (fun _ _ _ _ _ => pg_name (i := 14) sc__law_right.nd rfl (Or.inl rfl)) (fun _ _ _ _ _ => pts_nil) (fun _ _ _ _ _ => (pe_call G__law_filled (hr.mono (by omega)) rfl T.d__law_filled.g T.d__law_filled.F.kp T.d__law_filled.b .nil pass0 (pa_cons (pv 14) (pa_cons (pv 5) pa_nil))))) pa_nil)) pa_nil))) pa_nil))))) (pss_one (ps_ret pe_bl)) pss_nil)))))))))))) (pss_one (ps_ret pe_bl))), ?_⟩
    refine ⟨5, rfl, by decide, by decide, ?_⟩
    refine for_range (lo := 0) (n := (5 : Int).toNat) (fun n σ H2 => ∃ (p : Int) (us : List Tm) (v1 v2 : V) (y6 y7 y8 y9 y10 y11 y12 y13 : Option V), σ = [some (.ref b), some (.ref x), some (.ref c), some v1, some v2, some (.ref tl), y6, y7, y8, y9, y10, y11, y12, y13, none, none] ∧ FrA sts many (flf fs) n p us ∧ Im K H2 v1 (frD p us) ∧ Im K H2 v2 (frD p (us.map (Tm.put (flf fs)))) ∧ Dr b H H2)
      ⟨p, us, v1, v2, _, _, _, _, _, _, _, _, rfl, hA, hv1, hv2, .refl⟩ (fun n σ H2 hn h2 => ?_) (fun σ H2 h2 => ?_)
    · obtain ⟨p, us, v1, v2, y6, y7, y8, y9, y10, y11, y12, y13, rfl, hA, hv1, hv2, d02⟩ := h2
      have hn5 : n < 5 := hn
      have hF := hA.fr hl8 (by omega) hO.m1
      have hF2 := hA.fr2 hl8 (by omega) hO.m1 hf4 hfo hfd
      have hB2 := d02.bag hB
      have hX2 := hX.dr d02 hB
      have hC2 := hC.dr d02 hB
      have hm24 := hO.m1
      refine ⟨.ref c, rfl, v1, rfl, v2, rfl, c, d, rs, many, given, sts, 1, p, us, us.map (Tm.put (flf fs)), v1, v2, rfl, hC2, hO, by decide, hF, hF2, hv1, hv2, fun r r2 hon hon2 H3 m3 => ?_⟩
      refine ⟨_, rfl, ?_⟩
      cases hsm : (!(r.isMany || r2.isMany) && !r.isSilent) with
      | false => exact q H3 (d02.trans (.of m3))
      | true =>
      obtain ⟨g, ws, rfl, hne2⟩ : ∃ g ws, r = .go g ws ∧ r2 ≠ .many := by
        cases r with
        | silent => simp [Res.isSilent] at hsm
        | many => simp [Res.isMany] at hsm
        | go g ws =>
          refine ⟨g, ws, rfl, ?_⟩
          rintro rfl
          simp [Res.isMany] at hsm
      cases onto_sub (flf fs) hO hF hon hon2 hne2
      obtain ⟨hG, hG2, onN, sz, sz2⟩ := hA.goA hO hl8 (by omega) hf4 hfo hfd hon hon2
      have hwl := hG.len
      have hwl2 := hG2.len
      have onn : Tm.oks (fun i => 0 ≤ i) ws := Tm.oks_mono (fun i hi => hi.1) ws onN
      have wdp : Tm.deps ws ≤ 50 := hG.vok.dp
      have gA : g.natAbs < 10 ^ 40 := Nat.lt_of_lt_of_le (show g.natAbs < 1000 by have := hG.g0; have := hG.g1; omega) (by decide)
      -- onward
      refine ⟨.ref x, rfl, v1, rfl, x, wx, rs, many, given, sts, 1, p, us, v1, rfl, hX2.mv m3, hO, hF, hv1.mv m3, fun hsi => absurd (on_one hsi hon) (fun z => by cases z), fun g' ws' hgo v3 H3a m3a hv3 => ?_, fun hmany => absurd (on_one hmany hon) (fun z => by cases z)⟩
      cases on_one hgo hon
      have m23a := m3.trans m3a
      refine ⟨.ref x, rfl, v2, rfl, x, wx, rs, many, given, sts, 1, p, us.map (Tm.put (flf fs)), v2, rfl, hX2.mv m23a, hO, hF2, hv2.mv m23a, fun hsi => absurd (on_one hsi hon2) (fun z => by cases z), fun g' ws' hgo2 v4 H4 m4 hv4 => ?_, fun hmany => absurd (on_one hmany hon2) (fun z => by cases z)⟩
      cases on_one hgo2 hon2
      have m24 := m23a.trans m4
      refine ⟨_, _, rfl, ?_⟩
      obtain ⟨a3, z0, z1, rfl, ha3, k0, k1⟩ := (hv3.mv m4).tup2
      cases k0.intI
      obtain ⟨b3, ys3, rfl, hb3, hys3⟩ := k1.tupI
      refine ⟨v4, rfl, .ref a3, rfl, rd_ixT ha3 (by decide) (v := .int g) rfl ?_⟩
      refine ⟨.ref a3, rfl, rd_ixT ha3 (by decide) (v := .ref b3) rfl ⟨b3, rfl, ?_⟩⟩
      refine lc_seq (xs := ys3) (.inr hb3) (fun i D H' => ∃ us', H' D = some (.lst us') ∧ Ims K H' us' (Tm.ds ((ws.take i).map (Tm.put (flf fs)))) ∧ Mv [] H4 H')
        (fun D nD => ⟨[], upd_same, Ims.nil, .new nD⟩) (fun i D H' nD h' => h'.choose_spec.2.2) (fun D nD i x HA hx hA => ?_) (fun D HA nD hA => ?_)
      · obtain ⟨us', eA, iA, mA⟩ := hA
        obtain ⟨xd, hxd, himx⟩ := hys3.get hx
        rw [Tm.ds_map, List.getElem?_map] at hxd
        obtain ⟨t, ht, rfl⟩ := Option.map_eq_some_iff.mp hxd
        have hmem := List.mem_of_getElem? ht
        have hi := (List.getElem?_eq_some_iff.mp ht).1
        have hlen := hwl
        have d0A : Dr b H HA := (d02.trans (.of m24)).trans (.of mA)
        refine ⟨rfl, x, rfl, .ref tl, rfl, x, tl, fv, t, fs, rfl, himx.mv mA, Tm.oks_iff.mp onn t hmem, Nat.lt_of_le_of_lt (Tm.deps_le.mp wdp t hmem) (by decide), .inl (.inl (d0A.get htb etl)), hfs.mv d0A.mv, hf4, fun v' HB mB hB => ?_⟩
        have eB := mB.same _ _ eA
        refine ⟨_, eB, ?_, us' ++ [v'], upd_same, ?_, (mA.trans mB).wr nD⟩
        · rw [iA.length, Tm.ds_map, List.length_map, List.length_map, List.length_take]
          exact small1000 (by omega)
        · rw [List.take_add_one, ht]
          rw [show Tm.ds (List.map (Tm.put (flf fs)) (ws.take i ++ (some t).toList)) = Tm.ds ((ws.take i).map (Tm.put (flf fs))) ++ [(t.put (flf fs)).d] by simp [Tm.ds_map]]
          exact ((iA.mv mB).append (Ims.cons hB Ims.nil)).mv (Mv.set (S := [D]) eB (by simp))
      obtain ⟨us1, eA1, iA1, mA1⟩ := hA
      rw [show ys3.length = ws.length by rw [hys3.length, Tm.ds_map, List.length_map], List.take_length] at iA1
      walk_at "nc"
      refine rd_tupOf (.inl (.inl eA1)) fun pZ1 HZ1 mZ1 eZ1 => ?_
      have m4Z := mA1.trans mZ1
      refine ⟨(by decide : 2 ≤ sizeLine), fun p5 np5 => ?_⟩
      have m5 : Mv [] HZ1 (upd HZ1 p5 (.tup [.int g, .ref pZ1])) := .new np5
      have i5 : Im K (upd HZ1 p5 (.tup [.int g, .ref pZ1])) (.ref p5) (frD g (ws.map (Tm.put (flf fs)))) := .tup (.inl (.inl upd_same)) (.cons (.int _) (.cons (.tup (m5.sqT eZ1) ((iA1.mv mZ1).mv m5)) .nil))
      generalize upd HZ1 p5 (.tup [.int g, .ref pZ1]) = H5 at m5 i5 ⊢
      have m45 := m4Z.trans m5
      have m25 := m24.trans m45
      refine ⟨v4, .ref p5, frD g (ws.map (Tm.put (flf fs))), rfl, (hv4.mv m45).dp, i5.dp, shw_fr gA hG2.vok (by omega), true, rfl, ?_⟩
      -- head
      refine ⟨.ref x, rfl, v1, rfl, x, wx, rs, many, given, sts, 1, p, us, v1, rfl, hX2.mv m25, hO, hF, hv1.mv m25, fun r' hr1 _ v6 H6 m6 hv6 => ?_, fun hmany => absurd (on_one hmany hon) (fun z => by cases z)⟩
      cases on_one hr1 hon
      have m26 := m25.trans m6
      refine ⟨.ref x, rfl, v2, rfl, x, wx, rs, many, given, sts, 1, p, us.map (Tm.put (flf fs)), v2, rfl, hX2.mv m26, hO, hF2, hv2.mv m26, fun r' hr2 _ v7 H7 m7 hv7 => ?_, fun hmany => absurd (on_one hmany hon2) (fun z => by cases z)⟩
      cases on_one hr2 hon2
      have m27 := m26.trans m7
      refine ⟨_, _, rfl, ?_⟩
      obtain ⟨s0, s1, ts, hhd, hhd2, _, _, _, _, htl2, hto, htd⟩ := headD_go hO hG
      obtain ⟨pv1, pv2, _⟩ := put_vs hG.vok sz (by omega) hto (by omega) htl2
      have otn : Tm.oks (fun i => 0 ≤ i) (ts.map (Tm.put (vat ws))) := by
        rw [← Tm.puts_map]
        exact Tm.oks_puts (fun i hi => Tm.oks_iff.mp onn _ (vat_mem hi.1 hi.2)) ts hto
      have otd : Tm.deps (ts.map (Tm.put (vat ws))) ≤ 52 := by omega
      have htl : (ts.map (Tm.put (vat ws))).length ≤ 2 := by rw [List.length_map]; exact htl2
      have hv6' := hv6.mv m7
      rw [hhd] at hv6'
      obtain ⟨a6, w0, w1, w2, rfl, ha6, e0, e1, e2⟩ := hv6'.tup3
      cases e0.strI
      cases e1.strI
      obtain ⟨b6, qs, rfl, hb6, hqs⟩ := e2.tupI
      refine ⟨v7, rfl, .ref a6, rfl, 2, rfl, rd_slT ha6 fun p8 H8 m8 e8 => ?_⟩
      rw [cut2] at e8
      have m28 := m27.trans m8
      have hq3 := m8.sqT (K := K) hb6
      have hqs3 := hqs.mv m8
      refine ⟨.ref a6, rfl, rd_ixT (m8.sqT ha6) (by decide) (v := .ref b6) rfl ⟨b6, rfl, ?_⟩⟩
      refine lc_seq (xs := qs) (.inr hq3) (fun i D H' => ∃ us', H' D = some (.lst us') ∧ Ims K H' us' (Tm.ds (((ts.map (Tm.put (vat ws))).take i).map (Tm.put (flf fs)))) ∧ Mv [] H8 H')
        (fun D nD => ⟨[], upd_same, Ims.nil, .new nD⟩) (fun i D H' nD h' => h'.choose_spec.2.2) (fun D nD i x HA hx hA => ?_) (fun D HA nD hA => ?_)
      · obtain ⟨us', eA, iA, mA⟩ := hA
        obtain ⟨xd, hxd, himx⟩ := hqs3.get hx
        rw [Tm.ds_map, List.getElem?_map] at hxd
        obtain ⟨t, ht, rfl⟩ := Option.map_eq_some_iff.mp hxd
        have hmem := List.mem_of_getElem? ht
        have hi := (List.getElem?_eq_some_iff.mp ht).1
        have hlen := htl
        have d0A : Dr b H HA := (d02.trans (.of m28)).trans (.of mA)
        refine ⟨rfl, x, rfl, .ref tl, rfl, x, tl, fv, t, fs, rfl, himx.mv mA, Tm.oks_iff.mp otn t hmem, Nat.lt_of_le_of_lt (Tm.deps_le.mp otd t hmem) (by decide), .inl (.inl (d0A.get htb etl)), hfs.mv d0A.mv, hf4, fun v' HB mB hB => ?_⟩
        have eB := mB.same _ _ eA
        refine ⟨_, eB, ?_, us' ++ [v'], upd_same, ?_, (mA.trans mB).wr nD⟩
        · rw [iA.length, Tm.ds_map, List.length_map, List.length_map, List.length_take]
          exact small1000 (by omega)
        · rw [List.take_add_one, ht]
          rw [show Tm.ds (List.map (Tm.put (flf fs)) ((ts.map (Tm.put (vat ws))).take i ++ (some t).toList)) = Tm.ds (((ts.map (Tm.put (vat ws))).take i).map (Tm.put (flf fs))) ++ [(t.put (flf fs)).d] by simp [Tm.ds_map]]
          exact ((iA.mv mB).append (Ims.cons hB Ims.nil)).mv (Mv.set (S := [D]) eB (by simp))
      obtain ⟨us2, eA2, iA2, mA2⟩ := hA
      rw [show qs.length = (ts.map (Tm.put (vat ws))).length by rw [hqs3.length, Tm.ds_map, List.length_map], List.take_length] at iA2
      walk_at "nc"
      refine rd_tupOf (.inl (.inl eA2)) fun pZ2 HZ2 mZ2 eZ2 => ?_
      have m8Z := mA2.trans mZ2
      refine ⟨(by decide : 1 ≤ sizeLine), fun p9 np9 => ?_⟩
      have m9 : Mv [] HZ2 (upd HZ2 p9 (.tup [.ref pZ2])) := .new np9
      have e9 : SqT K (upd HZ2 p9 (.tup [.ref pZ2])) p9 [.ref pZ2] := .inl (.inl upd_same)
      generalize upd HZ2 p9 (.tup [.ref pZ2]) = H9 at m9 e9 ⊢
      have m89 := m8Z.trans m9
      refine rd_cat (m89.sqT e8) e9 (by decide : 3 ≤ sizeLine) fun p10 H10 m10 e10 => ?_
      have m910 := m9.trans m10
      have m810 := m89.trans m10
      have m210 := m28.trans m810
      have i10 : Im K H10 (.ref p10) (headD sts (.go g (ws.map (Tm.put (flf fs))))) := by
        rw [hhd2, head_sub (flf fs) hto]
        exact .tup e10 (.cons (.str _) (.cons (.str _) (.cons (.tup (m910.sqT eZ2) ((iA2.mv mZ2).mv m910)) .nil)))
      refine ⟨v7, .ref p10, headD sts (.go g (ws.map (Tm.put (flf fs)))), rfl, (hv7.mv (m8.trans m810)).dp, i10.dp, shw_head hO (by decide) hG2 sz2, true, rfl, ?_⟩
      -- the row
      have m310 : Mv [] H4 H10 := m45.trans (m6.trans (m7.trans (m8.trans m810)))
      obtain ⟨l, vs, hc, hlr, hR⟩ := id (hC2.mv m210)
      have hvl : vs.length = sts.length := by
        have := hR.1.length
        rwa [List.length_map] at this
      have g0 := hG.g0
      have g1 := hG.g1
      have hgi : g.toNat < vs.length := by omega
      obtain ⟨dd, hdd, him⟩ := hR.1.get (List.getElem?_eq_getElem hgi)
      rw [List.getElem?_map] at hdd
      obtain ⟨st, hst, rfl⟩ := Option.map_eq_some_iff.mp hdd
      refine ⟨.ref c, rfl, c, .ref l, rfl, Or.inl ⟨_, .inr "rows", .inl hc, rfl, (code_rows d l many given).symm⟩, ?_⟩
      refine ⟨.ref a3, rfl, rd_ixT (m310.sqT ha3) (by decide) (v := .int g) rfl (rd_ixL (.inl (.inl hlr)) g0 (List.getElem?_eq_getElem hgi) ?_)⟩
      rcases go_at hO g0 g1 hG.no with ⟨act, ts', ways, he, hok, _, _⟩ | ⟨word, ts', he, _, _, _⟩
      case inr =>
        rw [he] at hst
        cases hst
        obtain ⟨cc, u0, u1, u2, hvc, hcc, l0, l1, l2⟩ := him.tup3
        cases l0.strI
        rw [hvc]
        refine ⟨.ref cc, rfl, rd_ixT hcc (by decide) (v := .str "end") rfl (Or.inl ⟨rfl, _, rfl, ?_⟩)⟩
        rw [ne_str (by decide +kernel)]
        exact q H10 (d02.trans (.of m210))
      rw [he] at hst
      cases hst
      obtain ⟨hnd, _⟩ := sta_keyed hO.w hok
      obtain ⟨r, hr', _, hk⟩ := hok
      have hw1 : 1 ≤ ways.length := by
        have := hk.pm.length_eq
        rw [List.length_map, List.length_map] at this
        have := (hO.w.ok r hr').o1
        omega
      have hw6 : ways.length ≤ 6 := by
        have := hk.pm.length_eq
        rw [List.length_map, List.length_map] at this
        have := (hO.w.ok r hr').o6
        omega
      obtain ⟨cc, u0, u1, u2, u3, hvc, hcc, l0, l1, l2, l3⟩ := him.tup4
      cases l0.strI
      obtain ⟨ee, zs, rfl, hee, hzs⟩ := l3.tupI
      have hzl : zs.length = ways.length := by rw [hzs.length, List.length_map]
      rw [hvc]
      refine ⟨.ref cc, rfl, rd_ixT hcc (by decide) (v := .str "ask") rfl (Or.inl ⟨rfl, _, rfl, ?_⟩)⟩
      rw [show decide (V.str "ask" = V.str "ask") = true from decide_eq_true rfl]
      refine ⟨.ref cc, rfl, rd_ixT hcc (by decide) (v := .ref ee) rfl ?_⟩
      refine ⟨.ref b, rfl, .ref cc, rfl, rd_ixT hcc (by decide) (v := .ref ee) rfl (Or.inl ⟨ee, zs, rfl, .inr hee, ?_⟩)⟩
      rw [hzl]
      refine ⟨b, _, rfl, (Dr.of m210).bag hB2, by omega, by omega, fun j H11 j0 j1 d11 => ?_⟩
      have hj : j.toNat < ways.length := by omega
      have hj' : j.toNat < zs.length := by omega
      obtain ⟨wd, hwd, hwi⟩ := hzs.get (List.getElem?_eq_getElem hj')
      rw [List.getElem?_map, List.getElem?_eq_getElem hj] at hwd
      have hwm := List.getElem_mem hj
      obtain ⟨⟨o, vars, goal⟩, hway⟩ : ∃ w, ways[j.toNat] = w := ⟨_, rfl⟩
      rw [hway] at hwd hwm
      cases hwd
      obtain ⟨wi, _, hvl', hvn, hvi, go0, go1⟩ := hk.ways _ hwm
      have hvi : ∀ i ∈ vars, 0 ≤ i ∧ i < many := hvi
      have hvn : vars.Nodup := hvn
      have go0 : 0 ≤ goal := go0
      have go1 : goal < sts.length := go1
      have hv24 : vars.length ≤ 24 := by
        have := pigeon (n := many.toNat) hvn fun z hz => by
          have := hvi z hz
          omega
        omega
      obtain ⟨wa, w0', w1', w2', hwa, hwt, f0, f1, f2⟩ := (hwi.mv d11.mv).tup3
      cases f0.strI
      refine rd_ixT (d11.mv.sqT hee) j0 (List.getElem?_eq_getElem hj') ?_
      rw [hwa]
      refine rd_ixT hwt (by decide) (v := .str o) rfl ?_
      refine ⟨10, 9, rfl, rfl, ⟨by decide, by decide, by decide⟩, _, rfl, Or.inl ⟨2, _, rfl, rfl, .inl ⟨by decide, by decide⟩, Or.inl ⟨_, _, rfl, rfl, _, .int (10 ^ (9 : Int).toNat + 2 * (0 + (n : Int))), rfl, ?_⟩⟩⟩
      obtain ⟨fresh, hfr⟩ : ∃ fresh : Int, fresh = 10 ^ (9 : Int).toNat + 2 * (0 + (n : Int)) := ⟨_, rfl⟩
      rw [← hfr]
      have hfr' : fresh = 1000000000 + 2 * (n : Int) := by
        rw [hfr]
        have : (10 : Int) ^ (9 : Int).toNat = 1000000000 := by decide
        omega
      have ff0 : 0 ≤ fresh := by omega
      have ff1 : fresh ≤ 10 ^ 30 := by
        have : (10 : Int) ^ 30 = 1000000000000000000000000000000 := by decide
        omega
      have d211 : Dr b H2 H11 := (Dr.of m210).trans d11
      have hfit : Fits sts p us o g ws act ts' ways vars goal := ⟨hon, he, hwm⟩
      have hfit2 : Fits sts p (us.map (Tm.put (flf fs))) o g (ws.map (Tm.put (flf fs))) act ts' ways vars goal := ⟨hon2, he, hwm⟩
      have hfix : ∀ k : Nat, flf fs (fresh + k) = .var (fresh + k) := fun k => by
        unfold flf
        rw [if_neg (by omega)]
      obtain ⟨sv1, sv2, sv3, sv4⟩ := setVn_ok (vars := vars) ff0 ff1 (by omega) hG.vok vars.length (Nat.le_refl _)
      obtain ⟨tv1, tv2, tv3, tv4⟩ := setVn_ok (vars := vars) ff0 ff1 (by omega) hG2.vok vars.length (Nat.le_refl _)
      have fNk : ∀ k : Nat, k ≤ 1000 → fitN (fresh + k) := fun k hk => ⟨by omega, Nat.lt_of_lt_of_le (show (fresh + (k : Int)).natAbs < 10 ^ 10 by omega) (by decide)⟩
      -- answered
      refine ⟨.ref x, rfl, v1, rfl, .str o, rfl, .int fresh, rfl, x, wx, rs, many, given, sts, 1, p, us, v1, o, fresh, rfl, hX2.dr d211 hB2, hO, hF, hv1.mv d211.mv, ff0, ff1, .inr ⟨_, _, _, _, _, _, _, hfit⟩, fun hmany => absurd (on_one hmany hon) (fun z => by cases z), fun g' ws' act' ts2 ways' vars' goal' hf' => ?_⟩
      obtain ⟨eg1, eg2, eg3⟩ := hf'
      cases on_one eg1 hon
      rw [he] at eg2
      cases eg2
      have evg : (vars', goal') = (vars, goal) := by
        obtain ⟨i1, hi1⟩ := List.getElem?_of_mem eg3
        obtain ⟨i2, hi2⟩ := List.getElem?_of_mem hwm
        have hw1 := (List.getElem?_eq_some_iff.mp hi1).1
        have e1 : (ways.map (·.1))[i1]? = some o := by rw [List.getElem?_map, hi1]; rfl
        have e2 : (ways.map (·.1))[i2]? = some o := by rw [List.getElem?_map, hi2]; rfl
        have := (List.getElem?_inj (by rw [List.length_map]; exact hw1) hnd).mp (e1.trans e2.symm)
        subst this
        rw [hi1] at hi2
        cases hi2
        rfl
      cases evg
      refine ⟨fun _ v11 H11a m11a hv11 => ?_, fun hgt => absurd (show 200 < Tm.sizes (setVn ws fresh vars vars.length) from hgt) (by omega)⟩
      have d211a := d211.trans (.of m11a)
      refine ⟨.ref x, rfl, v2, rfl, .str o, rfl, .int fresh, rfl, x, wx, rs, many, given, sts, 1, p, us.map (Tm.put (flf fs)), v2, o, fresh, rfl, hX2.dr d211a hB2, hO, hF2, hv2.mv d211a.mv, ff0, ff1, .inr ⟨_, _, _, _, _, _, _, hfit2⟩, fun hmany => absurd (on_one hmany hon2) (fun z => by cases z), fun g' ws' act' ts2 ways' vars' goal' hf' => ?_⟩
      obtain ⟨eg1, eg2, eg3⟩ := hf'
      cases on_one eg1 hon2
      rw [he] at eg2
      cases eg2
      have evg : (vars', goal') = (vars, goal) := by
        obtain ⟨i1, hi1⟩ := List.getElem?_of_mem eg3
        obtain ⟨i2, hi2⟩ := List.getElem?_of_mem hwm
        have hw1 := (List.getElem?_eq_some_iff.mp hi1).1
        have e1 : (ways.map (·.1))[i1]? = some o := by rw [List.getElem?_map, hi1]; rfl
        have e2 : (ways.map (·.1))[i2]? = some o := by rw [List.getElem?_map, hi2]; rfl
        have := (List.getElem?_inj (by rw [List.length_map]; exact hw1) hnd).mp (e1.trans e2.symm)
        subst this
        rw [hi1] at hi2
        cases hi2
        rfl
      cases evg
      refine ⟨fun _ v12 H12 m12 hv12 => ?_, fun hgt => absurd (show 200 < Tm.sizes (setVn (ws.map (Tm.put (flf fs))) fresh vars vars.length) from hgt) (by omega)⟩
      have d212 := d211a.trans (.of m12)
      refine ⟨_, _, rfl, ?_⟩
      have svE : setV (ws.map (Tm.put (flf fs))) fresh vars = (setV ws fresh vars).map (Tm.put (flf fs)) := setV_sub (flf fs) hfix
      rw [svE] at hv12
      have svV : VsOk (setV ws fresh vars) := sv1
      have svN : Tm.oks fitN (setV ws fresh vars) := by
        have key : ∀ m, m ≤ vars.length → Tm.oks fitN (setVn ws fresh vars m) := by
          intro m
          induction m with
          | zero => intro _; exact onN
          | succ m ih =>
            intro hm
            refine Tm.oks_iff.mpr fun t ht => ?_
            rcases List.mem_or_eq_of_mem_set ht with h' | rfl
            · exact Tm.oks_iff.mp (ih (by omega)) t h'
            · exact fNk m (by omega)
        exact key _ (Nat.le_refl _)
      have svn : Tm.oks (fun i => 0 ≤ i) (setV ws fresh vars) := Tm.oks_mono (fun i hi => hi.1) _ svN
      have svd : Tm.deps (setV ws fresh vars) ≤ 50 := svV.dp
      have svl : ((setV ws fresh vars).length : Int) = many := by
        show ((setVn ws fresh vars vars.length).length : Int) = many
        rw [sv2]
        exact hwl
      obtain ⟨a12, z0', z1', rfl, ha12, k0', k1'⟩ := (hv11.mv m12).tup2
      cases k0'.intI
      obtain ⟨b12, ks, rfl, hk3, hks3⟩ := k1'.tupI
      refine ⟨v12, rfl, .ref a12, rfl, rd_ixT ha12 (by decide) (v := .int goal) rfl ?_⟩
      refine ⟨.ref a12, rfl, rd_ixT ha12 (by decide) (v := .ref b12) rfl ⟨b12, rfl, ?_⟩⟩
      refine lc_seq (xs := ks) (.inr hk3) (fun i D H' => ∃ us', H' D = some (.lst us') ∧ Ims K H' us' (Tm.ds (((setV ws fresh vars).take i).map (Tm.put (flf fs)))) ∧ Mv [] H12 H')
        (fun D nD => ⟨[], upd_same, Ims.nil, .new nD⟩) (fun i D H' nD h' => h'.choose_spec.2.2) (fun D nD i x HA hx hA => ?_) (fun D HA nD hA => ?_)
      · obtain ⟨us', eA, iA, mA⟩ := hA
        obtain ⟨xd, hxd, himx⟩ := hks3.get hx
        rw [Tm.ds_map, List.getElem?_map] at hxd
        obtain ⟨t, ht, rfl⟩ := Option.map_eq_some_iff.mp hxd
        have hmem := List.mem_of_getElem? ht
        have hi := (List.getElem?_eq_some_iff.mp ht).1
        have hlen := svl
        have d0A : Dr b H HA := (d02.trans d212).trans (.of mA)
        refine ⟨rfl, x, rfl, .ref tl, rfl, x, tl, fv, t, fs, rfl, himx.mv mA, Tm.oks_iff.mp svn t hmem, Nat.lt_of_le_of_lt (Tm.deps_le.mp svd t hmem) (by decide), .inl (.inl (d0A.get htb etl)), hfs.mv d0A.mv, hf4, fun v' HB mB hB => ?_⟩
        have eB := mB.same _ _ eA
        refine ⟨_, eB, ?_, us' ++ [v'], upd_same, ?_, (mA.trans mB).wr nD⟩
        · rw [iA.length, Tm.ds_map, List.length_map, List.length_map, List.length_take]
          exact small1000 (by omega)
        · rw [List.take_add_one, ht]
          rw [show Tm.ds (List.map (Tm.put (flf fs)) ((setV ws fresh vars).take i ++ (some t).toList)) = Tm.ds (((setV ws fresh vars).take i).map (Tm.put (flf fs))) ++ [(t.put (flf fs)).d] by simp [Tm.ds_map]]
          exact ((iA.mv mB).append (Ims.cons hB Ims.nil)).mv (Mv.set (S := [D]) eB (by simp))
      obtain ⟨us3, eA3, iA3, mA3⟩ := hA
      rw [show ks.length = (setV ws fresh vars).length by rw [hks3.length, Tm.ds_map, List.length_map], List.take_length] at iA3
      walk_at "nc"
      refine rd_tupOf (.inl (.inl eA3)) fun pZ3 HZ3 mZ3 eZ3 => ?_
      have m12Z := mA3.trans mZ3
      refine ⟨(by decide : 2 ≤ sizeLine), fun p13 np13 => ?_⟩
      have m13 : Mv [] HZ3 (upd HZ3 p13 (.tup [.int goal, .ref pZ3])) := .new np13
      have i13 : Im K (upd HZ3 p13 (.tup [.int goal, .ref pZ3])) (.ref p13) (frD goal ((setV ws fresh vars).map (Tm.put (flf fs)))) := .tup (.inl (.inl upd_same)) (.cons (.int _) (.cons (.tup (m13.sqT eZ3) ((iA3.mv mZ3).mv m13)) .nil))
      generalize upd HZ3 p13 (.tup [.int goal, .ref pZ3]) = H13 at m13 i13 ⊢
      have m1213 := m12Z.trans m13
      have goA : goal.natAbs < 10 ^ 40 := Nat.lt_of_lt_of_le (show goal.natAbs < 1000 by omega) (by decide)
      have tvV : VsOk ((setV ws fresh vars).map (Tm.put (flf fs))) := by rw [← svE]; exact tv1
      refine ⟨v12, .ref p13, frD goal ((setV ws fresh vars).map (Tm.put (flf fs))), rfl, (hv12.mv m1213).dp, i13.dp, shw_fr goA tvV (by rw [List.length_map]; omega), true, rfl, ?_⟩
      refine ⟨goal, setV ws fresh vars, .ref a12, v12, _, _, _, _, _, _, _, _, rfl, ⟨go0, go1, svl, svN, ?_, ?_, ?_⟩, .tup (m1213.sqT ha12) (.cons (.int _) (.cons (.tup (m1213.sqT hk3) (hks3.mv m1213)) .nil)), hv12.mv m1213, (d02.trans d212).trans (.of m1213)⟩
      · have h1 : Tm.deps (setV ws fresh vars) ≤ Tm.deps ws := sv4
        have h2 := hG.dp
        omega
      · have h1 : Tm.sizes (setV ws fresh vars) ≤ Tm.sizes ws := sv3
        omega
      · rw [← svE]
        have h1 : Tm.sizes (setV (ws.map (Tm.put (flf fs))) fresh vars) ≤ Tm.sizes (ws.map (Tm.put (flf fs))) := tv3
        omega
    · obtain ⟨p, us, v1, v2, y6, y7, y8, y9, y10, y11, y12, y13, rfl, hA, hv1, hv2, d02⟩ := h2
      exact q H2 d02
end
end Fm
namespace Fm
open PySem PySem.Spec PyProof.Rows L2 SlX
local macro_rules | `(tactic| walk_at "nn") => `(tactic| dsimp only [tC, tNil, tCons, tCB, tCall, gName, tSeq, tAsg, tPar, tDrop, tRet])
local macro_rules | `(tactic| walk_at "nc") => `(tactic| dsimp only [tC, tNil, tCons, tCB, tCall])
def sp_law (K : PySem.W.Frag) : Sp := fun vs H Q _ => ∃ (a : Addr) (ns : List Int), vs = [.ref a] ∧ SqL K H a (ns.map V.int) ∧ ns.length ≤ 63 ∧ ∀ H', Q (.bl true) H'
/-- the unknowns from 100 on -/
def far (i : Int) : Tm := .var (100 + i)
theorem look_far {K : PySem.W.Frag} {H : Hp} {p : Addr} (h : H p = some (.lst [.int 100, .int 101, .int 102])) : Look1 K H (.ref p) (fun i => 0 ≤ i ∧ i < 3) far := by
  refine ⟨p, rfl, .inl ⟨_, .inl (.inl h), fun i hi => ⟨hi.1, ?_⟩⟩⟩
  have : i = 0 ∨ i = 1 ∨ i = 2 := by omega
  rcases this with rfl | rfl | rfl
  · exact ⟨_, rfl, .int _⟩
  · exact ⟨_, rfl, .int _⟩
  · exact ⟨_, rfl, .int _⟩
theorem far_ok {t : Tm} (h : t.ok fun i => 0 ≤ i ∧ i < 3) (hd : t.dep ≤ 2) : (t.put far).ok fit ∧ (t.put far).dep ≤ 2 ∧ (t.put far).size ≤ 4 := by
  refine ⟨Tm.ok_put (f := far) (R := fit) (fun i hi => show fit (100 + i) from Nat.lt_of_lt_of_le (show (100 + i).natAbs < 1000 by omega) (by decide)) t h, ?_, ?_⟩
  · have := Tm.dep_put (n := 0) (f := far) (fun i _ => by simp [far, Tm.dep]) t h
    omega
  · have h1 := Tm.sizes_small 2 t h hd
    have e : 3 ^ 2 = 9 := by decide
    rw [e] at h1
    rw [Tm.size_put]
    have : ∀ is : List Int, (is.map fun i => (far i).size).sum = 0 := fun is => by
      induction is with
      | nil => rfl
      | cons i is ih => rw [List.map_cons, List.sum_cons, ih]; simp [far, Tm.size]
    rw [this]
    omega
theorem sum_le {f : Int → Nat} {c : Nat} : ∀ {is : List Int}, (∀ i ∈ is, f i ≤ c) → (is.map f).sum ≤ is.length * c
  | [], _ => by simp
  | i :: is, h => by
    have h1 := h i (by simp)
    have h2 := sum_le (is := is) fun j hj => h j (by simp [hj])
    rw [List.map_cons, List.sum_cons, List.length_cons, Nat.add_mul]
    omega
theorem sub_sizes {fs : List Tm} (h4 : fs.length = 4) (hs : ∀ t ∈ fs, t.size ≤ 4) : ∀ us : List Tm, Tm.oks (fun i => 0 ≤ i ∧ i < 4) us → Tm.deps us ≤ 1 → Tm.sizes us ≤ us.length ∧ Tm.sizes (us.map (Tm.put (flf fs))) ≤ us.length * 13
  | [], _, _ => by simp [Tm.sizes]
  | u :: us, ho, hd => by
    obtain ⟨h1, h2⟩ := sub_sizes h4 hs us ho.2 (by simp only [Tm.deps] at hd; omega)
    have hdu : u.dep ≤ 1 := by simp only [Tm.deps] at hd; omega
    have h3 := Tm.sizes_small 1 u ho.1 hdu
    have h5 := (Tm.small 1 u ho.1 hdu).1
    have e : 3 ^ 1 = 3 := by decide
    rw [e] at h3 h5
    have h6 : ((Tm.leaves u).map fun i => (flf fs i).size).sum ≤ (Tm.leaves u).length * 4 := sum_le fun i hi => by
      have hi' := Tm.ok_leaves u ho.1 i hi
      unfold flf
      rw [if_pos hi'.2]
      exact hs _ (vat_mem hi'.1 (by omega))
    rw [Tm.leaves_len] at h6
    have h7 : u.lv * 4 ≤ 3 * 4 := Nat.mul_le_mul_right _ h5
    simp only [List.map_cons, Tm.sizes, List.length_cons, Tm.size_put]
    omega
section
variable {P : Program} {w : World} {K : PySem.W.Frag} {mg : Str → Option Value} {base : Heap}
theorem ok_law (T : TX K mg) (Y : TY P K mg) : FnOkG P w K mg base CX0 120 T.d_law.f T.d_law.fd P_law (sp_law K) := by
  have G__law_bag : FnOk P w K mg base CX0 1 T.d__law_bag.f T.d__law_bag.fd P__law_bag (sp_bag K) := ok__law_bag T
  have G__law_take : FnOk P w K mg base CX0 1 T.d__law_take.f T.d__law_take.fd P__law_take sp_take := ok__law_take T
  have G__law_names : FnOk P w K mg base CX0 2 T.d__law_names.f T.d__law_names.fd P__law_names sp_names := ok__law_names T
  have G__law_term : FnOk P w K mg base CX0 5 T.d__law_term.f T.d__law_term.fd P__law_term (sp_term K 3) := ok__law_term T 3
  have G__law_put : FnOk P w K mg base CX0 4 T.d__law_put.f T.d__law_put.fd P__law_put (sp_put K 3) := ok__law_put T 3
  have G__law_filled : FnOk P w K mg base CX0 4 T.d__law_filled.f T.d__law_filled.fd P__law_filled (sp_filled K 3) := ok__law_filled T 3
  have G__law_acts : FnOk P w K mg base CX0 3 T.d__law_acts.f T.d__law_acts.fd P__law_acts (sp_acts K) := ok__law_acts T
  have G__law_world_of : FnOk P w K mg base CX0 7 T.d__law_world_of.f T.d__law_world_of.fd P__law_world_of (sp_worldOf K T.C_World) := ok__law_world_of T
  have G__law_code : FnOk P w K mg base CX0 7 T.d__law_code.f T.d__law_code.fd P__law_code (sp_code K) := ok__law_code T
  have G__law_code_of : FnOk P w K mg base CX0 9 T.d__law_code_of.f T.d__law_code_of.fd P__law_code_of (sp_codeOf K T.C_Code T.C_World) := ok__law_code_of T
  have G__law_right : FnOkG P w K mg base CX0 60 T.d__law_right.f T.d__law_right.fd P__law_right (sp_right K T.C_Code T.C_World) := ok__law_right (k := 0) T Y
  refine okG T.d_law.F sc_law (fun vs H Q E h => ?_) (fun cdv A outer s H vs Q E hgd hr h => ?_)
  · obtain ⟨_, _, rfl, _⟩ := h
    rfl
  · obtain ⟨a, sns, rfl, hS, hl63, q⟩ := h
    have hu1 := hu1_of hr
    have hu64 := hr.units
    have hu65 := hu65_of hr
    refine ⟨_, (pss_cons (ps_set (i := 1) sc_law.nd rfl (Or.inr rfl) (pe_call G__law_bag (hr.mono (by omega)) rfl T.d__law_bag.g T.d__law_bag.F.kp T.d__law_bag.b .nil pass0 (pa_cons (pv 0) pa_nil))) (pss_cons (ps_for PassesOwn.never rfl (pi_range1 (by rfl) T.b_range (pa_cons pe_int pa_nil)) (pg_name (i := 2) sc_law.nd rfl (Or.inl rfl)) (pss_cons (ps_set (i := 3) sc_law.nd rfl (Or.inl rfl) (pe_call G__law_acts (hr.mono (by omega)) rfl T.d__law_acts.g T.d__law_acts.F.kp T.d__law_acts.b .nil pass0 (pa_cons (pv 1) (pa_cons pe_int pa_nil)))) (pss_cons (ps_set (i := 4) sc_law.nd rfl (Or.inl rfl) (pe_call G__law_world_of (hr.mono (by omega)) rfl T.d__law_world_of.g T.d__law_world_of.F.kp T.d__law_world_of.b .nil pass0 (pa_cons (pv 1) (pa_cons (pv 3) pa_nil)))) (pss_cons (ps_set (i := 5) sc_law.nd rfl (Or.inl rfl) (pe_call G__law_code (hr.mono (by omega)) rfl T.d__law_code.g T.d__law_code.F.kp T.d__law_code.b .nil pass0 (pa_cons (pv 1) (pa_cons (pv 3) (pa_cons (pe_op (r := rAddG K) op_addG pe_int (pe_call G__law_take (hr.mono (by omega)) rfl T.d__law_take.g T.d__law_take.F.kp T.d__law_take.b .nil pass0 (pa_cons (pv 1) (pa_cons pe_int pa_nil)))) (pa_cons (pe_op (r := rAddG K) op_addG pe_int (pe_call G__law_take (hr.mono (by omega)) rfl T.d__law_take.g T.d__law_take.F.kp T.d__law_take.b .nil pass0 (pa_cons (pv 1) (pa_cons pe_int pa_nil)))) pa_nil)))))) (pss_cons (ps_asg (pe_tup (pa_cons (pe_call G__law_code_of (hr.mono (by omega)) rfl T.d__law_code_of.g T.d__law_code_of.F.kp T.d__law_code_of.b .nil pass0 (pa_cons (pv 1) (pa_cons (pv 4) (pa_cons (pv 5) pa_nil)))) (pa_cons (pe_call G__law_names (hr.mono (by omega)) rfl T.d__law_names.g T.d__law_names.F.kp T.d__law_names.b .nil pass0 (pa_cons (pv 1) (pa_cons pe_int pa_nil))) pa_nil))) (pg_tup rfl (pgs_cons (pg_name (i := 6) sc_law.nd rfl (Or.inl rfl)) (pgs_cons (pg_name (i := 7) sc_law.nd rfl (Or.inr rfl)) pgs_nil)))) (pss_one (ps_for PassesOwn.never rfl (pi_range1 (by rfl) T.b_range (pa_cons pe_int pa_nil)) (pg_name (i := 8) sc_law.nd rfl (Or.inl rfl)) (pss_cons (ps_set (i := 9) sc_law.nd rfl (Or.inr rfl) (pe_lc (own := [("_law_j", 13)]) (g := gName 13) (by rfl) sc_law.nd (pi_range1 (by rfl) T.b_range (pa_cons pe_int pa_nil)) (blkOk_by (own := [("_law_j", 13)]) (N := N_law) (sc := defScope s_law) (by decide +kernel)) (fun _ _ _ _ _ => pg_name (i := 13) sc_law.nd rfl (Or.inl rfl)) (fun _ _ _ _ _ => pts_nil) (fun _ _ _ _ _ => (pe_call G__law_put (hr.mono (by omega)) rfl T.d__law_put.g T.d__law_put.F.kp T.d__law_put.b .nil pass0 (pa_cons (pe_call G__law_term (hr.mono (by omega)) rfl T.d__law_term.g T.d__law_term.F.kp T.d__law_term.b .nil pass0 (pa_cons (pv 1) (pa_cons (pv 7) (pa_cons pe_int (pa_cons (pe_call G__law_take (hr.mono (by omega)) rfl T.d__law_take.g T.d__law_take.F.kp T.d__law_take.b .nil pass0 (pa_cons (pv 1) (pa_cons pe_int pa_nil))) pa_nil))))) (pa_cons (pe_lst (pa_cons pe_int (pa_cons pe_int (pa_cons pe_int pa_nil)))) pa_nil)))))) (pss_cons (ps_setLc (i := 10) (own := [("_law_j", 13)]) (g := gName 13) (by rfl) sc_law.nd rfl rfl (sw_true rfl rfl rfl (by decide +kernel)) (pi_range1 (by rfl) T.b_range (pa_cons (pe_dget hu1 (pv 5) pe_str (fun _ _ => rfl)) pa_nil)) (blkOk_by (own := [("_law_j", 13)]) (N := N_law) (sc := defScope s_law) (by decide +kernel)) (fun _ _ _ _ _ => pg_name (i := 13) sc_law.nd rfl (Or.inl rfl)) (fun _ _ _ _ _ => pts_nil) (fun _ _ _ _ _ => (pe_call G__law_term (hr.mono (by omega)) rfl T.d__law_term.g T.d__law_term.F.kp T.d__law_term.b .nil pass0 (pa_cons (pv 1) (pa_cons (pv 7) (pa_cons pe_int (pa_cons (pe_call G__law_take (hr.mono (by omega)) rfl T.d__law_take.g T.d__law_take.F.kp T.d__law_take.b .nil pass0 (pa_cons (pv 1) (pa_cons pe_int pa_nil))) pa_nil))))))) (pss_cons (ps_par (i := 11) (j := 12) rfl sc_law.nd rfl rfl (by decide) rfl rfl (pa_cons (pe_call G__law_take (hr.mono (by omega)) rfl T.d__law_take.g T.d__law_take.F.kp T.d__law_take.b .nil pass0 (pa_cons (pv 1) (pa_cons (pe_callB (r := rLenG K) call_lenG (by rfl) T.b_len bt_len (pa_cons (pe_dget hu1 (pv 5) pe_str (fun _ _ => rfl)) pa_nil)) pa_nil))) (pa_cons (pe_lc (own := [("_law_value", 14)]) (g := gName 14) (by rfl) sc_law.nd (pi_seq (pv 10)) (blkOk_by (own := [("_law_value", 14)]) (N := N_law) (sc := defScope s_law) (by decide +kernel)) (fun _ _ _ _ _ => pg_name (i := 14) sc_law.nd rfl (Or.inl rfl)) (fun _ _ _ _ _ => pts_nil) (fun _ _ _ _ _ => (pe_call G__law_filled (hr.mono (by omega)) rfl T.d__law_filled.g T.d__law_filled.F.kp T.d__law_filled.b .nil pass0 (pa_cons (pv 14) (pa_cons (pv 9) pa_nil))))) pa_nil)) rfl) (pss_one (ps_if (pt_not (pt_val (pe_callG G__law_right hgd (hr.mono (by omega)) rfl T.d__law_right.g T.d__law_right.F.kp T.d__law_right.b .nil pass0 (pa_cons (pv 1) (pa_cons (pv 6) (pa_cons (pv 5) (pa_cons (pe_tup (pa_cons (pv 11) (pa_cons (pe_callTy (r := rTupOf K) call_tupG (by rfl) T.b_tuple bt_tuple (pa_cons (pv 10) pa_nil)) pa_nil))) (pa_cons (pe_tup (pa_cons (pv 11) (pa_cons (pe_callTy (r := rTupOf K) call_tupG (by rfl) T.b_tuple bt_tuple (pa_cons (pv 12) pa_nil)) pa_nil))) (pa_cons (pv 9) pa_nil))))))))) (pss_one (ps_ret pe_bl)) pss_nil)))))))))))) (pss_one (ps_ret pe_bl)))), ?_⟩
    refine ⟨.ref a, rfl, a, sns, rfl, hS, hl63, fun H1 b m1 nb hB1 => ?_⟩
    refine ⟨5, rfl, by decide, by decide, ?_⟩
    refine for_range (lo := 0) (n := (5 : Int).toNat) (fun i σ H3 => ∃ (y2 y3 y4 y5 y6 y7 y8 y9 y10 y11 y12 : Option V), σ = [some (.ref a), some (.ref b), y2, y3, y4, y5, y6, y7, y8, y9, y10, y11, y12, none, none] ∧ Bag H3 b)
      ⟨_, _, _, _, _, _, _, _, _, _, _, rfl, hB1⟩ (fun i σ H3 hi h3 => ?_) (fun σ H3 h3 => q H3)
    obtain ⟨y2, y3, y4, y5, y6, y7, y8, y9, y10, y11, y12, rfl, hB3⟩ := h3
    -- acts, world
    refine ⟨.ref b, rfl, b, 2, rfl, hB3, by decide, by decide, fun d zs H4 nd hA4 hD hz1 d4 => ?_⟩
    have hB4 := d4.bag hB3
    have hzl : zs.length ≤ 4 := by
      have := hD.few
      rwa [List.length_map] at this
    refine ⟨.ref b, rfl, .ref d, rfl, b, d, zs, rfl, hB4, hA4, fun z hz => hD.ok _ (List.mem_map.mpr ⟨z, hz, rfl⟩), by omega, fun wx H5 hW5 d5 => ?_⟩
    have hB5 := d5.bag hB4
    have hA5 := hA4.dr d5 hB4
    -- the code
    refine ⟨.ref b, rfl, .ref d, rfl, .ref b, rfl, b, 6, rfl, hB5, by decide, by decide, fun n1 H6 n10 n11 d6 => Or.inl ⟨2, n1, rfl, rfl, ?_⟩⟩
    have hB6 := d6.bag hB5
    refine ⟨.ref b, rfl, b, 3, rfl, hB6, by decide, by decide, fun n2 H7 n20 n21 d7 => Or.inl ⟨2, n2, rfl, rfl, ?_⟩⟩
    have hB7 := d7.bag hB6
    have d57 := d6.trans d7
    obtain ⟨many, hmany⟩ : ∃ many : Int, many = 2 + n2 := ⟨_, rfl⟩
    have hDm : DrawnActs many (zs.map (·.r)) := ⟨hD.ok, fun r hr' e he => by have := hD.le r hr' e he; omega, hD.few⟩
    refine ⟨b, d, zs, 2 + n1, many, by rw [hmany]; rfl, hB7, hA5.dr d57 hB5, hDm, by omega, by omega, by omega, by omega, fun c given sts H8 hC8 nc8 hl8 hr8 g0 g1 d8 => ?_⟩
    have hB8 := d8.bag hB7
    have hpl : (2 + n1 : Int) = sts.length := by omega
    rw [hpl] at hr8
    have hW8 := hW5.dr (d57.trans d8) hB5
    have hWo : WOk (normW (zs.map (·.r))) := by
      refine wok_norm hD.ok ?_ (by have := hD.few; omega) ?_
      · rw [List.map_map]
        exact hA5.nd
      · intro r hr'
        obtain ⟨z, hz, rfl⟩ := List.mem_map.mp hr'
        exact hA5.ond z hz
    have hO : CdOk (normW (zs.map (·.r))) many 1 sts := ⟨fun st hst => sta_norm (hr8 st hst).1.1, fun st hst => (hr8 st hst).2, by omega, by omega, by omega, by decide, hWo⟩
    have hl8' : sts.length ≤ 8 := by omega
    -- the Code, operations
    refine ⟨.ref b, rfl, .ref wx, rfl, .ref c, rfl, b, wx, c, d, zs.map (·.r), many, given, sts, rfl, hB8, hW8, hWo, hC8, by omega, by omega, fun st hst => (hr8 st hst).1, g0, g1, by omega, fun l x H9 hX9 nl9 d9 => ?_⟩
    have hB9 := d9.bag hB8
    refine ⟨.ref b, rfl, b, 2, rfl, hB9, by decide, by decide, fun nm xs H10 hxl hxN nn en d10 => ?_⟩
    have hN10 : Nms H10 b nm xs := ⟨en, hB9.fneq nn, by rintro rfl; simp at hxl, by omega, hxN⟩
    have hB10 := d10.bag hB9
    refine ⟨(by decide : 2 ≤ sizeLine), fun p11 np11 => ?_⟩
    have d11 : Dr b H10 (upd H10 p11 (.tup [.ref x, .ref nm])) := .new np11
    have e11 : SqT K (upd H10 p11 (.tup [.ref x, .ref nm])) p11 [.ref x, .ref nm] := .inl (.inl upd_same)
    generalize upd H10 p11 (.tup [.ref x, .ref nm]) = H11 at d11 e11 ⊢
    refine ⟨p11, _, rfl, e11, rfl, _, _, rfl, _, _, rfl, rfl, ?_⟩
    have hB11 := d11.bag hB10
    have hX11 := (hX9.at_).dr (d10.trans d11) hB9
    have hC11 := hC8.dr (d9.trans (d10.trans d11)) hB8
    have hN11 := hN10.dr d11
    refine ⟨4, rfl, by decide, by decide, ?_⟩
    refine for_range (lo := 0) (n := (4 : Int).toNat) (fun i σ H12 => ∃ (y2 y8 y9 y10 y11 y12 : Option V), σ = [some (.ref a), some (.ref b), y2, some (.ref d), some (.ref wx), some (.ref c), some (.ref x), some (.ref nm), y8, y9, y10, y11, y12, none, none] ∧ Dr b H11 H12)
      ⟨_, _, _, _, _, _, rfl, .refl⟩ (fun i σ H12 hi h12 => ?_) (fun σ H12 h12 => ?_)
    · obtain ⟨y2', y8', y9', y10', y11', y12', rfl, d12⟩ := h12
      have hB12 := d12.bag hB11
      -- terms
      refine ⟨4, rfl, by decide, by decide, fun tl ntl => ?_⟩
      have htb : tl ≠ b := hB12.fneq ntl
      refine lc_range (lo := 0) (n := (4 : Int).toNat) (fun i H13 => ∃ (vs : List V) (fs : List Tm), H13 tl = some (.lst vs) ∧ Ims K H13 vs (Tm.ds fs) ∧ fs.length = i ∧ (∀ t ∈ fs, t.ok fit ∧ t.dep ≤ 2 ∧ t.size ≤ 4) ∧ Dr b H12 H13)
        ⟨[], [], upd_same, Ims.nil, rfl, by simp, Dr.new ntl⟩ (fun i H13 hi h13 => ?_) (fun H13 h13 => ?_)
      · obtain ⟨vs, fs, e13, i13, l13, o13, d13⟩ := h13
        have hB13 := d13.bag hB12
        refine ⟨rfl, .ref b, rfl, .ref nm, rfl, .ref b, rfl, b, 3, rfl, hB13, by decide, by decide, fun j H14 j0 j1 d14 => ?_⟩
        have hN14 := hN11.dr (d12.trans (d13.trans d14))
        refine ⟨b, nm, xs, 3, j, rfl, d14.bag hB13, hN14.at_, hN14.ne, hN14.some_, hN14.few, hN14.ok, by decide, by decide, by omega, fun v t H15 ho _ hd2 him d15 => ?_⟩
        have hdt : t.dep ≤ 2 := by have := hd2 (by decide); omega
        refine ⟨(by decide : 3 ≤ sizeLine), fun p16 np16 => ?_⟩
        have m16 : Mv [] H15 (upd H15 p16 (.lst [.int 100, .int 101, .int 102])) := .new np16
        have e16 : upd H15 p16 (.lst [.int 100, .int 101, .int 102]) p16 = some (.lst [.int 100, .int 101, .int 102]) := upd_same
        generalize upd H15 p16 (.lst [.int 100, .int 101, .int 102]) = H16 at m16 e16 ⊢
        refine ⟨v, .ref p16, t, _, far, rfl, him.mv m16, ho, by omega, look_far e16, fun v' H17 m17 h17 => ?_⟩
        have d1317 : Dr b H13 H17 := d14.trans (d15.trans (.of (m16.trans m17)))
        have e17 := d1317.get htb e13
        refine ⟨_, e17, ?_, vs ++ [v'], fs ++ [t.put far], upd_same, ?_, by simp [l13], ?_, (d13.trans d1317).wr ntl⟩
        · rw [i13.length, Tm.ds_map, List.length_map, l13]
          exact small1000 (by have : (4 : Int).toNat = 4 := rfl; omega)
        · rw [show Tm.ds (fs ++ [t.put far]) = Tm.ds fs ++ [(t.put far).d] by simp [Tm.ds_map]]
          exact ((i13.mv d1317.mv).append (Ims.cons h17 Ims.nil)).mv (Mv.set (S := [tl]) e17 (by simp))
        · intro z hz
          rcases List.mem_append.mp hz with hz | hz
          · exact o13 z hz
          · rw [List.mem_singleton.mp hz]
            exact far_ok ho hdt
      obtain ⟨fv, fs, e13, i13, l13, o13, d13⟩ := h13
      have hf4 : fs.length = 4 := l13
      have hB13 := d13.bag hB12
      have d1113 := d12.trans d13
      have hC13 := hC11.dr d1113 hB11
      obtain ⟨l0, vs0, hc0, hl0, hR0⟩ := id hC13
      have hvl0 : vs0.length = sts.length := by
        have := hR0.1.length
        rwa [List.length_map] at this
      have hlb0 := hB13.ne_sta hl0 hR0.1
      -- values
      refine ⟨.ref c, rfl, c, .int many, rfl, Or.inl ⟨_, .inr "many", .inl hc0, rfl, (code_many d l0 many given).symm⟩, ?_⟩
      refine ⟨many, rfl, by omega, by omega, fun vl nvl => ?_⟩
      have hvb : vl ≠ b := hB13.fneq nvl
      have hvt : tl ≠ vl := ne_of_none e13 nvl
      refine lc_range (lo := 0) (n := many.toNat) (fun i H14 => ∃ (vs : List V) (us : List Tm), H14 vl = some (.lst vs) ∧ H14 tl = some (.lst fv) ∧ Ims K H14 vs (Tm.ds us) ∧ us.length = i ∧ (∀ t ∈ us, t.ok (fun i => 0 ≤ i ∧ i < 4) ∧ t.dep ≤ 1) ∧ Dr b H13 H14)
        ⟨[], [], upd_same, same_new nvl _ _ e13, Ims.nil, rfl, by simp, Dr.new nvl⟩ (fun i H14 hi h14 => ?_) (fun H14 h14 => ?_)
      · obtain ⟨vs, us, e14, et14, i14, l14, o14, d14⟩ := h14
        have hB14 := d14.bag hB13
        refine ⟨rfl, .ref b, rfl, .ref nm, rfl, .ref b, rfl, b, 2, rfl, hB14, by decide, by decide, fun j H15 j0 j1 d15 => ?_⟩
        have hN15 := hN11.dr (d1113.trans (d14.trans d15))
        refine ⟨b, nm, xs, 4, j, rfl, d15.bag hB14, hN15.at_, hN15.ne, hN15.some_, hN15.few, hN15.ok, by decide, by decide, by omega, fun v t H16 ho _ hd2 him d16 => ?_⟩
        have hdt : t.dep ≤ 1 := by have := hd2 (by decide); omega
        have d1416 := d15.trans d16
        have e16 := d1416.get hvb e14
        refine ⟨_, e16, ?_, vs ++ [v], us ++ [t], upd_same, ?_, ?_, by simp [l14], ?_, (d14.trans d1416).wr nvl⟩
        · rw [i14.length, Tm.ds_map, List.length_map, l14]
          exact small1000 (by omega)
        · rw [upd_ne hvt]
          exact d1416.get htb et14
        · rw [show Tm.ds (us ++ [t]) = Tm.ds us ++ [t.d] by simp [Tm.ds_map]]
          exact ((i14.mv d1416.mv).append (Ims.cons him Ims.nil)).mv (Mv.set (S := [vl]) e16 (by simp))
        · intro z hz
          rcases List.mem_append.mp hz with hz | hz
          · exact o14 z hz
          · rw [List.mem_singleton.mp hz]
            exact ⟨ho, hdt⟩
      obtain ⟨uv, us, e14, et14, i14, l14, o14, d14⟩ := h14
      have hB14 := d14.bag hB13
      have hul : (us.length : Int) = many := by omega
      have hC14 := hC13.dr d14 hB13
      have hc14 := d14.getK hB13 hc0 (fun _ z => by cases z)
      have hl14 := d14.get hlb0 hl0
      -- place
      refine ⟨.ref b, rfl, .ref c, rfl, c, .ref l0, rfl, Or.inl ⟨_, .inr "rows", .inl hc14, rfl, (code_rows d l0 many given).symm⟩, ?_⟩
      refine Or.inl ⟨l0, vs0, rfl, .inl (.inl (.inl hl14)), ?_⟩
      rw [hvl0]
      refine ⟨b, _, rfl, hB14, by omega, by omega, fun pl H15 pl0 pl1 d15 => ?_⟩
      have hB15 := d15.bag hB14
      have e15 := d15.get hvb e14
      have et15 := d15.get htb et14
      have i15 := i14.mv d15.mv
      have if15 := i13.mv (d14.trans d15).mv
      have hus : uv.length = us.length := by rw [i14.length, Tm.ds_map, List.length_map]
      refine ⟨.ref vl, rfl, vl, rfl, ?_⟩
      refine lc_seq (xs := uv) (.inl (.inl (.inl e15))) (fun i D H16 => ∃ ws, H16 D = some (.lst ws) ∧ Ims K H16 ws (Tm.ds ((us.take i).map (Tm.put (flf fs)))) ∧ Mv [] H15 H16)
        (fun D nD => ⟨[], upd_same, Ims.nil, .new nD⟩) (fun i D H16 nD h16 => h16.choose_spec.2.2) (fun D nD i y H16 hy h16 => ?_) (fun D H16 nD h16 => ?_)
      · obtain ⟨ws, e16, i16, m16⟩ := h16
        obtain ⟨yd, hyd, him⟩ := i15.get hy
        rw [Tm.ds_map, List.getElem?_map] at hyd
        obtain ⟨t, ht, rfl⟩ := Option.map_eq_some_iff.mp hyd
        have hmem := List.mem_of_getElem? ht
        have hi' := (List.getElem?_eq_some_iff.mp ht).1
        refine ⟨rfl, y, rfl, .ref tl, rfl, y, tl, fv, t, fs, rfl, him.mv m16, Tm.ok_mono (fun i hi => hi.1) t (o14 t hmem).1, by have := (o14 t hmem).2; omega, .inl (.inl (m16.same _ _ et15)), if15.mv m16, hf4, fun v' H17 m17 h17 => ?_⟩
        have e17 := m17.same _ _ e16
        refine ⟨_, e17, ?_, ws ++ [v'], upd_same, ?_, (m16.trans m17).wr nD⟩
        · rw [i16.length, Tm.ds_map, List.length_map, List.length_map, List.length_take]
          exact small1000 (by omega)
        · rw [List.take_add_one, ht]
          rw [show Tm.ds (List.map (Tm.put (flf fs)) (us.take i ++ (some t).toList)) = Tm.ds ((us.take i).map (Tm.put (flf fs))) ++ [(t.put (flf fs)).d] by simp [Tm.ds_map]]
          exact ((i16.mv m17).append (Ims.cons h17 Ims.nil)).mv (Mv.set (S := [D]) e17 (by simp))
      obtain ⟨wv, e16, i16, m16⟩ := h16
      rw [hus, List.take_length] at i16
      refine ⟨_, _, rfl, ?_⟩
      -- both frames
      have e16v := m16.same _ _ e15
      refine ⟨.ref b, rfl, .ref x, rfl, .ref c, rfl, .int pl, rfl, .ref vl, rfl, ?_⟩
      walk_at "nc"
      refine rd_tupOf (.inl (.inl e16v)) fun p17 H17 m17 e17 => ?_
      refine ⟨(by decide : 2 ≤ sizeLine), fun p18 np18 => ?_⟩
      have m18 : Mv [] H17 (upd H17 p18 (.tup [.int pl, .ref p17])) := .new np18
      have i18 : Im K (upd H17 p18 (.tup [.int pl, .ref p17])) (.ref p18) (frD pl us) := .tup (.inl (.inl upd_same)) (.cons (.int _) (.cons (.tup (m18.sqT e17) (((i15.mv m16).mv m17).mv m18)) .nil))
      generalize upd H17 p18 (.tup [.int pl, .ref p17]) = H18 at m18 i18 ⊢
      have m1618 := m17.trans m18
      refine ⟨.int pl, rfl, .ref D, rfl, ?_⟩
      walk_at "nc"
      refine rd_tupOf (.inl (.inl (m1618.same _ _ e16))) fun p19 H19 m19 e19 => ?_
      refine ⟨(by decide : 2 ≤ sizeLine), fun p20 np20 => ?_⟩
      have m20 : Mv [] H19 (upd H19 p20 (.tup [.int pl, .ref p19])) := .new np20
      have i20 : Im K (upd H19 p20 (.tup [.int pl, .ref p19])) (.ref p20) (frD pl (us.map (Tm.put (flf fs)))) := .tup (.inl (.inl upd_same)) (.cons (.int _) (.cons (.tup (m20.sqT e19) (((i16.mv m1618).mv m19).mv m20)) .nil))
      generalize upd H19 p20 (.tup [.int pl, .ref p19]) = H20 at m20 i20 ⊢
      have m1820 := m19.trans m20
      have m1520 := m16.trans (m1618.trans m1820)
      have d1120 : Dr b H11 H20 := d1113.trans (d14.trans (d15.trans (.of m1520)))
      have d1520 : Dr b H15 H20 := .of m1520
      have hoks : Tm.oks (fun i => 0 ≤ i ∧ i < 4) us := Tm.oks_iff.mpr fun t ht => (o14 t ht).1
      have hdps : Tm.deps us ≤ 1 := Tm.deps_le.mpr fun t ht => (o14 t ht).2
      obtain ⟨sz1, sz2⟩ := sub_sizes hf4 (fun t ht => (o13 t ht).2.2) us hoks hdps
      have hFr : FrA sts many (flf fs) 0 pl us := ⟨pl0, pl1, hul, Tm.oks_mono (fun i hi => ⟨hi.1, fit_of (many := 4) (by decide) hi⟩) us hoks, by omega, by omega, by omega⟩
      refine ⟨.ref tl, rfl, b, x, wx, c, d, tl, normW (zs.map (·.r)), many, given, sts, pl, us, fs, .ref p18, .ref p20, fv, rfl, d1120.bag hB11, hX11.dr d1120 hB11, hC11.dr d1120 hB11, hO, hl8', d1520.get htb et15, htb, if15.mv m1520, hf4, Tm.oks_iff.mpr fun t ht => (o13 t ht).1, Tm.deps_le.mpr fun t ht => (o13 t ht).2.1, hFr, i18.mv m1820, i20, fun H21 d21 => ?_⟩
      exact ⟨true, rfl, _, _, _, _, _, _, rfl, d1120.trans d21⟩
    · obtain ⟨y2', y8', y9', y10', y11', y12', rfl, d12⟩ := h12
      exact ⟨_, _, _, _, _, _, _, _, _, _, _, rfl, d12.bag hB11⟩
end
end Fm
namespace Fm
open PySem PySem.Spec PyProof.Rows L2 SlX
section
variable {l : PySem.W.OpenLaw} {w : World} {K : PySem.W.Frag} {mg : Str → Option Value} {fa : Addr}
theorem all_mk {h : Heap} (X : K.In h) (G : h.Ns mainGlobals mg) (hfa : mg "law" = some (.ref fa))
    {f0 : Addr} {od0 an0 : Option Addr} {sl0 : Array (Option Value)} {oc0 kV0 dc0 pm0 cd0 ct0 : Value}
    (a0 : PySem.W.nsIn K mainGlobals "put" = some (some (.ref f0))) (l0 : K.lookup f0 = some ⟨oc0, od0, .func (PySem.W.fnOf "put" "put" (defArgs s_put) (defBody s_put) (defScope s_put) .none kV0 dc0 pm0 an0 cd0 ct0), sl0⟩) (c0 : PySem.W.codeIn K cd0 "put" = true) (k0 : PySem.W.keepIn K (.ref f0) = true)
    {f1 : Addr} {od1 an1 : Option Addr} {sl1 : Array (Option Value)} {oc1 kV1 dc1 pm1 cd1 ct1 : Value}
    (a1 : PySem.W.nsIn K mainGlobals "put_all" = some (some (.ref f1))) (l1 : K.lookup f1 = some ⟨oc1, od1, .func (PySem.W.fnOf "put_all" "put_all" (defArgs s_put_all) (defBody s_put_all) (defScope s_put_all) .none kV1 dc1 pm1 an1 cd1 ct1), sl1⟩) (c1 : PySem.W.codeIn K cd1 "put_all" = true) (k1 : PySem.W.keepIn K (.ref f1) = true)
    {f2 : Addr} {od2 an2 : Option Addr} {sl2 : Array (Option Value)} {oc2 kV2 dc2 pm2 cd2 ct2 : Value}
    (a2 : PySem.W.nsIn K mainGlobals "size" = some (some (.ref f2))) (l2 : K.lookup f2 = some ⟨oc2, od2, .func (PySem.W.fnOf "size" "size" (defArgs s_size) (defBody s_size) (defScope s_size) .none kV2 dc2 pm2 an2 cd2 ct2), sl2⟩) (c2 : PySem.W.codeIn K cd2 "size" = true) (k2 : PySem.W.keepIn K (.ref f2) = true)
    {f3 : Addr} {od3 an3 : Option Addr} {sl3 : Array (Option Value)} {oc3 kV3 dc3 pm3 cd3 ct3 : Value}
    (a3 : PySem.W.nsIn K mainGlobals "leaves" = some (some (.ref f3))) (l3 : K.lookup f3 = some ⟨oc3, od3, .func (PySem.W.fnOf "leaves" "leaves" (defArgs s_leaves) (defBody s_leaves) (defScope s_leaves) .none kV3 dc3 pm3 an3 cd3 ct3), sl3⟩) (c3 : PySem.W.codeIn K cd3 "leaves" = true) (k3 : PySem.W.keepIn K (.ref f3) = true)
    {f4 : Addr} {od4 an4 : Option Addr} {sl4 : Array (Option Value)} {oc4 kV4 dc4 pm4 cd4 ct4 : Value}
    (a4 : PySem.W.nsIn K mainGlobals "size_put" = some (some (.ref f4))) (l4 : K.lookup f4 = some ⟨oc4, od4, .func (PySem.W.fnOf "size_put" "size_put" (defArgs s_size_put) (defBody s_size_put) (defScope s_size_put) .none kV4 dc4 pm4 an4 cd4 ct4), sl4⟩) (c4 : PySem.W.codeIn K cd4 "size_put" = true) (k4 : PySem.W.keepIn K (.ref f4) = true)
    {f5 : Addr} {od5 an5 : Option Addr} {sl5 : Array (Option Value)} {oc5 kV5 dc5 pm5 cd5 ct5 : Value}
    (a5 : PySem.W.nsIn K mainGlobals "changed" = some (some (.ref f5))) (l5 : K.lookup f5 = some ⟨oc5, od5, .func (PySem.W.fnOf "changed" "changed" (defArgs s_changed) (defBody s_changed) (defScope s_changed) .none kV5 dc5 pm5 an5 cd5 ct5), sl5⟩) (c5 : PySem.W.codeIn K cd5 "changed" = true) (k5 : PySem.W.keepIn K (.ref f5) = true)
    {f6 : Addr} {od6 an6 : Option Addr} {sl6 : Array (Option Value)} {oc6 kV6 dc6 pm6 cd6 ct6 : Value}
    (a6 : PySem.W.nsIn K mainGlobals "after_set" = some (some (.ref f6))) (l6 : K.lookup f6 = some ⟨oc6, od6, .func (PySem.W.fnOf "after_set" "after_set" (defArgs s_after_set) (defBody s_after_set) (defScope s_after_set) .none kV6 dc6 pm6 an6 cd6 ct6), sl6⟩) (c6 : PySem.W.codeIn K cd6 "after_set" = true) (k6 : PySem.W.keepIn K (.ref f6) = true)
    {f7 : Addr} {od7 an7 : Option Addr} {sl7 : Array (Option Value)} {oc7 kV7 dc7 pm7 cd7 ct7 : Value}
    (a7 : PySem.W.nsIn K mainGlobals "onward" = some (some (.ref f7))) (l7 : K.lookup f7 = some ⟨oc7, od7, .func (PySem.W.fnOf "onward" "onward" (defArgs s_onward) (defBody s_onward) (defScope s_onward) .none kV7 dc7 pm7 an7 cd7 ct7), sl7⟩) (c7 : PySem.W.codeIn K cd7 "onward" = true) (k7 : PySem.W.keepIn K (.ref f7) = true)
    {f8 : Addr} {od8 an8 : Option Addr} {sl8 : Array (Option Value)} {oc8 kV8 dc8 pm8 cd8 ct8 : Value}
    (a8 : PySem.W.nsIn K mainGlobals "head" = some (some (.ref f8))) (l8 : K.lookup f8 = some ⟨oc8, od8, .func (PySem.W.fnOf "head" "head" (defArgs s_head) (defBody s_head) (defScope s_head) .none kV8 dc8 pm8 an8 cd8 ct8), sl8⟩) (c8 : PySem.W.codeIn K cd8 "head" = true) (k8 : PySem.W.keepIn K (.ref f8) = true)
    {f9 : Addr} {od9 an9 : Option Addr} {sl9 : Array (Option Value)} {oc9 kV9 dc9 pm9 cd9 ct9 : Value}
    (a9 : PySem.W.nsIn K mainGlobals "answered" = some (some (.ref f9))) (l9 : K.lookup f9 = some ⟨oc9, od9, .func (PySem.W.fnOf "answered" "answered" (defArgs s_answered) (defBody s_answered) (defScope s_answered) .none kV9 dc9 pm9 an9 cd9 ct9), sl9⟩) (c9 : PySem.W.codeIn K cd9 "answered" = true) (k9 : PySem.W.keepIn K (.ref f9) = true)
    {f10 : Addr} {od10 an10 : Option Addr} {sl10 : Array (Option Value)} {oc10 kV10 dc10 pm10 cd10 ct10 : Value}
    (a10 : PySem.W.nsIn K mainGlobals "is_integer" = some (some (.ref f10))) (l10 : K.lookup f10 = some ⟨oc10, od10, .func (PySem.W.fnOf "is_integer" "is_integer" (defArgs s_is_integer) (defBody s_is_integer) (defScope s_is_integer) .none kV10 dc10 pm10 an10 cd10 ct10), sl10⟩) (c10 : PySem.W.codeIn K cd10 "is_integer" = true) (k10 : PySem.W.keepIn K (.ref f10) = true)
    {f11 : Addr} {od11 an11 : Option Addr} {sl11 : Array (Option Value)} {oc11 kV11 dc11 pm11 cd11 ct11 : Value}
    (a11 : PySem.W.nsIn K mainGlobals "is_name" = some (some (.ref f11))) (l11 : K.lookup f11 = some ⟨oc11, od11, .func (PySem.W.fnOf "is_name" "is_name" (defArgs s_is_name) (defBody s_is_name) (defScope s_is_name) .none kV11 dc11 pm11 an11 cd11 ct11), sl11⟩) (c11 : PySem.W.codeIn K cd11 "is_name" = true) (k11 : PySem.W.keepIn K (.ref f11) = true)
    {f12 : Addr} {od12 an12 : Option Addr} {sl12 : Array (Option Value)} {oc12 kV12 dc12 pm12 cd12 ct12 : Value}
    (a12 : PySem.W.nsIn K mainGlobals "is_outcome" = some (some (.ref f12))) (l12 : K.lookup f12 = some ⟨oc12, od12, .func (PySem.W.fnOf "is_outcome" "is_outcome" (defArgs s_is_outcome) (defBody s_is_outcome) (defScope s_is_outcome) .none kV12 dc12 pm12 an12 cd12 ct12), sl12⟩) (c12 : PySem.W.codeIn K cd12 "is_outcome" = true) (k12 : PySem.W.keepIn K (.ref f12) = true)
    {f13 : Addr} {od13 an13 : Option Addr} {sl13 : Array (Option Value)} {oc13 kV13 dc13 pm13 cd13 ct13 : Value}
    (a13 : PySem.W.nsIn K mainGlobals "is_term" = some (some (.ref f13))) (l13 : K.lookup f13 = some ⟨oc13, od13, .func (PySem.W.fnOf "is_term" "is_term" (defArgs s_is_term) (defBody s_is_term) (defScope s_is_term) .none kV13 dc13 pm13 an13 cd13 ct13), sl13⟩) (c13 : PySem.W.codeIn K cd13 "is_term" = true) (k13 : PySem.W.keepIn K (.ref f13) = true)
    {f14 : Addr} {od14 an14 : Option Addr} {sl14 : Array (Option Value)} {oc14 kV14 dc14 pm14 cd14 ct14 : Value}
    (a14 : PySem.W.nsIn K mainGlobals "is_term_over" = some (some (.ref f14))) (l14 : K.lookup f14 = some ⟨oc14, od14, .func (PySem.W.fnOf "is_term_over" "is_term_over" (defArgs s_is_term_over) (defBody s_is_term_over) (defScope s_is_term_over) .none kV14 dc14 pm14 an14 cd14 ct14), sl14⟩) (c14 : PySem.W.codeIn K cd14 "is_term_over" = true) (k14 : PySem.W.keepIn K (.ref f14) = true)
    {f15 : Addr} {od15 an15 : Option Addr} {sl15 : Array (Option Value)} {oc15 kV15 dc15 pm15 cd15 ct15 : Value}
    (a15 : PySem.W.nsIn K mainGlobals "is_within" = some (some (.ref f15))) (l15 : K.lookup f15 = some ⟨oc15, od15, .func (PySem.W.fnOf "is_within" "is_within" (defArgs s_is_within) (defBody s_is_within) (defScope s_is_within) .none kV15 dc15 pm15 an15 cd15 ct15), sl15⟩) (c15 : PySem.W.codeIn K cd15 "is_within" = true) (k15 : PySem.W.keepIn K (.ref f15) = true)
    {f16 : Addr} {od16 an16 : Option Addr} {sl16 : Array (Option Value)} {oc16 kV16 dc16 pm16 cd16 ct16 : Value}
    (a16 : PySem.W.nsIn K mainGlobals "are_outcomes" = some (some (.ref f16))) (l16 : K.lookup f16 = some ⟨oc16, od16, .func (PySem.W.fnOf "are_outcomes" "are_outcomes" (defArgs s_are_outcomes) (defBody s_are_outcomes) (defScope s_are_outcomes) .none kV16 dc16 pm16 an16 cd16 ct16), sl16⟩) (c16 : PySem.W.codeIn K cd16 "are_outcomes" = true) (k16 : PySem.W.keepIn K (.ref f16) = true)
    {f17 : Addr} {od17 an17 : Option Addr} {sl17 : Array (Option Value)} {oc17 kV17 dc17 pm17 cd17 ct17 : Value}
    (a17 : PySem.W.nsIn K mainGlobals "is_act" = some (some (.ref f17))) (l17 : K.lookup f17 = some ⟨oc17, od17, .func (PySem.W.fnOf "is_act" "is_act" (defArgs s_is_act) (defBody s_is_act) (defScope s_is_act) .none kV17 dc17 pm17 an17 cd17 ct17), sl17⟩) (c17 : PySem.W.codeIn K cd17 "is_act" = true) (k17 : PySem.W.keepIn K (.ref f17) = true)
    {f18 : Addr} {od18 an18 : Option Addr} {sl18 : Array (Option Value)} {oc18 kV18 dc18 pm18 cd18 ct18 : Value}
    (a18 : PySem.W.nsIn K mainGlobals "are_different" = some (some (.ref f18))) (l18 : K.lookup f18 = some ⟨oc18, od18, .func (PySem.W.fnOf "are_different" "are_different" (defArgs s_are_different) (defBody s_are_different) (defScope s_are_different) .none kV18 dc18 pm18 an18 cd18 ct18), sl18⟩) (c18 : PySem.W.codeIn K cd18 "are_different" = true) (k18 : PySem.W.keepIn K (.ref f18) = true)
    {f19 : Addr} {od19 an19 : Option Addr} {sl19 : Array (Option Value)} {oc19 kV19 dc19 pm19 cd19 ct19 : Value}
    (a19 : PySem.W.nsIn K mainGlobals "are_terms_over" = some (some (.ref f19))) (l19 : K.lookup f19 = some ⟨oc19, od19, .func (PySem.W.fnOf "are_terms_over" "are_terms_over" (defArgs s_are_terms_over) (defBody s_are_terms_over) (defScope s_are_terms_over) .none kV19 dc19 pm19 an19 cd19 ct19), sl19⟩) (c19 : PySem.W.codeIn K cd19 "are_terms_over" = true) (k19 : PySem.W.keepIn K (.ref f19) = true)
    {f20 : Addr} {od20 an20 : Option Addr} {sl20 : Array (Option Value)} {oc20 kV20 dc20 pm20 cd20 ct20 : Value}
    (a20 : PySem.W.nsIn K mainGlobals "is_place" = some (some (.ref f20))) (l20 : K.lookup f20 = some ⟨oc20, od20, .func (PySem.W.fnOf "is_place" "is_place" (defArgs s_is_place) (defBody s_is_place) (defScope s_is_place) .none kV20 dc20 pm20 an20 cd20 ct20), sl20⟩) (c20 : PySem.W.codeIn K cd20 "is_place" = true) (k20 : PySem.W.keepIn K (.ref f20) = true)
    {f21 : Addr} {od21 an21 : Option Addr} {sl21 : Array (Option Value)} {oc21 kV21 dc21 pm21 cd21 ct21 : Value}
    (a21 : PySem.W.nsIn K mainGlobals "is_pair" = some (some (.ref f21))) (l21 : K.lookup f21 = some ⟨oc21, od21, .func (PySem.W.fnOf "is_pair" "is_pair" (defArgs s_is_pair) (defBody s_is_pair) (defScope s_is_pair) .none kV21 dc21 pm21 an21 cd21 ct21), sl21⟩) (c21 : PySem.W.codeIn K cd21 "is_pair" = true) (k21 : PySem.W.keepIn K (.ref f21) = true)
    {f22 : Addr} {od22 an22 : Option Addr} {sl22 : Array (Option Value)} {oc22 kV22 dc22 pm22 cd22 ct22 : Value}
    (a22 : PySem.W.nsIn K mainGlobals "is_set" = some (some (.ref f22))) (l22 : K.lookup f22 = some ⟨oc22, od22, .func (PySem.W.fnOf "is_set" "is_set" (defArgs s_is_set) (defBody s_is_set) (defScope s_is_set) .none kV22 dc22 pm22 an22 cd22 ct22), sl22⟩) (c22 : PySem.W.codeIn K cd22 "is_set" = true) (k22 : PySem.W.keepIn K (.ref f22) = true)
    {f23 : Addr} {od23 an23 : Option Addr} {sl23 : Array (Option Value)} {oc23 kV23 dc23 pm23 cd23 ct23 : Value}
    (a23 : PySem.W.nsIn K mainGlobals "is_way" = some (some (.ref f23))) (l23 : K.lookup f23 = some ⟨oc23, od23, .func (PySem.W.fnOf "is_way" "is_way" (defArgs s_is_way) (defBody s_is_way) (defScope s_is_way) .none kV23 dc23 pm23 an23 cd23 ct23), sl23⟩) (c23 : PySem.W.codeIn K cd23 "is_way" = true) (k23 : PySem.W.keepIn K (.ref f23) = true)
    {f24 : Addr} {od24 an24 : Option Addr} {sl24 : Array (Option Value)} {oc24 kV24 dc24 pm24 cd24 ct24 : Value}
    (a24 : PySem.W.nsIn K mainGlobals "is_ask" = some (some (.ref f24))) (l24 : K.lookup f24 = some ⟨oc24, od24, .func (PySem.W.fnOf "is_ask" "is_ask" (defArgs s_is_ask) (defBody s_is_ask) (defScope s_is_ask) .none kV24 dc24 pm24 an24 cd24 ct24), sl24⟩) (c24 : PySem.W.codeIn K cd24 "is_ask" = true) (k24 : PySem.W.keepIn K (.ref f24) = true)
    {f25 : Addr} {od25 an25 : Option Addr} {sl25 : Array (Option Value)} {oc25 kV25 dc25 pm25 cd25 ct25 : Value}
    (a25 : PySem.W.nsIn K mainGlobals "is_end" = some (some (.ref f25))) (l25 : K.lookup f25 = some ⟨oc25, od25, .func (PySem.W.fnOf "is_end" "is_end" (defArgs s_is_end) (defBody s_is_end) (defScope s_is_end) .none kV25 dc25 pm25 an25 cd25 ct25), sl25⟩) (c25 : PySem.W.codeIn K cd25 "is_end" = true) (k25 : PySem.W.keepIn K (.ref f25) = true)
    {f26 : Addr} {od26 an26 : Option Addr} {sl26 : Array (Option Value)} {oc26 kV26 dc26 pm26 cd26 ct26 : Value}
    (a26 : PySem.W.nsIn K mainGlobals "is_statement" = some (some (.ref f26))) (l26 : K.lookup f26 = some ⟨oc26, od26, .func (PySem.W.fnOf "is_statement" "is_statement" (defArgs s_is_statement) (defBody s_is_statement) (defScope s_is_statement) .none kV26 dc26 pm26 an26 cd26 ct26), sl26⟩) (c26 : PySem.W.codeIn K cd26 "is_statement" = true) (k26 : PySem.W.keepIn K (.ref f26) = true)
    {f27 : Addr} {od27 an27 : Option Addr} {sl27 : Array (Option Value)} {oc27 kV27 dc27 pm27 cd27 ct27 : Value}
    (a27 : PySem.W.nsIn K mainGlobals "ordered" = some (some (.ref f27))) (l27 : K.lookup f27 = some ⟨oc27, od27, .func (PySem.W.fnOf "ordered" "ordered" (defArgs s_ordered) (defBody s_ordered) (defScope s_ordered) .none kV27 dc27 pm27 an27 cd27 ct27), sl27⟩) (c27 : PySem.W.codeIn K cd27 "ordered" = true) (k27 : PySem.W.keepIn K (.ref f27) = true)
    {f28 : Addr} {od28 an28 : Option Addr} {sl28 : Array (Option Value)} {oc28 kV28 dc28 pm28 cd28 ct28 : Value}
    (a28 : PySem.W.nsIn K mainGlobals "first_of" = some (some (.ref f28))) (l28 : K.lookup f28 = some ⟨oc28, od28, .func (PySem.W.fnOf "first_of" "first_of" (defArgs s_first_of) (defBody s_first_of) (defScope s_first_of) .none kV28 dc28 pm28 an28 cd28 ct28), sl28⟩) (c28 : PySem.W.codeIn K cd28 "first_of" = true) (k28 : PySem.W.keepIn K (.ref f28) = true)
    {f29 : Addr} {od29 an29 : Option Addr} {sl29 : Array (Option Value)} {oc29 kV29 dc29 pm29 cd29 ct29 : Value}
    (a29 : PySem.W.nsIn K mainGlobals "_law_bag" = some (some (.ref f29))) (l29 : K.lookup f29 = some ⟨oc29, od29, .func (PySem.W.fnOf "_law_bag" "_law_bag" (defArgs s__law_bag) (defBody s__law_bag) (defScope s__law_bag) .none kV29 dc29 pm29 an29 cd29 ct29), sl29⟩) (c29 : PySem.W.codeIn K cd29 "_law_bag" = true) (k29 : PySem.W.keepIn K (.ref f29) = true)
    {f30 : Addr} {od30 an30 : Option Addr} {sl30 : Array (Option Value)} {oc30 kV30 dc30 pm30 cd30 ct30 : Value}
    (a30 : PySem.W.nsIn K mainGlobals "_law_take" = some (some (.ref f30))) (l30 : K.lookup f30 = some ⟨oc30, od30, .func (PySem.W.fnOf "_law_take" "_law_take" (defArgs s__law_take) (defBody s__law_take) (defScope s__law_take) .none kV30 dc30 pm30 an30 cd30 ct30), sl30⟩) (c30 : PySem.W.codeIn K cd30 "_law_take" = true) (k30 : PySem.W.keepIn K (.ref f30) = true)
    {f31 : Addr} {od31 an31 : Option Addr} {sl31 : Array (Option Value)} {oc31 kV31 dc31 pm31 cd31 ct31 : Value}
    (a31 : PySem.W.nsIn K mainGlobals "_law_alike" = some (some (.ref f31))) (l31 : K.lookup f31 = some ⟨oc31, od31, .func (PySem.W.fnOf "_law_alike" "_law_alike" (defArgs s__law_alike) (defBody s__law_alike) (defScope s__law_alike) .none kV31 dc31 pm31 an31 cd31 ct31), sl31⟩) (c31 : PySem.W.codeIn K cd31 "_law_alike" = true) (k31 : PySem.W.keepIn K (.ref f31) = true)
    {f32 : Addr} {od32 an32 : Option Addr} {sl32 : Array (Option Value)} {oc32 kV32 dc32 pm32 cd32 ct32 : Value}
    (a32 : PySem.W.nsIn K mainGlobals "_law_mixed" = some (some (.ref f32))) (l32 : K.lookup f32 = some ⟨oc32, od32, .func (PySem.W.fnOf "_law_mixed" "_law_mixed" (defArgs s__law_mixed) (defBody s__law_mixed) (defScope s__law_mixed) .none kV32 dc32 pm32 an32 cd32 ct32), sl32⟩) (c32 : PySem.W.codeIn K cd32 "_law_mixed" = true) (k32 : PySem.W.keepIn K (.ref f32) = true)
    {f33 : Addr} {od33 an33 : Option Addr} {sl33 : Array (Option Value)} {oc33 kV33 dc33 pm33 cd33 ct33 : Value}
    (a33 : PySem.W.nsIn K mainGlobals "_law_names" = some (some (.ref f33))) (l33 : K.lookup f33 = some ⟨oc33, od33, .func (PySem.W.fnOf "_law_names" "_law_names" (defArgs s__law_names) (defBody s__law_names) (defScope s__law_names) .none kV33 dc33 pm33 an33 cd33 ct33), sl33⟩) (c33 : PySem.W.codeIn K cd33 "_law_names" = true) (k33 : PySem.W.keepIn K (.ref f33) = true)
    {f34 : Addr} {od34 an34 : Option Addr} {sl34 : Array (Option Value)} {oc34 kV34 dc34 pm34 cd34 ct34 : Value}
    (a34 : PySem.W.nsIn K mainGlobals "_law_term" = some (some (.ref f34))) (l34 : K.lookup f34 = some ⟨oc34, od34, .func (PySem.W.fnOf "_law_term" "_law_term" (defArgs s__law_term) (defBody s__law_term) (defScope s__law_term) .none kV34 dc34 pm34 an34 cd34 ct34), sl34⟩) (c34 : PySem.W.codeIn K cd34 "_law_term" = true) (k34 : PySem.W.keepIn K (.ref f34) = true)
    {f35 : Addr} {od35 an35 : Option Addr} {sl35 : Array (Option Value)} {oc35 kV35 dc35 pm35 cd35 ct35 : Value}
    (a35 : PySem.W.nsIn K mainGlobals "_law_put" = some (some (.ref f35))) (l35 : K.lookup f35 = some ⟨oc35, od35, .func (PySem.W.fnOf "_law_put" "_law_put" (defArgs s__law_put) (defBody s__law_put) (defScope s__law_put) .none kV35 dc35 pm35 an35 cd35 ct35), sl35⟩) (c35 : PySem.W.codeIn K cd35 "_law_put" = true) (k35 : PySem.W.keepIn K (.ref f35) = true)
    {f36 : Addr} {od36 an36 : Option Addr} {sl36 : Array (Option Value)} {oc36 kV36 dc36 pm36 cd36 ct36 : Value}
    (a36 : PySem.W.nsIn K mainGlobals "_law_leaves" = some (some (.ref f36))) (l36 : K.lookup f36 = some ⟨oc36, od36, .func (PySem.W.fnOf "_law_leaves" "_law_leaves" (defArgs s__law_leaves) (defBody s__law_leaves) (defScope s__law_leaves) .none kV36 dc36 pm36 an36 cd36 ct36), sl36⟩) (c36 : PySem.W.codeIn K cd36 "_law_leaves" = true) (k36 : PySem.W.keepIn K (.ref f36) = true)
    {f37 : Addr} {od37 an37 : Option Addr} {sl37 : Array (Option Value)} {oc37 kV37 dc37 pm37 cd37 ct37 : Value}
    (a37 : PySem.W.nsIn K mainGlobals "_law_size" = some (some (.ref f37))) (l37 : K.lookup f37 = some ⟨oc37, od37, .func (PySem.W.fnOf "_law_size" "_law_size" (defArgs s__law_size) (defBody s__law_size) (defScope s__law_size) .none kV37 dc37 pm37 an37 cd37 ct37), sl37⟩) (c37 : PySem.W.codeIn K cd37 "_law_size" = true) (k37 : PySem.W.keepIn K (.ref f37) = true)
    {f38 : Addr} {od38 an38 : Option Addr} {sl38 : Array (Option Value)} {oc38 kV38 dc38 pm38 cd38 ct38 : Value}
    (a38 : PySem.W.nsIn K mainGlobals "_law_acts" = some (some (.ref f38))) (l38 : K.lookup f38 = some ⟨oc38, od38, .func (PySem.W.fnOf "_law_acts" "_law_acts" (defArgs s__law_acts) (defBody s__law_acts) (defScope s__law_acts) .none kV38 dc38 pm38 an38 cd38 ct38), sl38⟩) (c38 : PySem.W.codeIn K cd38 "_law_acts" = true) (k38 : PySem.W.keepIn K (.ref f38) = true)
    {f39 : Addr} {od39 an39 : Option Addr} {sl39 : Array (Option Value)} {oc39 kV39 dc39 pm39 cd39 ct39 : Value}
    (a39 : PySem.W.nsIn K mainGlobals "_law_world_of" = some (some (.ref f39))) (l39 : K.lookup f39 = some ⟨oc39, od39, .func (PySem.W.fnOf "_law_world_of" "_law_world_of" (defArgs s__law_world_of) (defBody s__law_world_of) (defScope s__law_world_of) .none kV39 dc39 pm39 an39 cd39 ct39), sl39⟩) (c39 : PySem.W.codeIn K cd39 "_law_world_of" = true) (k39 : PySem.W.keepIn K (.ref f39) = true)
    {f40 : Addr} {od40 an40 : Option Addr} {sl40 : Array (Option Value)} {oc40 kV40 dc40 pm40 cd40 ct40 : Value}
    (a40 : PySem.W.nsIn K mainGlobals "_law_goal" = some (some (.ref f40))) (l40 : K.lookup f40 = some ⟨oc40, od40, .func (PySem.W.fnOf "_law_goal" "_law_goal" (defArgs s__law_goal) (defBody s__law_goal) (defScope s__law_goal) .none kV40 dc40 pm40 an40 cd40 ct40), sl40⟩) (c40 : PySem.W.codeIn K cd40 "_law_goal" = true) (k40 : PySem.W.keepIn K (.ref f40) = true)
    {f41 : Addr} {od41 an41 : Option Addr} {sl41 : Array (Option Value)} {oc41 kV41 dc41 pm41 cd41 ct41 : Value}
    (a41 : PySem.W.nsIn K mainGlobals "_law_ask" = some (some (.ref f41))) (l41 : K.lookup f41 = some ⟨oc41, od41, .func (PySem.W.fnOf "_law_ask" "_law_ask" (defArgs s__law_ask) (defBody s__law_ask) (defScope s__law_ask) .none kV41 dc41 pm41 an41 cd41 ct41), sl41⟩) (c41 : PySem.W.codeIn K cd41 "_law_ask" = true) (k41 : PySem.W.keepIn K (.ref f41) = true)
    {f42 : Addr} {od42 an42 : Option Addr} {sl42 : Array (Option Value)} {oc42 kV42 dc42 pm42 cd42 ct42 : Value}
    (a42 : PySem.W.nsIn K mainGlobals "_law_line" = some (some (.ref f42))) (l42 : K.lookup f42 = some ⟨oc42, od42, .func (PySem.W.fnOf "_law_line" "_law_line" (defArgs s__law_line) (defBody s__law_line) (defScope s__law_line) .none kV42 dc42 pm42 an42 cd42 ct42), sl42⟩) (c42 : PySem.W.codeIn K cd42 "_law_line" = true) (k42 : PySem.W.keepIn K (.ref f42) = true)
    {f43 : Addr} {od43 an43 : Option Addr} {sl43 : Array (Option Value)} {oc43 kV43 dc43 pm43 cd43 ct43 : Value}
    (a43 : PySem.W.nsIn K mainGlobals "_law_code" = some (some (.ref f43))) (l43 : K.lookup f43 = some ⟨oc43, od43, .func (PySem.W.fnOf "_law_code" "_law_code" (defArgs s__law_code) (defBody s__law_code) (defScope s__law_code) .none kV43 dc43 pm43 an43 cd43 ct43), sl43⟩) (c43 : PySem.W.codeIn K cd43 "_law_code" = true) (k43 : PySem.W.keepIn K (.ref f43) = true)
    {f44 : Addr} {od44 an44 : Option Addr} {sl44 : Array (Option Value)} {oc44 kV44 dc44 pm44 cd44 ct44 : Value}
    (a44 : PySem.W.nsIn K mainGlobals "_law_code_of" = some (some (.ref f44))) (l44 : K.lookup f44 = some ⟨oc44, od44, .func (PySem.W.fnOf "_law_code_of" "_law_code_of" (defArgs s__law_code_of) (defBody s__law_code_of) (defScope s__law_code_of) .none kV44 dc44 pm44 an44 cd44 ct44), sl44⟩) (c44 : PySem.W.codeIn K cd44 "_law_code_of" = true) (k44 : PySem.W.keepIn K (.ref f44) = true)
    {f45 : Addr} {od45 an45 : Option Addr} {sl45 : Array (Option Value)} {oc45 kV45 dc45 pm45 cd45 ct45 : Value}
    (a45 : PySem.W.nsIn K mainGlobals "_law_showing" = some (some (.ref f45))) (l45 : K.lookup f45 = some ⟨oc45, od45, .func (PySem.W.fnOf "_law_showing" "_law_showing" (defArgs s__law_showing) (defBody s__law_showing) (defScope s__law_showing) .none kV45 dc45 pm45 an45 cd45 ct45), sl45⟩) (c45 : PySem.W.codeIn K cd45 "_law_showing" = true) (k45 : PySem.W.keepIn K (.ref f45) = true)
    {f46 : Addr} {od46 an46 : Option Addr} {sl46 : Array (Option Value)} {oc46 kV46 dc46 pm46 cd46 ct46 : Value}
    (a46 : PySem.W.nsIn K mainGlobals "_law_grown" = some (some (.ref f46))) (l46 : K.lookup f46 = some ⟨oc46, od46, .func (PySem.W.fnOf "_law_grown" "_law_grown" (defArgs s__law_grown) (defBody s__law_grown) (defScope s__law_grown) .none kV46 dc46 pm46 an46 cd46 ct46), sl46⟩) (c46 : PySem.W.codeIn K cd46 "_law_grown" = true) (k46 : PySem.W.keepIn K (.ref f46) = true)
    {f47 : Addr} {od47 an47 : Option Addr} {sl47 : Array (Option Value)} {oc47 kV47 dc47 pm47 cd47 ct47 : Value}
    (a47 : PySem.W.nsIn K mainGlobals "_law_changed" = some (some (.ref f47))) (l47 : K.lookup f47 = some ⟨oc47, od47, .func (PySem.W.fnOf "_law_changed" "_law_changed" (defArgs s__law_changed) (defBody s__law_changed) (defScope s__law_changed) .none kV47 dc47 pm47 an47 cd47 ct47), sl47⟩) (c47 : PySem.W.codeIn K cd47 "_law_changed" = true) (k47 : PySem.W.keepIn K (.ref f47) = true)
    {f48 : Addr} {od48 an48 : Option Addr} {sl48 : Array (Option Value)} {oc48 kV48 dc48 pm48 cd48 ct48 : Value}
    (a48 : PySem.W.nsIn K mainGlobals "_law_onward" = some (some (.ref f48))) (l48 : K.lookup f48 = some ⟨oc48, od48, .func (PySem.W.fnOf "_law_onward" "_law_onward" (defArgs s__law_onward) (defBody s__law_onward) (defScope s__law_onward) .none kV48 dc48 pm48 an48 cd48 ct48), sl48⟩) (c48 : PySem.W.codeIn K cd48 "_law_onward" = true) (k48 : PySem.W.keepIn K (.ref f48) = true)
    {f49 : Addr} {od49 an49 : Option Addr} {sl49 : Array (Option Value)} {oc49 kV49 dc49 pm49 cd49 ct49 : Value}
    (a49 : PySem.W.nsIn K mainGlobals "_law_head" = some (some (.ref f49))) (l49 : K.lookup f49 = some ⟨oc49, od49, .func (PySem.W.fnOf "_law_head" "_law_head" (defArgs s__law_head) (defBody s__law_head) (defScope s__law_head) .none kV49 dc49 pm49 an49 cd49 ct49), sl49⟩) (c49 : PySem.W.codeIn K cd49 "_law_head" = true) (k49 : PySem.W.keepIn K (.ref f49) = true)
    {f50 : Addr} {od50 an50 : Option Addr} {sl50 : Array (Option Value)} {oc50 kV50 dc50 pm50 cd50 ct50 : Value}
    (a50 : PySem.W.nsIn K mainGlobals "_law_filled" = some (some (.ref f50))) (l50 : K.lookup f50 = some ⟨oc50, od50, .func (PySem.W.fnOf "_law_filled" "_law_filled" (defArgs s__law_filled) (defBody s__law_filled) (defScope s__law_filled) .none kV50 dc50 pm50 an50 cd50 ct50), sl50⟩) (c50 : PySem.W.codeIn K cd50 "_law_filled" = true) (k50 : PySem.W.keepIn K (.ref f50) = true)
    {f51 : Addr} {od51 an51 : Option Addr} {sl51 : Array (Option Value)} {oc51 kV51 dc51 pm51 cd51 ct51 : Value}
    (a51 : PySem.W.nsIn K mainGlobals "_law_is_small" = some (some (.ref f51))) (l51 : K.lookup f51 = some ⟨oc51, od51, .func (PySem.W.fnOf "_law_is_small" "_law_is_small" (defArgs s__law_is_small) (defBody s__law_is_small) (defScope s__law_is_small) .none kV51 dc51 pm51 an51 cd51 ct51), sl51⟩) (c51 : PySem.W.codeIn K cd51 "_law_is_small" = true) (k51 : PySem.W.keepIn K (.ref f51) = true)
    {f52 : Addr} {od52 an52 : Option Addr} {sl52 : Array (Option Value)} {oc52 kV52 dc52 pm52 cd52 ct52 : Value}
    (a52 : PySem.W.nsIn K mainGlobals "_law_right" = some (some (.ref f52))) (l52 : K.lookup f52 = some ⟨oc52, od52, .func (PySem.W.fnOf "_law_right" "_law_right" (defArgs s__law_right) (defBody s__law_right) (defScope s__law_right) .none kV52 dc52 pm52 an52 cd52 ct52), sl52⟩) (c52 : PySem.W.codeIn K cd52 "_law_right" = true) (k52 : PySem.W.keepIn K (.ref f52) = true)
    {f53 : Addr} {od53 an53 : Option Addr} {sl53 : Array (Option Value)} {oc53 kV53 dc53 pm53 cd53 ct53 : Value}
    (a53 : PySem.W.nsIn K mainGlobals "law" = some (some (.ref f53))) (l53 : K.lookup f53 = some ⟨oc53, od53, .func (PySem.W.fnOf "law" "law" (defArgs s_law) (defBody s_law) (defScope s_law) .none kV53 dc53 pm53 an53 cd53 ct53), sl53⟩) (c53 : PySem.W.codeIn K cd53 "law" = true) (k53 : PySem.W.keepIn K (.ref f53) = true)
    {C_World : Addr}
    (g_World : PySem.W.nsIn K mainGlobals "World" = some (some (.ref C_World)))
    (k_World : PySem.W.keepIn K (.ref C_World) = true)
    (pg_World : PySem.W.plainGet K C_World Str.empty = true)
    (ic_World : PySem.W.isClsIn K C_World = true)
    (po_World : PySem.W.plainOver K C_World = true)
    (sa_World : PySem.W.findIn K (.ref C_World) "__setattr__" = some (some (.builtin "object.__setattr__")))
    (mk_World : PySem.W.makesIn K C_World = true)
    (ca_World : PySem.W.findIn K (.ref C_World) "__class__" = some (some (.builtin "object.__class__")))
    (cn_World : PySem.W.specialIn K (.builtin "object.__class__") "__get__" = some (some (.builtin "getset_descriptor.__get__")))
    (ct_World : PySem.W.takesIn K (.builtin "object.__class__") = some true)
    (cm_World : PySem.W.mroIn K C_World (.type "object") = some true)
    {p_World_its_acts : Addr}
    (at_World_its_acts : PySem.W.findIn K (.ref C_World) "its_acts" = some (some (.ref p_World_its_acts)))
    (get_World_its_acts : PySem.W.specialIn K (.ref p_World_its_acts) "__get__" = some (some (.builtin "member_descriptor.__get__")))
    (tk_World_its_acts : PySem.W.takesIn K (.ref p_World_its_acts) = some true)
    (ty_World_its_acts : PySem.W.typeIn K (.ref p_World_its_acts) = some (.type "member_descriptor"))
    (ix_World_its_acts : PySem.W.slotIn K p_World_its_acts C_World = some 0)
    {f_World___init__ : Addr} {od_World___init__ an_World___init__ : Option Addr} {sl_World___init__ : Array (Option Value)} {oc_World___init__ kV_World___init__ dc_World___init__ pm_World___init__ cd_World___init__ cc_World___init__ : Value}
    (am_World___init__ : PySem.W.findIn K (.ref C_World) "__init__" = some (some (.ref f_World___init__)))
    (im_World___init__ : PySem.W.isFn K (.ref f_World___init__) = true)
    (lm_World___init__ : K.lookup f_World___init__ = some ⟨oc_World___init__, od_World___init__, .func (PySem.W.fnOf "__init__" "World.__init__" (defArgs s_World___init__) (defBody s_World___init__) (defScope s_World___init__) .none kV_World___init__ dc_World___init__ pm_World___init__ an_World___init__ cd_World___init__ cc_World___init__), sl_World___init__⟩)
    (co_World___init__ : PySem.W.codeIn K cd_World___init__ "World.__init__" = true)
    (km_World___init__ : PySem.W.keepIn K (.ref f_World___init__) = true)
    {f_World_acts : Addr} {od_World_acts an_World_acts : Option Addr} {sl_World_acts : Array (Option Value)} {oc_World_acts kV_World_acts dc_World_acts pm_World_acts cd_World_acts cc_World_acts : Value}
    (am_World_acts : PySem.W.findIn K (.ref C_World) "acts" = some (some (.ref f_World_acts)))
    (im_World_acts : PySem.W.isFn K (.ref f_World_acts) = true)
    (lm_World_acts : K.lookup f_World_acts = some ⟨oc_World_acts, od_World_acts, .func (PySem.W.fnOf "acts" "World.acts" (defArgs s_World_acts) (defBody s_World_acts) (defScope s_World_acts) .none kV_World_acts dc_World_acts pm_World_acts an_World_acts cd_World_acts cc_World_acts), sl_World_acts⟩)
    (co_World_acts : PySem.W.codeIn K cd_World_acts "World.acts" = true)
    (km_World_acts : PySem.W.keepIn K (.ref f_World_acts) = true)
    {f_World_arguments : Addr} {od_World_arguments an_World_arguments : Option Addr} {sl_World_arguments : Array (Option Value)} {oc_World_arguments kV_World_arguments dc_World_arguments pm_World_arguments cd_World_arguments cc_World_arguments : Value}
    (am_World_arguments : PySem.W.findIn K (.ref C_World) "arguments" = some (some (.ref f_World_arguments)))
    (im_World_arguments : PySem.W.isFn K (.ref f_World_arguments) = true)
    (lm_World_arguments : K.lookup f_World_arguments = some ⟨oc_World_arguments, od_World_arguments, .func (PySem.W.fnOf "arguments" "World.arguments" (defArgs s_World_arguments) (defBody s_World_arguments) (defScope s_World_arguments) .none kV_World_arguments dc_World_arguments pm_World_arguments an_World_arguments cd_World_arguments cc_World_arguments), sl_World_arguments⟩)
    (co_World_arguments : PySem.W.codeIn K cd_World_arguments "World.arguments" = true)
    (km_World_arguments : PySem.W.keepIn K (.ref f_World_arguments) = true)
    {f_World_outcomes : Addr} {od_World_outcomes an_World_outcomes : Option Addr} {sl_World_outcomes : Array (Option Value)} {oc_World_outcomes kV_World_outcomes dc_World_outcomes pm_World_outcomes cd_World_outcomes cc_World_outcomes : Value}
    (am_World_outcomes : PySem.W.findIn K (.ref C_World) "outcomes" = some (some (.ref f_World_outcomes)))
    (im_World_outcomes : PySem.W.isFn K (.ref f_World_outcomes) = true)
    (lm_World_outcomes : K.lookup f_World_outcomes = some ⟨oc_World_outcomes, od_World_outcomes, .func (PySem.W.fnOf "outcomes" "World.outcomes" (defArgs s_World_outcomes) (defBody s_World_outcomes) (defScope s_World_outcomes) .none kV_World_outcomes dc_World_outcomes pm_World_outcomes an_World_outcomes cd_World_outcomes cc_World_outcomes), sl_World_outcomes⟩)
    (co_World_outcomes : PySem.W.codeIn K cd_World_outcomes "World.outcomes" = true)
    (km_World_outcomes : PySem.W.keepIn K (.ref f_World_outcomes) = true)
    {f_World_brings : Addr} {od_World_brings an_World_brings : Option Addr} {sl_World_brings : Array (Option Value)} {oc_World_brings kV_World_brings dc_World_brings pm_World_brings cd_World_brings cc_World_brings : Value}
    (am_World_brings : PySem.W.findIn K (.ref C_World) "brings" = some (some (.ref f_World_brings)))
    (im_World_brings : PySem.W.isFn K (.ref f_World_brings) = true)
    (lm_World_brings : K.lookup f_World_brings = some ⟨oc_World_brings, od_World_brings, .func (PySem.W.fnOf "brings" "World.brings" (defArgs s_World_brings) (defBody s_World_brings) (defScope s_World_brings) .none kV_World_brings dc_World_brings pm_World_brings an_World_brings cd_World_brings cc_World_brings), sl_World_brings⟩)
    (co_World_brings : PySem.W.codeIn K cd_World_brings "World.brings" = true)
    (km_World_brings : PySem.W.keepIn K (.ref f_World_brings) = true)
    {f_World___eq__ : Addr} {od_World___eq__ an_World___eq__ : Option Addr} {sl_World___eq__ : Array (Option Value)} {oc_World___eq__ kV_World___eq__ dc_World___eq__ pm_World___eq__ cd_World___eq__ cc_World___eq__ : Value}
    (am_World___eq__ : PySem.W.findIn K (.ref C_World) "__eq__" = some (some (.ref f_World___eq__)))
    (im_World___eq__ : PySem.W.isFn K (.ref f_World___eq__) = true)
    (lm_World___eq__ : K.lookup f_World___eq__ = some ⟨oc_World___eq__, od_World___eq__, .func (PySem.W.fnOf "__eq__" "World.__eq__" (defArgs s_World___eq__) (defBody s_World___eq__) (defScope s_World___eq__) .none kV_World___eq__ dc_World___eq__ pm_World___eq__ an_World___eq__ cd_World___eq__ cc_World___eq__), sl_World___eq__⟩)
    (co_World___eq__ : PySem.W.codeIn K cd_World___eq__ "World.__eq__" = true)
    (km_World___eq__ : PySem.W.keepIn K (.ref f_World___eq__) = true)
    {C_Code : Addr}
    (g_Code : PySem.W.nsIn K mainGlobals "Code" = some (some (.ref C_Code)))
    (k_Code : PySem.W.keepIn K (.ref C_Code) = true)
    (pg_Code : PySem.W.plainGet K C_Code Str.empty = true)
    (ic_Code : PySem.W.isClsIn K C_Code = true)
    (po_Code : PySem.W.plainOver K C_Code = true)
    (sa_Code : PySem.W.findIn K (.ref C_Code) "__setattr__" = some (some (.builtin "object.__setattr__")))
    (mk_Code : PySem.W.makesIn K C_Code = true)
    (ca_Code : PySem.W.findIn K (.ref C_Code) "__class__" = some (some (.builtin "object.__class__")))
    (cn_Code : PySem.W.specialIn K (.builtin "object.__class__") "__get__" = some (some (.builtin "getset_descriptor.__get__")))
    (ct_Code : PySem.W.takesIn K (.builtin "object.__class__") = some true)
    (cm_Code : PySem.W.mroIn K C_Code (.type "object") = some true)
    {p_Code_its_given : Addr}
    (at_Code_its_given : PySem.W.findIn K (.ref C_Code) "its_given" = some (some (.ref p_Code_its_given)))
    (get_Code_its_given : PySem.W.specialIn K (.ref p_Code_its_given) "__get__" = some (some (.builtin "member_descriptor.__get__")))
    (tk_Code_its_given : PySem.W.takesIn K (.ref p_Code_its_given) = some true)
    (ty_Code_its_given : PySem.W.typeIn K (.ref p_Code_its_given) = some (.type "member_descriptor"))
    (ix_Code_its_given : PySem.W.slotIn K p_Code_its_given C_Code = some 0)
    {p_Code_its_statements : Addr}
    (at_Code_its_statements : PySem.W.findIn K (.ref C_Code) "its_statements" = some (some (.ref p_Code_its_statements)))
    (get_Code_its_statements : PySem.W.specialIn K (.ref p_Code_its_statements) "__get__" = some (some (.builtin "member_descriptor.__get__")))
    (tk_Code_its_statements : PySem.W.takesIn K (.ref p_Code_its_statements) = some true)
    (ty_Code_its_statements : PySem.W.typeIn K (.ref p_Code_its_statements) = some (.type "member_descriptor"))
    (ix_Code_its_statements : PySem.W.slotIn K p_Code_its_statements C_Code = some 1)
    {p_Code_its_variables : Addr}
    (at_Code_its_variables : PySem.W.findIn K (.ref C_Code) "its_variables" = some (some (.ref p_Code_its_variables)))
    (get_Code_its_variables : PySem.W.specialIn K (.ref p_Code_its_variables) "__get__" = some (some (.builtin "member_descriptor.__get__")))
    (tk_Code_its_variables : PySem.W.takesIn K (.ref p_Code_its_variables) = some true)
    (ty_Code_its_variables : PySem.W.typeIn K (.ref p_Code_its_variables) = some (.type "member_descriptor"))
    (ix_Code_its_variables : PySem.W.slotIn K p_Code_its_variables C_Code = some 2)
    {p_Code_its_world : Addr}
    (at_Code_its_world : PySem.W.findIn K (.ref C_Code) "its_world" = some (some (.ref p_Code_its_world)))
    (get_Code_its_world : PySem.W.specialIn K (.ref p_Code_its_world) "__get__" = some (some (.builtin "member_descriptor.__get__")))
    (tk_Code_its_world : PySem.W.takesIn K (.ref p_Code_its_world) = some true)
    (ty_Code_its_world : PySem.W.typeIn K (.ref p_Code_its_world) = some (.type "member_descriptor"))
    (ix_Code_its_world : PySem.W.slotIn K p_Code_its_world C_Code = some 3)
    {f_Code___init__ : Addr} {od_Code___init__ an_Code___init__ : Option Addr} {sl_Code___init__ : Array (Option Value)} {oc_Code___init__ kV_Code___init__ dc_Code___init__ pm_Code___init__ cd_Code___init__ cc_Code___init__ : Value}
    (am_Code___init__ : PySem.W.findIn K (.ref C_Code) "__init__" = some (some (.ref f_Code___init__)))
    (im_Code___init__ : PySem.W.isFn K (.ref f_Code___init__) = true)
    (lm_Code___init__ : K.lookup f_Code___init__ = some ⟨oc_Code___init__, od_Code___init__, .func (PySem.W.fnOf "__init__" "Code.__init__" (defArgs s_Code___init__) (defBody s_Code___init__) (defScope s_Code___init__) .none kV_Code___init__ dc_Code___init__ pm_Code___init__ an_Code___init__ cd_Code___init__ cc_Code___init__), sl_Code___init__⟩)
    (co_Code___init__ : PySem.W.codeIn K cd_Code___init__ "Code.__init__" = true)
    (km_Code___init__ : PySem.W.keepIn K (.ref f_Code___init__) = true)
    {f_Code___len__ : Addr} {od_Code___len__ an_Code___len__ : Option Addr} {sl_Code___len__ : Array (Option Value)} {oc_Code___len__ kV_Code___len__ dc_Code___len__ pm_Code___len__ cd_Code___len__ cc_Code___len__ : Value}
    (am_Code___len__ : PySem.W.findIn K (.ref C_Code) "__len__" = some (some (.ref f_Code___len__)))
    (im_Code___len__ : PySem.W.isFn K (.ref f_Code___len__) = true)
    (lm_Code___len__ : K.lookup f_Code___len__ = some ⟨oc_Code___len__, od_Code___len__, .func (PySem.W.fnOf "__len__" "Code.__len__" (defArgs s_Code___len__) (defBody s_Code___len__) (defScope s_Code___len__) .none kV_Code___len__ dc_Code___len__ pm_Code___len__ an_Code___len__ cd_Code___len__ cc_Code___len__), sl_Code___len__⟩)
    (co_Code___len__ : PySem.W.codeIn K cd_Code___len__ "Code.__len__" = true)
    (km_Code___len__ : PySem.W.keepIn K (.ref f_Code___len__) = true)
    {f_Code_statement : Addr} {od_Code_statement an_Code_statement : Option Addr} {sl_Code_statement : Array (Option Value)} {oc_Code_statement kV_Code_statement dc_Code_statement pm_Code_statement cd_Code_statement cc_Code_statement : Value}
    (am_Code_statement : PySem.W.findIn K (.ref C_Code) "statement" = some (some (.ref f_Code_statement)))
    (im_Code_statement : PySem.W.isFn K (.ref f_Code_statement) = true)
    (lm_Code_statement : K.lookup f_Code_statement = some ⟨oc_Code_statement, od_Code_statement, .func (PySem.W.fnOf "statement" "Code.statement" (defArgs s_Code_statement) (defBody s_Code_statement) (defScope s_Code_statement) .none kV_Code_statement dc_Code_statement pm_Code_statement an_Code_statement cd_Code_statement cc_Code_statement), sl_Code_statement⟩)
    (co_Code_statement : PySem.W.codeIn K cd_Code_statement "Code.statement" = true)
    (km_Code_statement : PySem.W.keepIn K (.ref f_Code_statement) = true)
    {f_Code_statements : Addr} {od_Code_statements an_Code_statements : Option Addr} {sl_Code_statements : Array (Option Value)} {oc_Code_statements kV_Code_statements dc_Code_statements pm_Code_statements cd_Code_statements cc_Code_statements : Value}
    (am_Code_statements : PySem.W.findIn K (.ref C_Code) "statements" = some (some (.ref f_Code_statements)))
    (im_Code_statements : PySem.W.isFn K (.ref f_Code_statements) = true)
    (lm_Code_statements : K.lookup f_Code_statements = some ⟨oc_Code_statements, od_Code_statements, .func (PySem.W.fnOf "statements" "Code.statements" (defArgs s_Code_statements) (defBody s_Code_statements) (defScope s_Code_statements) .none kV_Code_statements dc_Code_statements pm_Code_statements an_Code_statements cd_Code_statements cc_Code_statements), sl_Code_statements⟩)
    (co_Code_statements : PySem.W.codeIn K cd_Code_statements "Code.statements" = true)
    (km_Code_statements : PySem.W.keepIn K (.ref f_Code_statements) = true)
    {f_Code_first : Addr} {od_Code_first an_Code_first : Option Addr} {sl_Code_first : Array (Option Value)} {oc_Code_first kV_Code_first dc_Code_first pm_Code_first cd_Code_first cc_Code_first : Value}
    (am_Code_first : PySem.W.findIn K (.ref C_Code) "first" = some (some (.ref f_Code_first)))
    (im_Code_first : PySem.W.isFn K (.ref f_Code_first) = true)
    (lm_Code_first : K.lookup f_Code_first = some ⟨oc_Code_first, od_Code_first, .func (PySem.W.fnOf "first" "Code.first" (defArgs s_Code_first) (defBody s_Code_first) (defScope s_Code_first) .none kV_Code_first dc_Code_first pm_Code_first an_Code_first cd_Code_first cc_Code_first), sl_Code_first⟩)
    (co_Code_first : PySem.W.codeIn K cd_Code_first "Code.first" = true)
    (km_Code_first : PySem.W.keepIn K (.ref f_Code_first) = true)
    {f_Code_showing : Addr} {od_Code_showing an_Code_showing : Option Addr} {sl_Code_showing : Array (Option Value)} {oc_Code_showing kV_Code_showing dc_Code_showing pm_Code_showing cd_Code_showing cc_Code_showing : Value}
    (am_Code_showing : PySem.W.findIn K (.ref C_Code) "showing" = some (some (.ref f_Code_showing)))
    (im_Code_showing : PySem.W.isFn K (.ref f_Code_showing) = true)
    (lm_Code_showing : K.lookup f_Code_showing = some ⟨oc_Code_showing, od_Code_showing, .func (PySem.W.fnOf "showing" "Code.showing" (defArgs s_Code_showing) (defBody s_Code_showing) (defScope s_Code_showing) .none kV_Code_showing dc_Code_showing pm_Code_showing an_Code_showing cd_Code_showing cc_Code_showing), sl_Code_showing⟩)
    (co_Code_showing : PySem.W.codeIn K cd_Code_showing "Code.showing" = true)
    (km_Code_showing : PySem.W.keepIn K (.ref f_Code_showing) = true)
    {f_Code_parts : Addr} {od_Code_parts an_Code_parts : Option Addr} {sl_Code_parts : Array (Option Value)} {oc_Code_parts kV_Code_parts dc_Code_parts pm_Code_parts cd_Code_parts cc_Code_parts : Value}
    (am_Code_parts : PySem.W.findIn K (.ref C_Code) "parts" = some (some (.ref f_Code_parts)))
    (im_Code_parts : PySem.W.isFn K (.ref f_Code_parts) = true)
    (lm_Code_parts : K.lookup f_Code_parts = some ⟨oc_Code_parts, od_Code_parts, .func (PySem.W.fnOf "parts" "Code.parts" (defArgs s_Code_parts) (defBody s_Code_parts) (defScope s_Code_parts) .none kV_Code_parts dc_Code_parts pm_Code_parts an_Code_parts cd_Code_parts cc_Code_parts), sl_Code_parts⟩)
    (co_Code_parts : PySem.W.codeIn K cd_Code_parts "Code.parts" = true)
    (km_Code_parts : PySem.W.keepIn K (.ref f_Code_parts) = true)
    {f_Code___eq__ : Addr} {od_Code___eq__ an_Code___eq__ : Option Addr} {sl_Code___eq__ : Array (Option Value)} {oc_Code___eq__ kV_Code___eq__ dc_Code___eq__ pm_Code___eq__ cd_Code___eq__ cc_Code___eq__ : Value}
    (am_Code___eq__ : PySem.W.findIn K (.ref C_Code) "__eq__" = some (some (.ref f_Code___eq__)))
    (im_Code___eq__ : PySem.W.isFn K (.ref f_Code___eq__) = true)
    (lm_Code___eq__ : K.lookup f_Code___eq__ = some ⟨oc_Code___eq__, od_Code___eq__, .func (PySem.W.fnOf "__eq__" "Code.__eq__" (defArgs s_Code___eq__) (defBody s_Code___eq__) (defScope s_Code___eq__) .none kV_Code___eq__ dc_Code___eq__ pm_Code___eq__ an_Code___eq__ cd_Code___eq__ cc_Code___eq__), sl_Code___eq__⟩)
    (co_Code___eq__ : PySem.W.codeIn K cd_Code___eq__ "Code.__eq__" = true)
    (km_Code___eq__ : PySem.W.keepIn K (.ref f_Code___eq__) = true)
    (topS_ : (l.prog.main.scope.names.lookup ("super" : Str)).isSome = false)
    (sup_ : PySem.W.nsIn K mainGlobals "super" = some none)
    (opq_ : PySem.W.nsIn K PySem.cStatics "thirdparty.any" = some none)
    {C_MoveError : Addr}
    (g_MoveError : PySem.W.nsIn K mainGlobals "MoveError" = some (some (.ref C_MoveError)))
    (ex_MoveError : PySem.W.subIn K (.ref C_MoveError) (.type "BaseException") = some true)
    (hd_MoveError : PySem.W.hasDictIn K C_MoveError = true)
    (ty_MoveError : PySem.W.typeIn K (.ref C_MoveError) = some (.type "type"))
    {C_Wrong : Addr}
    (g_Wrong : PySem.W.nsIn K mainGlobals "Wrong" = some (some (.ref C_Wrong)))
    (ex_Wrong : PySem.W.subIn K (.ref C_Wrong) (.type "BaseException") = some true)
    (hd_Wrong : PySem.W.hasDictIn K C_Wrong = true)
    (ty_Wrong : PySem.W.typeIn K (.ref C_Wrong) = some (.type "type"))
    {nm_Wrong q_Wrong : Str} {N_Wrong : Addr} {bs_Wrong bm_Wrong sub_Wrong : List Value} {sn_Wrong : List Str} {ab_Wrong : Bool} {col_Wrong : Option Bool} {dd_Wrong : Option Addr} {k0_Wrong k1_Wrong k2_Wrong k3_Wrong k5_Wrong : Option Value}
    (cls_Wrong : K.lookup C_Wrong = some (excClassObj nm_Wrong q_Wrong C_Wrong N_Wrong bs_Wrong bm_Wrong true sn_Wrong sub_Wrong ab_Wrong col_Wrong dd_Wrong k0_Wrong k1_Wrong k2_Wrong k3_Wrong k5_Wrong "ValueError.__new__"))
    (ve_Wrong : PySem.HandSPX.refsVE bm_Wrong = true)
    (sa_Wrong : PySem.W.findIn K (.ref C_Wrong) "__setattr__" = some (some (.builtin "object.__setattr__")))
    (no_Wrong : PySem.W.findIn K (.ref C_Wrong) "place" = some none)
    (k_Wrong : PySem.W.keepIn K (.ref C_Wrong) = true)
    (vs_Wrong : PySem.W.subIn K (.ref C_Wrong) (.type "ValueError") = some true)
    (up_Wrong : PySem.W.ks_superIn K C_Wrong C_Wrong "__init__" = some (some (.builtin "ValueError.__init__")))
    (self_Wrong : PySem.W.mroIn K C_Wrong (.ref C_Wrong) = some true)
    {fI_Wrong cda_Wrong cc_Wrong : Addr} {oc_Wrong kV_Wrong doc_Wrong pm_Wrong ct_Wrong cl_Wrong ccl_Wrong : Value} {od_Wrong an_Wrong cld_Wrong cdd_Wrong : Option Addr} {osl_Wrong csl_Wrong ccs_Wrong : Array (Option Value)} {ql_Wrong file_Wrong : Str} {vv_Wrong : Array Value} {tf_Wrong : Tok} {p1_Wrong p2_Wrong q1_Wrong q2_Wrong q3_Wrong q4_Wrong q5_Wrong q6_Wrong q7_Wrong q8_Wrong q9_Wrong q10_Wrong : Pos}
    (fi_Wrong : PySem.W.findIn K (.ref C_Wrong) "__init__" = some (some (.ref fI_Wrong)))
    (tI_Wrong : PySem.W.typeIn K (.ref fI_Wrong) = some (.type "function"))
    (lI_Wrong : K.lookup fI_Wrong = some ⟨oc_Wrong, od_Wrong, .func (PySem.W.ksFn "__init__" ql_Wrong (xA "place" p1_Wrong p2_Wrong) (xB "place" q1_Wrong q2_Wrong q3_Wrong q4_Wrong q5_Wrong q6_Wrong q7_Wrong q8_Wrong q9_Wrong q10_Wrong) (xS "place") .none kV_Wrong doc_Wrong pm_Wrong an_Wrong (.ref cda_Wrong) ct_Wrong cc_Wrong), osl_Wrong⟩)
    (cd_Wrong : PySem.W.codeIn K (.ref cda_Wrong) ql_Wrong = true)
    (ce_Wrong : K.lookup cc_Wrong = some ⟨cl_Wrong, cld_Wrong, .cell (some (.ref C_Wrong)), csl_Wrong⟩)
    (co_Wrong : K.lookup cda_Wrong = some ⟨ccl_Wrong, cdd_Wrong, .fields vv_Wrong, ccs_Wrong⟩)
    (cv_Wrong : vv_Wrong[2]? = some (.str file_Wrong tf_Wrong))
    (cf_Wrong : ((l.prog.main.file : Str) == file_Wrong) = true)
    (bi_Wrong : ∀ e v, bindArgs (PySem.W.ksFn "__init__" ql_Wrong (xA "place" p1_Wrong p2_Wrong) (xB "place" q1_Wrong q2_Wrong q3_Wrong q4_Wrong q5_Wrong q6_Wrong q7_Wrong q8_Wrong q9_Wrong q10_Wrong) (xS "place") .none kV_Wrong doc_Wrong pm_Wrong an_Wrong (.ref cda_Wrong) ct_Wrong cc_Wrong) ⟨[.ref e, v], []⟩ = pure [((PySem.Str.ofString "self" : Str), .ref e), ("place", v)])
    (ev_Wrong : ∀ L : Addr, ∃ pl, eval (xCall "place" q1_Wrong q2_Wrong q3_Wrong q4_Wrong q5_Wrong) (PySem.W.ksEnv ql_Wrong (xS "place") L fI_Wrong (.ref cda_Wrong) cc_Wrong) = (do
      let ov ← attributeBase (.Call (.Name "super" q1_Wrong) [] [] q2_Wrong) "__init__" (PySem.W.ksEnv ql_Wrong (xS "place") L fI_Wrong (.ref cda_Wrong) cc_Wrong) (eval (.Call (.Name "super" q1_Wrong) [] [] q2_Wrong) (PySem.W.ksEnv ql_Wrong (xS "place") L fI_Wrong (.ref cda_Wrong) cc_Wrong))
      standAt q3_Wrong.atName
      let (g, first) ← holding [ov] (getMethod ov "__init__" pl)
      callWith q5_Wrong g first (backTo q5_Wrong (starEach [.Name "place" q4_Wrong] (PySem.W.ksEnv ql_Wrong (xS "place") L fI_Wrong (.ref cda_Wrong) cc_Wrong))) []))
    {C_BadAct : Addr}
    (g_BadAct : PySem.W.nsIn K mainGlobals "BadAct" = some (some (.ref C_BadAct)))
    (ex_BadAct : PySem.W.subIn K (.ref C_BadAct) (.type "BaseException") = some true)
    (hd_BadAct : PySem.W.hasDictIn K C_BadAct = true)
    (ty_BadAct : PySem.W.typeIn K (.ref C_BadAct) = some (.type "type"))
    {nm_BadAct q_BadAct : Str} {N_BadAct : Addr} {bs_BadAct bm_BadAct sub_BadAct : List Value} {sn_BadAct : List Str} {ab_BadAct : Bool} {col_BadAct : Option Bool} {dd_BadAct : Option Addr} {k0_BadAct k1_BadAct k2_BadAct k3_BadAct k5_BadAct : Option Value}
    (cls_BadAct : K.lookup C_BadAct = some (excClassObj nm_BadAct q_BadAct C_BadAct N_BadAct bs_BadAct bm_BadAct true sn_BadAct sub_BadAct ab_BadAct col_BadAct dd_BadAct k0_BadAct k1_BadAct k2_BadAct k3_BadAct k5_BadAct "ValueError.__new__"))
    (ve_BadAct : PySem.HandSPX.refsVE bm_BadAct = true)
    (sa_BadAct : PySem.W.findIn K (.ref C_BadAct) "__setattr__" = some (some (.builtin "object.__setattr__")))
    (no_BadAct : PySem.W.findIn K (.ref C_BadAct) "name" = some none)
    (k_BadAct : PySem.W.keepIn K (.ref C_BadAct) = true)
    (vs_BadAct : PySem.W.subIn K (.ref C_BadAct) (.type "ValueError") = some true)
    (up_BadAct : PySem.W.ks_superIn K C_BadAct C_BadAct "__init__" = some (some (.builtin "ValueError.__init__")))
    (self_BadAct : PySem.W.mroIn K C_BadAct (.ref C_BadAct) = some true)
    {fI_BadAct cda_BadAct cc_BadAct : Addr} {oc_BadAct kV_BadAct doc_BadAct pm_BadAct ct_BadAct cl_BadAct ccl_BadAct : Value} {od_BadAct an_BadAct cld_BadAct cdd_BadAct : Option Addr} {osl_BadAct csl_BadAct ccs_BadAct : Array (Option Value)} {ql_BadAct file_BadAct : Str} {vv_BadAct : Array Value} {tf_BadAct : Tok} {p1_BadAct p2_BadAct q1_BadAct q2_BadAct q3_BadAct q4_BadAct q5_BadAct q6_BadAct q7_BadAct q8_BadAct q9_BadAct q10_BadAct : Pos}
    (fi_BadAct : PySem.W.findIn K (.ref C_BadAct) "__init__" = some (some (.ref fI_BadAct)))
    (tI_BadAct : PySem.W.typeIn K (.ref fI_BadAct) = some (.type "function"))
    (lI_BadAct : K.lookup fI_BadAct = some ⟨oc_BadAct, od_BadAct, .func (PySem.W.ksFn "__init__" ql_BadAct (xA "name" p1_BadAct p2_BadAct) (xB "name" q1_BadAct q2_BadAct q3_BadAct q4_BadAct q5_BadAct q6_BadAct q7_BadAct q8_BadAct q9_BadAct q10_BadAct) (xS "name") .none kV_BadAct doc_BadAct pm_BadAct an_BadAct (.ref cda_BadAct) ct_BadAct cc_BadAct), osl_BadAct⟩)
    (cd_BadAct : PySem.W.codeIn K (.ref cda_BadAct) ql_BadAct = true)
    (ce_BadAct : K.lookup cc_BadAct = some ⟨cl_BadAct, cld_BadAct, .cell (some (.ref C_BadAct)), csl_BadAct⟩)
    (co_BadAct : K.lookup cda_BadAct = some ⟨ccl_BadAct, cdd_BadAct, .fields vv_BadAct, ccs_BadAct⟩)
    (cv_BadAct : vv_BadAct[2]? = some (.str file_BadAct tf_BadAct))
    (cf_BadAct : ((l.prog.main.file : Str) == file_BadAct) = true)
    (bi_BadAct : ∀ e v, bindArgs (PySem.W.ksFn "__init__" ql_BadAct (xA "name" p1_BadAct p2_BadAct) (xB "name" q1_BadAct q2_BadAct q3_BadAct q4_BadAct q5_BadAct q6_BadAct q7_BadAct q8_BadAct q9_BadAct q10_BadAct) (xS "name") .none kV_BadAct doc_BadAct pm_BadAct an_BadAct (.ref cda_BadAct) ct_BadAct cc_BadAct) ⟨[.ref e, v], []⟩ = pure [((PySem.Str.ofString "self" : Str), .ref e), ("name", v)])
    (ev_BadAct : ∀ L : Addr, ∃ pl, eval (xCall "name" q1_BadAct q2_BadAct q3_BadAct q4_BadAct q5_BadAct) (PySem.W.ksEnv ql_BadAct (xS "name") L fI_BadAct (.ref cda_BadAct) cc_BadAct) = (do
      let ov ← attributeBase (.Call (.Name "super" q1_BadAct) [] [] q2_BadAct) "__init__" (PySem.W.ksEnv ql_BadAct (xS "name") L fI_BadAct (.ref cda_BadAct) cc_BadAct) (eval (.Call (.Name "super" q1_BadAct) [] [] q2_BadAct) (PySem.W.ksEnv ql_BadAct (xS "name") L fI_BadAct (.ref cda_BadAct) cc_BadAct))
      standAt q3_BadAct.atName
      let (g, first) ← holding [ov] (getMethod ov "__init__" pl)
      callWith q5_BadAct g first (backTo q5_BadAct (starEach [.Name "name" q4_BadAct] (PySem.W.ksEnv ql_BadAct (xS "name") L fI_BadAct (.ref cda_BadAct) cc_BadAct))) []))
    {C_BadPlace : Addr}
    (g_BadPlace : PySem.W.nsIn K mainGlobals "BadPlace" = some (some (.ref C_BadPlace)))
    (ex_BadPlace : PySem.W.subIn K (.ref C_BadPlace) (.type "BaseException") = some true)
    (hd_BadPlace : PySem.W.hasDictIn K C_BadPlace = true)
    (ty_BadPlace : PySem.W.typeIn K (.ref C_BadPlace) = some (.type "type"))
    {nm_BadPlace q_BadPlace : Str} {N_BadPlace : Addr} {bs_BadPlace bm_BadPlace sub_BadPlace : List Value} {sn_BadPlace : List Str} {ab_BadPlace : Bool} {col_BadPlace : Option Bool} {dd_BadPlace : Option Addr} {k0_BadPlace k1_BadPlace k2_BadPlace k3_BadPlace k5_BadPlace : Option Value}
    (cls_BadPlace : K.lookup C_BadPlace = some (excClassObj nm_BadPlace q_BadPlace C_BadPlace N_BadPlace bs_BadPlace bm_BadPlace true sn_BadPlace sub_BadPlace ab_BadPlace col_BadPlace dd_BadPlace k0_BadPlace k1_BadPlace k2_BadPlace k3_BadPlace k5_BadPlace "ValueError.__new__"))
    (ve_BadPlace : PySem.HandSPX.refsVE bm_BadPlace = true)
    (sa_BadPlace : PySem.W.findIn K (.ref C_BadPlace) "__setattr__" = some (some (.builtin "object.__setattr__")))
    (no_BadPlace : PySem.W.findIn K (.ref C_BadPlace) "at" = some none)
    (k_BadPlace : PySem.W.keepIn K (.ref C_BadPlace) = true)
    (vs_BadPlace : PySem.W.subIn K (.ref C_BadPlace) (.type "ValueError") = some true)
    (up_BadPlace : PySem.W.ks_superIn K C_BadPlace C_BadPlace "__init__" = some (some (.builtin "ValueError.__init__")))
    (self_BadPlace : PySem.W.mroIn K C_BadPlace (.ref C_BadPlace) = some true)
    {fI_BadPlace cda_BadPlace cc_BadPlace : Addr} {oc_BadPlace kV_BadPlace doc_BadPlace pm_BadPlace ct_BadPlace cl_BadPlace ccl_BadPlace : Value} {od_BadPlace an_BadPlace cld_BadPlace cdd_BadPlace : Option Addr} {osl_BadPlace csl_BadPlace ccs_BadPlace : Array (Option Value)} {ql_BadPlace file_BadPlace : Str} {vv_BadPlace : Array Value} {tf_BadPlace : Tok} {p1_BadPlace p2_BadPlace q1_BadPlace q2_BadPlace q3_BadPlace q4_BadPlace q5_BadPlace q6_BadPlace q7_BadPlace q8_BadPlace q9_BadPlace q10_BadPlace : Pos}
    (fi_BadPlace : PySem.W.findIn K (.ref C_BadPlace) "__init__" = some (some (.ref fI_BadPlace)))
    (tI_BadPlace : PySem.W.typeIn K (.ref fI_BadPlace) = some (.type "function"))
    (lI_BadPlace : K.lookup fI_BadPlace = some ⟨oc_BadPlace, od_BadPlace, .func (PySem.W.ksFn "__init__" ql_BadPlace (xA "at" p1_BadPlace p2_BadPlace) (xB "at" q1_BadPlace q2_BadPlace q3_BadPlace q4_BadPlace q5_BadPlace q6_BadPlace q7_BadPlace q8_BadPlace q9_BadPlace q10_BadPlace) (xS "at") .none kV_BadPlace doc_BadPlace pm_BadPlace an_BadPlace (.ref cda_BadPlace) ct_BadPlace cc_BadPlace), osl_BadPlace⟩)
    (cd_BadPlace : PySem.W.codeIn K (.ref cda_BadPlace) ql_BadPlace = true)
    (ce_BadPlace : K.lookup cc_BadPlace = some ⟨cl_BadPlace, cld_BadPlace, .cell (some (.ref C_BadPlace)), csl_BadPlace⟩)
    (co_BadPlace : K.lookup cda_BadPlace = some ⟨ccl_BadPlace, cdd_BadPlace, .fields vv_BadPlace, ccs_BadPlace⟩)
    (cv_BadPlace : vv_BadPlace[2]? = some (.str file_BadPlace tf_BadPlace))
    (cf_BadPlace : ((l.prog.main.file : Str) == file_BadPlace) = true)
    (bi_BadPlace : ∀ e v, bindArgs (PySem.W.ksFn "__init__" ql_BadPlace (xA "at" p1_BadPlace p2_BadPlace) (xB "at" q1_BadPlace q2_BadPlace q3_BadPlace q4_BadPlace q5_BadPlace q6_BadPlace q7_BadPlace q8_BadPlace q9_BadPlace q10_BadPlace) (xS "at") .none kV_BadPlace doc_BadPlace pm_BadPlace an_BadPlace (.ref cda_BadPlace) ct_BadPlace cc_BadPlace) ⟨[.ref e, v], []⟩ = pure [((PySem.Str.ofString "self" : Str), .ref e), ("at", v)])
    (ev_BadPlace : ∀ L : Addr, ∃ pl, eval (xCall "at" q1_BadPlace q2_BadPlace q3_BadPlace q4_BadPlace q5_BadPlace) (PySem.W.ksEnv ql_BadPlace (xS "at") L fI_BadPlace (.ref cda_BadPlace) cc_BadPlace) = (do
      let ov ← attributeBase (.Call (.Name "super" q1_BadPlace) [] [] q2_BadPlace) "__init__" (PySem.W.ksEnv ql_BadPlace (xS "at") L fI_BadPlace (.ref cda_BadPlace) cc_BadPlace) (eval (.Call (.Name "super" q1_BadPlace) [] [] q2_BadPlace) (PySem.W.ksEnv ql_BadPlace (xS "at") L fI_BadPlace (.ref cda_BadPlace) cc_BadPlace))
      standAt q3_BadPlace.atName
      let (g, first) ← holding [ov] (getMethod ov "__init__" pl)
      callWith q5_BadPlace g first (backTo q5_BadPlace (starEach [.Name "at" q4_BadPlace] (PySem.W.ksEnv ql_BadPlace (xS "at") L fI_BadPlace (.ref cda_BadPlace) cc_BadPlace))) []))
    {C_TooMany : Addr}
    (g_TooMany : PySem.W.nsIn K mainGlobals "TooMany" = some (some (.ref C_TooMany)))
    (ex_TooMany : PySem.W.subIn K (.ref C_TooMany) (.type "BaseException") = some true)
    (hd_TooMany : PySem.W.hasDictIn K C_TooMany = true)
    (ty_TooMany : PySem.W.typeIn K (.ref C_TooMany) = some (.type "type"))
    {nm_TooMany q_TooMany : Str} {N_TooMany : Addr} {bs_TooMany bm_TooMany sub_TooMany : List Value} {sn_TooMany : List Str} {ab_TooMany : Bool} {col_TooMany : Option Bool} {dd_TooMany : Option Addr} {k0_TooMany k1_TooMany k2_TooMany k3_TooMany k5_TooMany : Option Value}
    (cls_TooMany : K.lookup C_TooMany = some (excClassObj nm_TooMany q_TooMany C_TooMany N_TooMany bs_TooMany bm_TooMany true sn_TooMany sub_TooMany ab_TooMany col_TooMany dd_TooMany k0_TooMany k1_TooMany k2_TooMany k3_TooMany k5_TooMany "ValueError.__new__"))
    (ve_TooMany : PySem.HandSPX.refsVE bm_TooMany = true)
    (sa_TooMany : PySem.W.findIn K (.ref C_TooMany) "__setattr__" = some (some (.builtin "object.__setattr__")))
    (no_TooMany : PySem.W.findIn K (.ref C_TooMany) "limit" = some none)
    (k_TooMany : PySem.W.keepIn K (.ref C_TooMany) = true)
    (vs_TooMany : PySem.W.subIn K (.ref C_TooMany) (.type "ValueError") = some true)
    (up_TooMany : PySem.W.ks_superIn K C_TooMany C_TooMany "__init__" = some (some (.builtin "ValueError.__init__")))
    (self_TooMany : PySem.W.mroIn K C_TooMany (.ref C_TooMany) = some true)
    {fI_TooMany cda_TooMany cc_TooMany : Addr} {oc_TooMany kV_TooMany doc_TooMany pm_TooMany ct_TooMany cl_TooMany ccl_TooMany : Value} {od_TooMany an_TooMany cld_TooMany cdd_TooMany : Option Addr} {osl_TooMany csl_TooMany ccs_TooMany : Array (Option Value)} {ql_TooMany file_TooMany : Str} {vv_TooMany : Array Value} {tf_TooMany : Tok} {p1_TooMany p2_TooMany q1_TooMany q2_TooMany q3_TooMany q4_TooMany q5_TooMany q6_TooMany q7_TooMany q8_TooMany q9_TooMany q10_TooMany : Pos}
    (fi_TooMany : PySem.W.findIn K (.ref C_TooMany) "__init__" = some (some (.ref fI_TooMany)))
    (tI_TooMany : PySem.W.typeIn K (.ref fI_TooMany) = some (.type "function"))
    (lI_TooMany : K.lookup fI_TooMany = some ⟨oc_TooMany, od_TooMany, .func (PySem.W.ksFn "__init__" ql_TooMany (xA "limit" p1_TooMany p2_TooMany) (xB "limit" q1_TooMany q2_TooMany q3_TooMany q4_TooMany q5_TooMany q6_TooMany q7_TooMany q8_TooMany q9_TooMany q10_TooMany) (xS "limit") .none kV_TooMany doc_TooMany pm_TooMany an_TooMany (.ref cda_TooMany) ct_TooMany cc_TooMany), osl_TooMany⟩)
    (cd_TooMany : PySem.W.codeIn K (.ref cda_TooMany) ql_TooMany = true)
    (ce_TooMany : K.lookup cc_TooMany = some ⟨cl_TooMany, cld_TooMany, .cell (some (.ref C_TooMany)), csl_TooMany⟩)
    (co_TooMany : K.lookup cda_TooMany = some ⟨ccl_TooMany, cdd_TooMany, .fields vv_TooMany, ccs_TooMany⟩)
    (cv_TooMany : vv_TooMany[2]? = some (.str file_TooMany tf_TooMany))
    (cf_TooMany : ((l.prog.main.file : Str) == file_TooMany) = true)
    (bi_TooMany : ∀ e v, bindArgs (PySem.W.ksFn "__init__" ql_TooMany (xA "limit" p1_TooMany p2_TooMany) (xB "limit" q1_TooMany q2_TooMany q3_TooMany q4_TooMany q5_TooMany q6_TooMany q7_TooMany q8_TooMany q9_TooMany q10_TooMany) (xS "limit") .none kV_TooMany doc_TooMany pm_TooMany an_TooMany (.ref cda_TooMany) ct_TooMany cc_TooMany) ⟨[.ref e, v], []⟩ = pure [((PySem.Str.ofString "self" : Str), .ref e), ("limit", v)])
    (ev_TooMany : ∀ L : Addr, ∃ pl, eval (xCall "limit" q1_TooMany q2_TooMany q3_TooMany q4_TooMany q5_TooMany) (PySem.W.ksEnv ql_TooMany (xS "limit") L fI_TooMany (.ref cda_TooMany) cc_TooMany) = (do
      let ov ← attributeBase (.Call (.Name "super" q1_TooMany) [] [] q2_TooMany) "__init__" (PySem.W.ksEnv ql_TooMany (xS "limit") L fI_TooMany (.ref cda_TooMany) cc_TooMany) (eval (.Call (.Name "super" q1_TooMany) [] [] q2_TooMany) (PySem.W.ksEnv ql_TooMany (xS "limit") L fI_TooMany (.ref cda_TooMany) cc_TooMany))
      standAt q3_TooMany.atName
      let (g, first) ← holding [ov] (getMethod ov "__init__" pl)
      callWith q5_TooMany g first (backTo q5_TooMany (starEach [.Name "limit" q4_TooMany] (PySem.W.ksEnv ql_TooMany (xS "limit") L fI_TooMany (.ref cda_TooMany) cc_TooMany))) []))
    {C_NoPlace : Addr}
    (g_NoPlace : PySem.W.nsIn K mainGlobals "NoPlace" = some (some (.ref C_NoPlace)))
    (ex_NoPlace : PySem.W.subIn K (.ref C_NoPlace) (.type "BaseException") = some true)
    (hd_NoPlace : PySem.W.hasDictIn K C_NoPlace = true)
    (ty_NoPlace : PySem.W.typeIn K (.ref C_NoPlace) = some (.type "type"))
    {nm_NoPlace q_NoPlace : Str} {N_NoPlace : Addr} {bs_NoPlace bm_NoPlace sub_NoPlace : List Value} {sn_NoPlace : List Str} {ab_NoPlace : Bool} {col_NoPlace : Option Bool} {dd_NoPlace : Option Addr} {k0_NoPlace k1_NoPlace k2_NoPlace k3_NoPlace k5_NoPlace : Option Value}
    (cls_NoPlace : K.lookup C_NoPlace = some (excClassObj nm_NoPlace q_NoPlace C_NoPlace N_NoPlace bs_NoPlace bm_NoPlace true sn_NoPlace sub_NoPlace ab_NoPlace col_NoPlace dd_NoPlace k0_NoPlace k1_NoPlace k2_NoPlace k3_NoPlace k5_NoPlace "ValueError.__new__"))
    (ve_NoPlace : PySem.HandSPX.refsVE bm_NoPlace = true)
    (sa_NoPlace : PySem.W.findIn K (.ref C_NoPlace) "__setattr__" = some (some (.builtin "object.__setattr__")))
    (no_NoPlace : PySem.W.findIn K (.ref C_NoPlace) "place" = some none)
    (k_NoPlace : PySem.W.keepIn K (.ref C_NoPlace) = true)
    (vs_NoPlace : PySem.W.subIn K (.ref C_NoPlace) (.type "ValueError") = some true)
    (up_NoPlace : PySem.W.ks_superIn K C_NoPlace C_NoPlace "__init__" = some (some (.builtin "ValueError.__init__")))
    (self_NoPlace : PySem.W.mroIn K C_NoPlace (.ref C_NoPlace) = some true)
    {fI_NoPlace cda_NoPlace cc_NoPlace : Addr} {oc_NoPlace kV_NoPlace doc_NoPlace pm_NoPlace ct_NoPlace cl_NoPlace ccl_NoPlace : Value} {od_NoPlace an_NoPlace cld_NoPlace cdd_NoPlace : Option Addr} {osl_NoPlace csl_NoPlace ccs_NoPlace : Array (Option Value)} {ql_NoPlace file_NoPlace : Str} {vv_NoPlace : Array Value} {tf_NoPlace : Tok} {p1_NoPlace p2_NoPlace q1_NoPlace q2_NoPlace q3_NoPlace q4_NoPlace q5_NoPlace q6_NoPlace q7_NoPlace q8_NoPlace q9_NoPlace q10_NoPlace : Pos}
    (fi_NoPlace : PySem.W.findIn K (.ref C_NoPlace) "__init__" = some (some (.ref fI_NoPlace)))
    (tI_NoPlace : PySem.W.typeIn K (.ref fI_NoPlace) = some (.type "function"))
    (lI_NoPlace : K.lookup fI_NoPlace = some ⟨oc_NoPlace, od_NoPlace, .func (PySem.W.ksFn "__init__" ql_NoPlace (xA "place" p1_NoPlace p2_NoPlace) (xB "place" q1_NoPlace q2_NoPlace q3_NoPlace q4_NoPlace q5_NoPlace q6_NoPlace q7_NoPlace q8_NoPlace q9_NoPlace q10_NoPlace) (xS "place") .none kV_NoPlace doc_NoPlace pm_NoPlace an_NoPlace (.ref cda_NoPlace) ct_NoPlace cc_NoPlace), osl_NoPlace⟩)
    (cd_NoPlace : PySem.W.codeIn K (.ref cda_NoPlace) ql_NoPlace = true)
    (ce_NoPlace : K.lookup cc_NoPlace = some ⟨cl_NoPlace, cld_NoPlace, .cell (some (.ref C_NoPlace)), csl_NoPlace⟩)
    (co_NoPlace : K.lookup cda_NoPlace = some ⟨ccl_NoPlace, cdd_NoPlace, .fields vv_NoPlace, ccs_NoPlace⟩)
    (cv_NoPlace : vv_NoPlace[2]? = some (.str file_NoPlace tf_NoPlace))
    (cf_NoPlace : ((l.prog.main.file : Str) == file_NoPlace) = true)
    (bi_NoPlace : ∀ e v, bindArgs (PySem.W.ksFn "__init__" ql_NoPlace (xA "place" p1_NoPlace p2_NoPlace) (xB "place" q1_NoPlace q2_NoPlace q3_NoPlace q4_NoPlace q5_NoPlace q6_NoPlace q7_NoPlace q8_NoPlace q9_NoPlace q10_NoPlace) (xS "place") .none kV_NoPlace doc_NoPlace pm_NoPlace an_NoPlace (.ref cda_NoPlace) ct_NoPlace cc_NoPlace) ⟨[.ref e, v], []⟩ = pure [((PySem.Str.ofString "self" : Str), .ref e), ("place", v)])
    (ev_NoPlace : ∀ L : Addr, ∃ pl, eval (xCall "place" q1_NoPlace q2_NoPlace q3_NoPlace q4_NoPlace q5_NoPlace) (PySem.W.ksEnv ql_NoPlace (xS "place") L fI_NoPlace (.ref cda_NoPlace) cc_NoPlace) = (do
      let ov ← attributeBase (.Call (.Name "super" q1_NoPlace) [] [] q2_NoPlace) "__init__" (PySem.W.ksEnv ql_NoPlace (xS "place") L fI_NoPlace (.ref cda_NoPlace) cc_NoPlace) (eval (.Call (.Name "super" q1_NoPlace) [] [] q2_NoPlace) (PySem.W.ksEnv ql_NoPlace (xS "place") L fI_NoPlace (.ref cda_NoPlace) cc_NoPlace))
      standAt q3_NoPlace.atName
      let (g, first) ← holding [ov] (getMethod ov "__init__" pl)
      callWith q5_NoPlace g first (backTo q5_NoPlace (starEach [.Name "place" q4_NoPlace] (PySem.W.ksEnv ql_NoPlace (xS "place") L fI_NoPlace (.ref cda_NoPlace) cc_NoPlace))) []))
    {C_Unfit : Addr}
    (g_Unfit : PySem.W.nsIn K mainGlobals "Unfit" = some (some (.ref C_Unfit)))
    (ex_Unfit : PySem.W.subIn K (.ref C_Unfit) (.type "BaseException") = some true)
    (hd_Unfit : PySem.W.hasDictIn K C_Unfit = true)
    (ty_Unfit : PySem.W.typeIn K (.ref C_Unfit) = some (.type "type"))
    (z0 : PySem.W.nsIn K mainGlobals "ValueError" = some none)
    (z1 : PySem.W.nsIn K mainGlobals "abs" = some none)
    (z2 : PySem.W.nsIn K mainGlobals "all" = some none)
    (z3 : PySem.W.nsIn K mainGlobals "bool" = some none)
    (z4 : PySem.W.nsIn K mainGlobals "dict" = some none)
    (z5 : PySem.W.nsIn K mainGlobals "enumerate" = some none)
    (z6 : PySem.W.nsIn K mainGlobals "int" = some none)
    (z7 : PySem.W.nsIn K mainGlobals "isinstance" = some none)
    (z8 : PySem.W.nsIn K mainGlobals "len" = some none)
    (z9 : PySem.W.nsIn K mainGlobals "list" = some none)
    (z10 : PySem.W.nsIn K mainGlobals "min" = some none)
    (z11 : PySem.W.nsIn K mainGlobals "range" = some none)
    (z12 : PySem.W.nsIn K mainGlobals "repr" = some none)
    (z13 : PySem.W.nsIn K mainGlobals "set" = some none)
    (z14 : PySem.W.nsIn K mainGlobals "sorted" = some none)
    (z15 : PySem.W.nsIn K mainGlobals "str" = some none)
    (z16 : PySem.W.nsIn K mainGlobals "sum" = some none)
    (z17 : PySem.W.nsIn K mainGlobals "tuple" = some none)
    {tk0 : Tok}
    (y0 : PySem.W.nsIn K mainGlobals "MOST_OPERATIONS" = some (some (.int 200 tk0)))
    {at1 : Addr} {od_t1 : Option Addr} {nn_t1 : Nat} {sl_t1 : Array (Option Value)} {tk1 : Tok}
    (y1 : PySem.W.nsIn K mainGlobals "SILENT" = some (some (.ref at1)))
    (yl1 : K.lookup at1 = some ⟨.type "tuple", od_t1, .seq #[.str "silent" tk1] nn_t1, sl_t1⟩)
    {tk2 : Tok}
    (y2 : PySem.W.nsIn K mainGlobals "LETTERS" = some (some (.str "abcdefghijklmnopqrstuvwxyz" tk2)))
    {tk3 : Tok}
    (y3 : PySem.W.nsIn K mainGlobals "MOST_LETTERS" = some (some (.int 8 tk3)))
    {tk4 : Tok}
    (y4 : PySem.W.nsIn K mainGlobals "MOST_PARTS" = some (some (.int 3 tk4)))
    {tk5 : Tok}
    (y5 : PySem.W.nsIn K mainGlobals "MOST_ARGUMENTS" = some (some (.int 2 tk5)))
    {tk6 : Tok}
    (y6 : PySem.W.nsIn K mainGlobals "MOST_OUTCOMES" = some (some (.int 6 tk6)))
    {tk7 : Tok}
    (y7 : PySem.W.nsIn K mainGlobals "MOST_BROUGHT" = some (some (.int 2 tk7)))
    {at8 : Addr} {od_t8 : Option Addr} {nn_t8 : Nat} {sl_t8 : Array (Option Value)} {tk8 : Tok}
    (y8 : PySem.W.nsIn K mainGlobals "NIL" = some (some (.ref at8)))
    (yl8 : K.lookup at8 = some ⟨.type "tuple", od_t8, .seq #[.str "nil" tk8] nn_t8, sl_t8⟩)
    {tk9 : Tok}
    (y9 : PySem.W.nsIn K mainGlobals "MOST_VARIABLES" = some (some (.int 24 tk9)))
    {tk10 : Tok}
    (y10 : PySem.W.nsIn K mainGlobals "MOST_TOLD" = some (some (.int 2 tk10)))
    : ∃ fd : FuncData, (∀ (t : Shared) (u : Value), BindsTo t fd ⟨[u], []⟩ [("_law_script", u)]) ∧ ∀ base : Heap, K.In base → base.Ns mainGlobals mg → FnOkG l.prog w K mg base CX0 120 fa fd P_law (sp_law K) := by
  have e := hfa.symm.trans (PySem.W.mg_of X G a53)
  cases e
  exact ⟨_, fun s v => .of_eq rfl, fun base _ _ => ok_law (T := {
    d_put := ⟨_, _, fun_mk l0 c0 k0, PySem.W.mg_of X G a0, (fun_mk l0 c0 k0).binds fun _ _ _ _ _ _ us hl => match us, hl with | [_, _], _ => rfl⟩
    d_put_all := ⟨_, _, fun_mk l1 c1 k1, PySem.W.mg_of X G a1, (fun_mk l1 c1 k1).binds fun _ _ _ _ _ _ us hl => match us, hl with | [_, _], _ => rfl⟩
    d_size := ⟨_, _, fun_mk l2 c2 k2, PySem.W.mg_of X G a2, (fun_mk l2 c2 k2).binds fun _ _ _ _ _ _ us hl => match us, hl with | [_], _ => rfl⟩
    d_leaves := ⟨_, _, fun_mk l3 c3 k3, PySem.W.mg_of X G a3, (fun_mk l3 c3 k3).binds fun _ _ _ _ _ _ us hl => match us, hl with | [_], _ => rfl⟩
    d_size_put := ⟨_, _, fun_mk l4 c4 k4, PySem.W.mg_of X G a4, (fun_mk l4 c4 k4).binds fun _ _ _ _ _ _ us hl => match us, hl with | [_, _], _ => rfl⟩
    d_changed := ⟨_, _, fun_mk l5 c5 k5, PySem.W.mg_of X G a5, (fun_mk l5 c5 k5).binds fun _ _ _ _ _ _ us hl => match us, hl with | [_, _], _ => rfl⟩
    d_after_set := ⟨_, _, fun_mk l6 c6 k6, PySem.W.mg_of X G a6, (fun_mk l6 c6 k6).binds fun _ _ _ _ _ _ us hl => match us, hl with | [_, _], _ => rfl⟩
    d_onward := ⟨_, _, fun_mk l7 c7 k7, PySem.W.mg_of X G a7, (fun_mk l7 c7 k7).binds fun _ _ _ _ _ _ us hl => match us, hl with | [_, _], _ => rfl⟩
    d_head := ⟨_, _, fun_mk l8 c8 k8, PySem.W.mg_of X G a8, (fun_mk l8 c8 k8).binds fun _ _ _ _ _ _ us hl => match us, hl with | [_, _], _ => rfl⟩
    d_answered := ⟨_, _, fun_mk l9 c9 k9, PySem.W.mg_of X G a9, (fun_mk l9 c9 k9).binds fun _ _ _ _ _ _ us hl => match us, hl with | [_, _, _, _], _ => rfl⟩
    d_is_integer := ⟨_, _, fun_mk l10 c10 k10, PySem.W.mg_of X G a10, (fun_mk l10 c10 k10).binds fun _ _ _ _ _ _ us hl => match us, hl with | [_], _ => rfl⟩
    d_is_name := ⟨_, _, fun_mk l11 c11 k11, PySem.W.mg_of X G a11, (fun_mk l11 c11 k11).binds fun _ _ _ _ _ _ us hl => match us, hl with | [_], _ => rfl⟩
    d_is_outcome := ⟨_, _, fun_mk l12 c12 k12, PySem.W.mg_of X G a12, (fun_mk l12 c12 k12).binds fun _ _ _ _ _ _ us hl => match us, hl with | [_], _ => rfl⟩
    d_is_term := ⟨_, _, fun_mk l13 c13 k13, PySem.W.mg_of X G a13, (fun_mk l13 c13 k13).binds fun _ _ _ _ _ _ us hl => match us, hl with | [_], _ => rfl⟩
    d_is_term_over := ⟨_, _, fun_mk l14 c14 k14, PySem.W.mg_of X G a14, (fun_mk l14 c14 k14).binds fun _ _ _ _ _ _ us hl => match us, hl with | [_, _], _ => rfl⟩
    d_is_within := ⟨_, _, fun_mk l15 c15 k15, PySem.W.mg_of X G a15, (fun_mk l15 c15 k15).binds fun _ _ _ _ _ _ us hl => match us, hl with | [_, _], _ => rfl⟩
    d_are_outcomes := ⟨_, _, fun_mk l16 c16 k16, PySem.W.mg_of X G a16, (fun_mk l16 c16 k16).binds fun _ _ _ _ _ _ us hl => match us, hl with | [_], _ => rfl⟩
    d_is_act := ⟨_, _, fun_mk l17 c17 k17, PySem.W.mg_of X G a17, (fun_mk l17 c17 k17).binds fun _ _ _ _ _ _ us hl => match us, hl with | [_], _ => rfl⟩
    d_are_different := ⟨_, _, fun_mk l18 c18 k18, PySem.W.mg_of X G a18, (fun_mk l18 c18 k18).binds fun _ _ _ _ _ _ us hl => match us, hl with | [_, _], _ => rfl⟩
    d_are_terms_over := ⟨_, _, fun_mk l19 c19 k19, PySem.W.mg_of X G a19, (fun_mk l19 c19 k19).binds fun _ _ _ _ _ _ us hl => match us, hl with | [_, _], _ => rfl⟩
    d_is_place := ⟨_, _, fun_mk l20 c20 k20, PySem.W.mg_of X G a20, (fun_mk l20 c20 k20).binds fun _ _ _ _ _ _ us hl => match us, hl with | [_, _], _ => rfl⟩
    d_is_pair := ⟨_, _, fun_mk l21 c21 k21, PySem.W.mg_of X G a21, (fun_mk l21 c21 k21).binds fun _ _ _ _ _ _ us hl => match us, hl with | [_], _ => rfl⟩
    d_is_set := ⟨_, _, fun_mk l22 c22 k22, PySem.W.mg_of X G a22, (fun_mk l22 c22 k22).binds fun _ _ _ _ _ _ us hl => match us, hl with | [_, _, _], _ => rfl⟩
    d_is_way := ⟨_, _, fun_mk l23 c23 k23, PySem.W.mg_of X G a23, (fun_mk l23 c23 k23).binds fun _ _ _ _ _ _ us hl => match us, hl with | [_, _, _, _, _], _ => rfl⟩
    d_is_ask := ⟨_, _, fun_mk l24 c24 k24, PySem.W.mg_of X G a24, (fun_mk l24 c24 k24).binds fun _ _ _ _ _ _ us hl => match us, hl with | [_, _, _, _], _ => rfl⟩
    d_is_end := ⟨_, _, fun_mk l25 c25 k25, PySem.W.mg_of X G a25, (fun_mk l25 c25 k25).binds fun _ _ _ _ _ _ us hl => match us, hl with | [_, _], _ => rfl⟩
    d_is_statement := ⟨_, _, fun_mk l26 c26 k26, PySem.W.mg_of X G a26, (fun_mk l26 c26 k26).binds fun _ _ _ _ _ _ us hl => match us, hl with | [_, _, _, _], _ => rfl⟩
    d_ordered := ⟨_, _, fun_mk l27 c27 k27, PySem.W.mg_of X G a27, (fun_mk l27 c27 k27).binds fun _ _ _ _ _ _ us hl => match us, hl with | [_], _ => rfl⟩
    d_first_of := ⟨_, _, fun_mk l28 c28 k28, PySem.W.mg_of X G a28, (fun_mk l28 c28 k28).binds fun _ _ _ _ _ _ us hl => match us, hl with | [_], _ => rfl⟩
    d__law_bag := ⟨_, _, fun_mk l29 c29 k29, PySem.W.mg_of X G a29, (fun_mk l29 c29 k29).binds fun _ _ _ _ _ _ us hl => match us, hl with | [_], _ => rfl⟩
    d__law_take := ⟨_, _, fun_mk l30 c30 k30, PySem.W.mg_of X G a30, (fun_mk l30 c30 k30).binds fun _ _ _ _ _ _ us hl => match us, hl with | [_, _], _ => rfl⟩
    d__law_alike := ⟨_, _, fun_mk l31 c31 k31, PySem.W.mg_of X G a31, (fun_mk l31 c31 k31).binds fun _ _ _ _ _ _ us hl => match us, hl with | [_, _], _ => rfl⟩
    d__law_mixed := ⟨_, _, fun_mk l32 c32 k32, PySem.W.mg_of X G a32, (fun_mk l32 c32 k32).binds fun _ _ _ _ _ _ us hl => match us, hl with | [_, _], _ => rfl⟩
    d__law_names := ⟨_, _, fun_mk l33 c33 k33, PySem.W.mg_of X G a33, (fun_mk l33 c33 k33).binds fun _ _ _ _ _ _ us hl => match us, hl with | [_, _], _ => rfl⟩
    d__law_term := ⟨_, _, fun_mk l34 c34 k34, PySem.W.mg_of X G a34, (fun_mk l34 c34 k34).binds fun _ _ _ _ _ _ us hl => match us, hl with | [_, _, _, _], _ => rfl⟩
    d__law_put := ⟨_, _, fun_mk l35 c35 k35, PySem.W.mg_of X G a35, (fun_mk l35 c35 k35).binds fun _ _ _ _ _ _ us hl => match us, hl with | [_, _], _ => rfl⟩
    d__law_leaves := ⟨_, _, fun_mk l36 c36 k36, PySem.W.mg_of X G a36, (fun_mk l36 c36 k36).binds fun _ _ _ _ _ _ us hl => match us, hl with | [_], _ => rfl⟩
    d__law_size := ⟨_, _, fun_mk l37 c37 k37, PySem.W.mg_of X G a37, (fun_mk l37 c37 k37).binds fun _ _ _ _ _ _ us hl => match us, hl with | [_], _ => rfl⟩
    d__law_acts := ⟨_, _, fun_mk l38 c38 k38, PySem.W.mg_of X G a38, (fun_mk l38 c38 k38).binds fun _ _ _ _ _ _ us hl => match us, hl with | [_, _], _ => rfl⟩
    d__law_world_of := ⟨_, _, fun_mk l39 c39 k39, PySem.W.mg_of X G a39, (fun_mk l39 c39 k39).binds fun _ _ _ _ _ _ us hl => match us, hl with | [_, _], _ => rfl⟩
    d__law_goal := ⟨_, _, fun_mk l40 c40 k40, PySem.W.mg_of X G a40, (fun_mk l40 c40 k40).binds fun _ _ _ _ _ _ us hl => match us, hl with | [_, _, _], _ => rfl⟩
    d__law_ask := ⟨_, _, fun_mk l41 c41 k41, PySem.W.mg_of X G a41, (fun_mk l41 c41 k41).binds fun _ _ _ _ _ _ us hl => match us, hl with | [_, _, _, _, _, _], _ => rfl⟩
    d__law_line := ⟨_, _, fun_mk l42 c42 k42, PySem.W.mg_of X G a42, (fun_mk l42 c42 k42).binds fun _ _ _ _ _ _ us hl => match us, hl with | [_, _, _, _, _, _], _ => rfl⟩
    d__law_code := ⟨_, _, fun_mk l43 c43 k43, PySem.W.mg_of X G a43, (fun_mk l43 c43 k43).binds fun _ _ _ _ _ _ us hl => match us, hl with | [_, _, _, _], _ => rfl⟩
    d__law_code_of := ⟨_, _, fun_mk l44 c44 k44, PySem.W.mg_of X G a44, (fun_mk l44 c44 k44).binds fun _ _ _ _ _ _ us hl => match us, hl with | [_, _, _], _ => rfl⟩
    d__law_showing := ⟨_, _, fun_mk l45 c45 k45, PySem.W.mg_of X G a45, (fun_mk l45 c45 k45).binds fun _ _ _ _ _ _ us hl => match us, hl with | [_, _], _ => rfl⟩
    d__law_grown := ⟨_, _, fun_mk l46 c46 k46, PySem.W.mg_of X G a46, (fun_mk l46 c46 k46).binds fun _ _ _ _ _ _ us hl => match us, hl with | [_, _], _ => rfl⟩
    d__law_changed := ⟨_, _, fun_mk l47 c47 k47, PySem.W.mg_of X G a47, (fun_mk l47 c47 k47).binds fun _ _ _ _ _ _ us hl => match us, hl with | [_, _], _ => rfl⟩
    d__law_onward := ⟨_, _, fun_mk l48 c48 k48, PySem.W.mg_of X G a48, (fun_mk l48 c48 k48).binds fun _ _ _ _ _ _ us hl => match us, hl with | [_, _], _ => rfl⟩
    d__law_head := ⟨_, _, fun_mk l49 c49 k49, PySem.W.mg_of X G a49, (fun_mk l49 c49 k49).binds fun _ _ _ _ _ _ us hl => match us, hl with | [_, _], _ => rfl⟩
    d__law_filled := ⟨_, _, fun_mk l50 c50 k50, PySem.W.mg_of X G a50, (fun_mk l50 c50 k50).binds fun _ _ _ _ _ _ us hl => match us, hl with | [_, _], _ => rfl⟩
    d__law_is_small := ⟨_, _, fun_mk l51 c51 k51, PySem.W.mg_of X G a51, (fun_mk l51 c51 k51).binds fun _ _ _ _ _ _ us hl => match us, hl with | [_, _, _], _ => rfl⟩
    d__law_right := ⟨_, _, fun_mk l52 c52 k52, PySem.W.mg_of X G a52, (fun_mk l52 c52 k52).binds fun _ _ _ _ _ _ us hl => match us, hl with | [_, _, _, _, _, _], _ => rfl⟩
    d_law := ⟨_, _, fun_mk l53 c53 k53, PySem.W.mg_of X G a53, (fun_mk l53 c53 k53).binds fun _ _ _ _ _ _ us hl => match us, hl with | [_], _ => rfl⟩
    C_World := C_World
    g_World := PySem.W.mg_of X G g_World
    k_World := k_World
    c_World := ⟨pg_World, ic_World, po_World, sa_World⟩
    mk_World := mk_World
    is_World := ⟨ca_World, cn_World, ct_World, cm_World⟩
    p_World_its_acts := p_World_its_acts
    sl_World_its_acts := ⟨at_World_its_acts, get_World_its_acts, tk_World_its_acts, ty_World_its_acts, ix_World_its_acts, by decide⟩
    d_World___init__ := ⟨_, _, fun_mk lm_World___init__ co_World___init__ km_World___init__, ⟨am_World___init__, im_World___init__, km_World___init__⟩, (fun_mk lm_World___init__ co_World___init__ km_World___init__).binds fun _ _ _ _ _ _ us hl => match us, hl with | [_, _], _ => rfl⟩
    d_World_acts := ⟨_, _, fun_mk lm_World_acts co_World_acts km_World_acts, ⟨am_World_acts, im_World_acts, km_World_acts⟩, (fun_mk lm_World_acts co_World_acts km_World_acts).binds fun _ _ _ _ _ _ us hl => match us, hl with | [_], _ => rfl⟩
    d_World_arguments := ⟨_, _, fun_mk lm_World_arguments co_World_arguments km_World_arguments, ⟨am_World_arguments, im_World_arguments, km_World_arguments⟩, (fun_mk lm_World_arguments co_World_arguments km_World_arguments).binds fun _ _ _ _ _ _ us hl => match us, hl with | [_, _], _ => rfl⟩
    d_World_outcomes := ⟨_, _, fun_mk lm_World_outcomes co_World_outcomes km_World_outcomes, ⟨am_World_outcomes, im_World_outcomes, km_World_outcomes⟩, (fun_mk lm_World_outcomes co_World_outcomes km_World_outcomes).binds fun _ _ _ _ _ _ us hl => match us, hl with | [_, _], _ => rfl⟩
    d_World_brings := ⟨_, _, fun_mk lm_World_brings co_World_brings km_World_brings, ⟨am_World_brings, im_World_brings, km_World_brings⟩, (fun_mk lm_World_brings co_World_brings km_World_brings).binds fun _ _ _ _ _ _ us hl => match us, hl with | [_, _, _], _ => rfl⟩
    d_World___eq__ := ⟨_, _, fun_mk lm_World___eq__ co_World___eq__ km_World___eq__, ⟨am_World___eq__, im_World___eq__, km_World___eq__⟩, (fun_mk lm_World___eq__ co_World___eq__ km_World___eq__).binds fun _ _ _ _ _ _ us hl => match us, hl with | [_, _], _ => rfl⟩
    C_Code := C_Code
    g_Code := PySem.W.mg_of X G g_Code
    k_Code := k_Code
    c_Code := ⟨pg_Code, ic_Code, po_Code, sa_Code⟩
    mk_Code := mk_Code
    is_Code := ⟨ca_Code, cn_Code, ct_Code, cm_Code⟩
    p_Code_its_world := p_Code_its_world
    sl_Code_its_world := ⟨at_Code_its_world, get_Code_its_world, tk_Code_its_world, ty_Code_its_world, ix_Code_its_world, by decide⟩
    p_Code_its_variables := p_Code_its_variables
    sl_Code_its_variables := ⟨at_Code_its_variables, get_Code_its_variables, tk_Code_its_variables, ty_Code_its_variables, ix_Code_its_variables, by decide⟩
    p_Code_its_given := p_Code_its_given
    sl_Code_its_given := ⟨at_Code_its_given, get_Code_its_given, tk_Code_its_given, ty_Code_its_given, ix_Code_its_given, by decide⟩
    p_Code_its_statements := p_Code_its_statements
    sl_Code_its_statements := ⟨at_Code_its_statements, get_Code_its_statements, tk_Code_its_statements, ty_Code_its_statements, ix_Code_its_statements, by decide⟩
    d_Code___init__ := ⟨_, _, fun_mk lm_Code___init__ co_Code___init__ km_Code___init__, ⟨am_Code___init__, im_Code___init__, km_Code___init__⟩, (fun_mk lm_Code___init__ co_Code___init__ km_Code___init__).binds fun _ _ _ _ _ _ us hl => match us, hl with | [_, _, _, _, _], _ => rfl⟩
    d_Code___len__ := ⟨_, _, fun_mk lm_Code___len__ co_Code___len__ km_Code___len__, ⟨am_Code___len__, im_Code___len__, km_Code___len__⟩, (fun_mk lm_Code___len__ co_Code___len__ km_Code___len__).binds fun _ _ _ _ _ _ us hl => match us, hl with | [_], _ => rfl⟩
    d_Code_statement := ⟨_, _, fun_mk lm_Code_statement co_Code_statement km_Code_statement, ⟨am_Code_statement, im_Code_statement, km_Code_statement⟩, (fun_mk lm_Code_statement co_Code_statement km_Code_statement).binds fun _ _ _ _ _ _ us hl => match us, hl with | [_, _], _ => rfl⟩
    d_Code_statements := ⟨_, _, fun_mk lm_Code_statements co_Code_statements km_Code_statements, ⟨am_Code_statements, im_Code_statements, km_Code_statements⟩, (fun_mk lm_Code_statements co_Code_statements km_Code_statements).binds fun _ _ _ _ _ _ us hl => match us, hl with | [_], _ => rfl⟩
    d_Code_first := ⟨_, _, fun_mk lm_Code_first co_Code_first km_Code_first, ⟨am_Code_first, im_Code_first, km_Code_first⟩, (fun_mk lm_Code_first co_Code_first km_Code_first).binds fun _ _ _ _ _ _ us hl => match us, hl with | [_], _ => rfl⟩
    d_Code_showing := ⟨_, _, fun_mk lm_Code_showing co_Code_showing km_Code_showing, ⟨am_Code_showing, im_Code_showing, km_Code_showing⟩, (fun_mk lm_Code_showing co_Code_showing km_Code_showing).binds fun _ _ _ _ _ _ us hl => match us, hl with | [_, _], _ => rfl⟩
    d_Code_parts := ⟨_, _, fun_mk lm_Code_parts co_Code_parts km_Code_parts, ⟨am_Code_parts, im_Code_parts, km_Code_parts⟩, (fun_mk lm_Code_parts co_Code_parts km_Code_parts).binds fun _ _ _ _ _ _ us hl => match us, hl with | [_], _ => rfl⟩
    d_Code___eq__ := ⟨_, _, fun_mk lm_Code___eq__ co_Code___eq__ km_Code___eq__, ⟨am_Code___eq__, im_Code___eq__, km_Code___eq__⟩, (fun_mk lm_Code___eq__ co_Code___eq__ km_Code___eq__).binds fun _ _ _ _ _ _ us hl => match us, hl with | [_, _], _ => rfl⟩
    b_ValueError := PySem.W.mg_none_of X G z0
    b_abs := PySem.W.mg_none_of X G z1
    b_all := PySem.W.mg_none_of X G z2
    b_bool := PySem.W.mg_none_of X G z3
    b_dict := PySem.W.mg_none_of X G z4
    b_enumerate := PySem.W.mg_none_of X G z5
    b_int := PySem.W.mg_none_of X G z6
    b_isinstance := PySem.W.mg_none_of X G z7
    b_len := PySem.W.mg_none_of X G z8
    b_list := PySem.W.mg_none_of X G z9
    b_min := PySem.W.mg_none_of X G z10
    b_range := PySem.W.mg_none_of X G z11
    b_repr := PySem.W.mg_none_of X G z12
    b_set := PySem.W.mg_none_of X G z13
    b_sorted := PySem.W.mg_none_of X G z14
    b_str := PySem.W.mg_none_of X G z15
    b_sum := PySem.W.mg_none_of X G z16
    b_tuple := PySem.W.mg_none_of X G z17
    v_MOST_OPERATIONS := _
    c_MOST_OPERATIONS := PySem.W.mg_of X G y0
    r_MOST_OPERATIONS := ⟨_, rfl⟩
    a_SILENT := at1
    c_SILENT := PySem.W.mg_of X G y1
    q_SILENT := fun _ => .inr ⟨_, _, _, yl1, rfl, rfl, (show 1 ≤ sizeLine by decide), .cons ⟨_, rfl⟩ .nil⟩
    v_LETTERS := _
    c_LETTERS := PySem.W.mg_of X G y2
    r_LETTERS := ⟨_, rfl⟩
    v_MOST_LETTERS := _
    c_MOST_LETTERS := PySem.W.mg_of X G y3
    r_MOST_LETTERS := ⟨_, rfl⟩
    v_MOST_PARTS := _
    c_MOST_PARTS := PySem.W.mg_of X G y4
    r_MOST_PARTS := ⟨_, rfl⟩
    v_MOST_ARGUMENTS := _
    c_MOST_ARGUMENTS := PySem.W.mg_of X G y5
    r_MOST_ARGUMENTS := ⟨_, rfl⟩
    v_MOST_OUTCOMES := _
    c_MOST_OUTCOMES := PySem.W.mg_of X G y6
    r_MOST_OUTCOMES := ⟨_, rfl⟩
    v_MOST_BROUGHT := _
    c_MOST_BROUGHT := PySem.W.mg_of X G y7
    r_MOST_BROUGHT := ⟨_, rfl⟩
    a_NIL := at8
    c_NIL := PySem.W.mg_of X G y8
    q_NIL := fun _ => .inr ⟨_, _, _, yl8, rfl, rfl, (show 1 ≤ sizeLine by decide), .cons ⟨_, rfl⟩ .nil⟩
    v_MOST_VARIABLES := _
    c_MOST_VARIABLES := PySem.W.mg_of X G y9
    r_MOST_VARIABLES := ⟨_, rfl⟩
    v_MOST_TOLD := _
    c_MOST_TOLD := PySem.W.mg_of X G y10
    r_MOST_TOLD := ⟨_, rfl⟩
  }) (Y := {
    C_MoveError := C_MoveError
    x_MoveError := ⟨PySem.W.mg_of X G g_MoveError, ex_MoveError, hd_MoveError, ty_MoveError⟩
    C_Wrong := C_Wrong
    x_Wrong := ⟨PySem.W.mg_of X G g_Wrong, ⟨_, _, _, _, _, _, _, _, _, _, _, _, _, _, _, cls_Wrong, ve_Wrong⟩, sa_Wrong, no_Wrong, k_Wrong, ex_Wrong, vs_Wrong, ty_Wrong, hd_Wrong, up_Wrong, opq_, self_Wrong, ⟨_, _, _, _, _, _, _, _, _, _, _, _, _, _, _, _, _, _, _, _, _, _, _, _, fi_Wrong, tI_Wrong, lI_Wrong, cd_Wrong, ⟨_, _, _, ce_Wrong⟩, _, _, _, _, _, _, co_Wrong, cv_Wrong, cf_Wrong, bi_Wrong, ev_Wrong⟩, topS_, PySem.W.mg_none_of X G sup_, by decide +kernel, by decide +kernel, by decide +kernel, by decide +kernel, by decide +kernel⟩
    C_BadAct := C_BadAct
    x_BadAct := ⟨PySem.W.mg_of X G g_BadAct, ⟨_, _, _, _, _, _, _, _, _, _, _, _, _, _, _, cls_BadAct, ve_BadAct⟩, sa_BadAct, no_BadAct, k_BadAct, ex_BadAct, vs_BadAct, ty_BadAct, hd_BadAct, up_BadAct, opq_, self_BadAct, ⟨_, _, _, _, _, _, _, _, _, _, _, _, _, _, _, _, _, _, _, _, _, _, _, _, fi_BadAct, tI_BadAct, lI_BadAct, cd_BadAct, ⟨_, _, _, ce_BadAct⟩, _, _, _, _, _, _, co_BadAct, cv_BadAct, cf_BadAct, bi_BadAct, ev_BadAct⟩, topS_, PySem.W.mg_none_of X G sup_, by decide +kernel, by decide +kernel, by decide +kernel, by decide +kernel, by decide +kernel⟩
    C_BadPlace := C_BadPlace
    x_BadPlace := ⟨PySem.W.mg_of X G g_BadPlace, ⟨_, _, _, _, _, _, _, _, _, _, _, _, _, _, _, cls_BadPlace, ve_BadPlace⟩, sa_BadPlace, no_BadPlace, k_BadPlace, ex_BadPlace, vs_BadPlace, ty_BadPlace, hd_BadPlace, up_BadPlace, opq_, self_BadPlace, ⟨_, _, _, _, _, _, _, _, _, _, _, _, _, _, _, _, _, _, _, _, _, _, _, _, fi_BadPlace, tI_BadPlace, lI_BadPlace, cd_BadPlace, ⟨_, _, _, ce_BadPlace⟩, _, _, _, _, _, _, co_BadPlace, cv_BadPlace, cf_BadPlace, bi_BadPlace, ev_BadPlace⟩, topS_, PySem.W.mg_none_of X G sup_, by decide +kernel, by decide +kernel, by decide +kernel, by decide +kernel, by decide +kernel⟩
    C_TooMany := C_TooMany
    x_TooMany := ⟨PySem.W.mg_of X G g_TooMany, ⟨_, _, _, _, _, _, _, _, _, _, _, _, _, _, _, cls_TooMany, ve_TooMany⟩, sa_TooMany, no_TooMany, k_TooMany, ex_TooMany, vs_TooMany, ty_TooMany, hd_TooMany, up_TooMany, opq_, self_TooMany, ⟨_, _, _, _, _, _, _, _, _, _, _, _, _, _, _, _, _, _, _, _, _, _, _, _, fi_TooMany, tI_TooMany, lI_TooMany, cd_TooMany, ⟨_, _, _, ce_TooMany⟩, _, _, _, _, _, _, co_TooMany, cv_TooMany, cf_TooMany, bi_TooMany, ev_TooMany⟩, topS_, PySem.W.mg_none_of X G sup_, by decide +kernel, by decide +kernel, by decide +kernel, by decide +kernel, by decide +kernel⟩
    C_NoPlace := C_NoPlace
    x_NoPlace := ⟨PySem.W.mg_of X G g_NoPlace, ⟨_, _, _, _, _, _, _, _, _, _, _, _, _, _, _, cls_NoPlace, ve_NoPlace⟩, sa_NoPlace, no_NoPlace, k_NoPlace, ex_NoPlace, vs_NoPlace, ty_NoPlace, hd_NoPlace, up_NoPlace, opq_, self_NoPlace, ⟨_, _, _, _, _, _, _, _, _, _, _, _, _, _, _, _, _, _, _, _, _, _, _, _, fi_NoPlace, tI_NoPlace, lI_NoPlace, cd_NoPlace, ⟨_, _, _, ce_NoPlace⟩, _, _, _, _, _, _, co_NoPlace, cv_NoPlace, cf_NoPlace, bi_NoPlace, ev_NoPlace⟩, topS_, PySem.W.mg_none_of X G sup_, by decide +kernel, by decide +kernel, by decide +kernel, by decide +kernel, by decide +kernel⟩
    C_Unfit := C_Unfit
    x_Unfit := ⟨PySem.W.mg_of X G g_Unfit, ex_Unfit, hd_Unfit, ty_Unfit⟩
  })⟩
end
end Fm
open PySem PySem.W PyProof.Rows
set_option maxHeartbeats 0 in
theorem PySem.Challenge.cw_framemoves_k29_whole_instances_holds : PySem.Challenge.rw_framemoves_k29_whole_instances.Holds := by
  w_on; o_law; k_head; (case hw => w_witness2)
  k_fill
  refine Fm.walk_G (l := PySem.Challenge.rw_framemoves_k29_whole_instances) (n := 63) (k := 120) (x := "_law_script") (sp := Fm.sp_law) rfl (by decide) rfl ⟨rfl, by decide, by decide⟩ (fun w h Y => PySem.W.kIn_of Y) ?F (fun K H a ns hl hS => ⟨a, ns, rfl, hS, hl, fun _ => rfl⟩)
  case F =>
    intro w mg fa h KX G hmg
    refine' Fm.all_mk KX G hmg ?a0 ?l0 ?c0 ?k0 ?a1 ?l1 ?c1 ?k1 ?a2 ?l2 ?c2 ?k2 ?a3 ?l3 ?c3 ?k3 ?a4 ?l4 ?c4 ?k4 ?a5 ?l5 ?c5 ?k5 ?a6 ?l6 ?c6 ?k6 ?a7 ?l7 ?c7 ?k7 ?a8 ?l8 ?c8 ?k8 ?a9 ?l9 ?c9 ?k9 ?a10 ?l10 ?c10 ?k10 ?a11 ?l11 ?c11 ?k11 ?a12 ?l12 ?c12 ?k12 ?a13 ?l13 ?c13 ?k13 ?a14 ?l14 ?c14 ?k14 ?a15 ?l15 ?c15 ?k15 ?a16 ?l16 ?c16 ?k16 ?a17 ?l17 ?c17 ?k17 ?a18 ?l18 ?c18 ?k18 ?a19 ?l19 ?c19 ?k19 ?a20 ?l20 ?c20 ?k20 ?a21 ?l21 ?c21 ?k21 ?a22 ?l22 ?c22 ?k22 ?a23 ?l23 ?c23 ?k23 ?a24 ?l24 ?c24 ?k24 ?a25 ?l25 ?c25 ?k25 ?a26 ?l26 ?c26 ?k26 ?a27 ?l27 ?c27 ?k27 ?a28 ?l28 ?c28 ?k28 ?a29 ?l29 ?c29 ?k29 ?a30 ?l30 ?c30 ?k30 ?a31 ?l31 ?c31 ?k31 ?a32 ?l32 ?c32 ?k32 ?a33 ?l33 ?c33 ?k33 ?a34 ?l34 ?c34 ?k34 ?a35 ?l35 ?c35 ?k35 ?a36 ?l36 ?c36 ?k36 ?a37 ?l37 ?c37 ?k37 ?a38 ?l38 ?c38 ?k38 ?a39 ?l39 ?c39 ?k39 ?a40 ?l40 ?c40 ?k40 ?a41 ?l41 ?c41 ?k41 ?a42 ?l42 ?c42 ?k42 ?a43 ?l43 ?c43 ?k43 ?a44 ?l44 ?c44 ?k44 ?a45 ?l45 ?c45 ?k45 ?a46 ?l46 ?c46 ?k46 ?a47 ?l47 ?c47 ?k47 ?a48 ?l48 ?c48 ?k48 ?a49 ?l49 ?c49 ?k49 ?a50 ?l50 ?c50 ?k50 ?a51 ?l51 ?c51 ?k51 ?a52 ?l52 ?c52 ?k52 ?a53 ?l53 ?c53 ?k53 ?g_World ?k_World ?pg_World ?ic_World ?po_World ?sa_World ?mk_World ?ca_World ?cn_World ?ct_World ?cm_World ?at_World_its_acts ?get_World_its_acts ?tk_World_its_acts ?ty_World_its_acts ?ix_World_its_acts ?am_World___init__ ?im_World___init__ ?lm_World___init__ ?co_World___init__ ?km_World___init__ ?am_World_acts ?im_World_acts ?lm_World_acts ?co_World_acts ?km_World_acts ?am_World_arguments ?im_World_arguments ?lm_World_arguments ?co_World_arguments ?km_World_arguments ?am_World_outcomes ?im_World_outcomes ?lm_World_outcomes ?co_World_outcomes ?km_World_outcomes ?am_World_brings ?im_World_brings ?lm_World_brings ?co_World_brings ?km_World_brings ?am_World___eq__ ?im_World___eq__ ?lm_World___eq__ ?co_World___eq__ ?km_World___eq__ ?g_Code ?k_Code ?pg_Code ?ic_Code ?po_Code ?sa_Code ?mk_Code ?ca_Code ?cn_Code ?ct_Code ?cm_Code ?at_Code_its_given ?get_Code_its_given ?tk_Code_its_given ?ty_Code_its_given ?ix_Code_its_given ?at_Code_its_statements ?get_Code_its_statements ?tk_Code_its_statements ?ty_Code_its_statements ?ix_Code_its_statements ?at_Code_its_variables ?get_Code_its_variables ?tk_Code_its_variables ?ty_Code_its_variables ?ix_Code_its_variables ?at_Code_its_world ?get_Code_its_world ?tk_Code_its_world ?ty_Code_its_world ?ix_Code_its_world ?am_Code___init__ ?im_Code___init__ ?lm_Code___init__ ?co_Code___init__ ?km_Code___init__ ?am_Code___len__ ?im_Code___len__ ?lm_Code___len__ ?co_Code___len__ ?km_Code___len__ ?am_Code_statement ?im_Code_statement ?lm_Code_statement ?co_Code_statement ?km_Code_statement ?am_Code_statements ?im_Code_statements ?lm_Code_statements ?co_Code_statements ?km_Code_statements ?am_Code_first ?im_Code_first ?lm_Code_first ?co_Code_first ?km_Code_first ?am_Code_showing ?im_Code_showing ?lm_Code_showing ?co_Code_showing ?km_Code_showing ?am_Code_parts ?im_Code_parts ?lm_Code_parts ?co_Code_parts ?km_Code_parts ?am_Code___eq__ ?im_Code___eq__ ?lm_Code___eq__ ?co_Code___eq__ ?km_Code___eq__ ?topS_ ?sup_ ?opq_ ?g_MoveError ?ex_MoveError ?hd_MoveError ?ty_MoveError ?g_Wrong ?ex_Wrong ?hd_Wrong ?ty_Wrong ?cls_Wrong ?ve_Wrong ?sa_Wrong ?no_Wrong ?k_Wrong ?vs_Wrong ?up_Wrong ?self_Wrong ?fi_Wrong ?tI_Wrong ?lI_Wrong ?cd_Wrong ?ce_Wrong ?co_Wrong ?cv_Wrong ?cf_Wrong ?bi_Wrong ?ev_Wrong ?g_BadAct ?ex_BadAct ?hd_BadAct ?ty_BadAct ?cls_BadAct ?ve_BadAct ?sa_BadAct ?no_BadAct ?k_BadAct ?vs_BadAct ?up_BadAct ?self_BadAct ?fi_BadAct ?tI_BadAct ?lI_BadAct ?cd_BadAct ?ce_BadAct ?co_BadAct ?cv_BadAct ?cf_BadAct ?bi_BadAct ?ev_BadAct ?g_BadPlace ?ex_BadPlace ?hd_BadPlace ?ty_BadPlace ?cls_BadPlace ?ve_BadPlace ?sa_BadPlace ?no_BadPlace ?k_BadPlace ?vs_BadPlace ?up_BadPlace ?self_BadPlace ?fi_BadPlace ?tI_BadPlace ?lI_BadPlace ?cd_BadPlace ?ce_BadPlace ?co_BadPlace ?cv_BadPlace ?cf_BadPlace ?bi_BadPlace ?ev_BadPlace ?g_TooMany ?ex_TooMany ?hd_TooMany ?ty_TooMany ?cls_TooMany ?ve_TooMany ?sa_TooMany ?no_TooMany ?k_TooMany ?vs_TooMany ?up_TooMany ?self_TooMany ?fi_TooMany ?tI_TooMany ?lI_TooMany ?cd_TooMany ?ce_TooMany ?co_TooMany ?cv_TooMany ?cf_TooMany ?bi_TooMany ?ev_TooMany ?g_NoPlace ?ex_NoPlace ?hd_NoPlace ?ty_NoPlace ?cls_NoPlace ?ve_NoPlace ?sa_NoPlace ?no_NoPlace ?k_NoPlace ?vs_NoPlace ?up_NoPlace ?self_NoPlace ?fi_NoPlace ?tI_NoPlace ?lI_NoPlace ?cd_NoPlace ?ce_NoPlace ?co_NoPlace ?cv_NoPlace ?cf_NoPlace ?bi_NoPlace ?ev_NoPlace ?g_Unfit ?ex_Unfit ?hd_Unfit ?ty_Unfit ?z0 ?z1 ?z2 ?z3 ?z4 ?z5 ?z6 ?z7 ?z8 ?z9 ?z10 ?z11 ?z12 ?z13 ?z14 ?z15 ?z16 ?z17 ?y0 ?y1 ?yl1 ?y2 ?y3 ?y4 ?y5 ?y6 ?y7 ?y8 ?yl8 ?y9 ?y10
    (case a0 => k_is); (case l0 => k_is); (case c0 => k_is); (case k0 => k_is); (case a1 => k_is); (case l1 => k_is); (case c1 => k_is); (case k1 => k_is); (case a2 => k_is); (case l2 => k_is); (case c2 => k_is); (case k2 => k_is); (case a3 => k_is); (case l3 => k_is); (case c3 => k_is); (case k3 => k_is); (case a4 => k_is); (case l4 => k_is); (case c4 => k_is); (case k4 => k_is); (case a5 => k_is); (case l5 => k_is); (case c5 => k_is); (case k5 => k_is); (case a6 => k_is); (case l6 => k_is); (case c6 => k_is); (case k6 => k_is); (case a7 => k_is); (case l7 => k_is); (case c7 => k_is); (case k7 => k_is); (case a8 => k_is); (case l8 => k_is); (case c8 => k_is); (case k8 => k_is); (case a9 => k_is); (case l9 => k_is); (case c9 => k_is); (case k9 => k_is); (case a10 => k_is); (case l10 => k_is); (case c10 => k_is); (case k10 => k_is); (case a11 => k_is); (case l11 => k_is); (case c11 => k_is); (case k11 => k_is); (case a12 => k_is); (case l12 => k_is); (case c12 => k_is); (case k12 => k_is); (case a13 => k_is); (case l13 => k_is); (case c13 => k_is); (case k13 => k_is); (case a14 => k_is); (case l14 => k_is); (case c14 => k_is); (case k14 => k_is); (case a15 => k_is); (case l15 => k_is); (case c15 => k_is); (case k15 => k_is); (case a16 => k_is); (case l16 => k_is); (case c16 => k_is); (case k16 => k_is); (case a17 => k_is); (case l17 => k_is); (case c17 => k_is); (case k17 => k_is); (case a18 => k_is); (case l18 => k_is); (case c18 => k_is); (case k18 => k_is); (case a19 => k_is); (case l19 => k_is); (case c19 => k_is); (case k19 => k_is); (case a20 => k_is); (case l20 => k_is); (case c20 => k_is); (case k20 => k_is); (case a21 => k_is); (case l21 => k_is); (case c21 => k_is); (case k21 => k_is); (case a22 => k_is); (case l22 => k_is); (case c22 => k_is); (case k22 => k_is); (case a23 => k_is); (case l23 => k_is); (case c23 => k_is); (case k23 => k_is); (case a24 => k_is); (case l24 => k_is); (case c24 => k_is); (case k24 => k_is); (case a25 => k_is); (case l25 => k_is); (case c25 => k_is); (case k25 => k_is); (case a26 => k_is); (case l26 => k_is); (case c26 => k_is); (case k26 => k_is); (case a27 => k_is); (case l27 => k_is); (case c27 => k_is); (case k27 => k_is); (case a28 => k_is); (case l28 => k_is); (case c28 => k_is); (case k28 => k_is); (case a29 => k_is); (case l29 => k_is); (case c29 => k_is); (case k29 => k_is); (case a30 => k_is); (case l30 => k_is); (case c30 => k_is); (case k30 => k_is); (case a31 => k_is); (case l31 => k_is); (case c31 => k_is); (case k31 => k_is); (case a32 => k_is); (case l32 => k_is); (case c32 => k_is); (case k32 => k_is); (case a33 => k_is); (case l33 => k_is); (case c33 => k_is); (case k33 => k_is); (case a34 => k_is); (case l34 => k_is); (case c34 => k_is); (case k34 => k_is); (case a35 => k_is); (case l35 => k_is); (case c35 => k_is); (case k35 => k_is); (case a36 => k_is); (case l36 => k_is); (case c36 => k_is); (case k36 => k_is); (case a37 => k_is); (case l37 => k_is); (case c37 => k_is); (case k37 => k_is); (case a38 => k_is); (case l38 => k_is); (case c38 => k_is); (case k38 => k_is); (case a39 => k_is); (case l39 => k_is); (case c39 => k_is); (case k39 => k_is); (case a40 => k_is); (case l40 => k_is); (case c40 => k_is); (case k40 => k_is); (case a41 => k_is); (case l41 => k_is); (case c41 => k_is); (case k41 => k_is); (case a42 => k_is); (case l42 => k_is); (case c42 => k_is); (case k42 => k_is); (case a43 => k_is); (case l43 => k_is); (case c43 => k_is); (case k43 => k_is); (case a44 => k_is); (case l44 => k_is); (case c44 => k_is); (case k44 => k_is); (case a45 => k_is); (case l45 => k_is); (case c45 => k_is); (case k45 => k_is); (case a46 => k_is); (case l46 => k_is); (case c46 => k_is); (case k46 => k_is); (case a47 => k_is); (case l47 => k_is); (case c47 => k_is); (case k47 => k_is); (case a48 => k_is); (case l48 => k_is); (case c48 => k_is); (case k48 => k_is); (case a49 => k_is); (case l49 => k_is); (case c49 => k_is); (case k49 => k_is); (case a50 => k_is); (case l50 => k_is); (case c50 => k_is); (case k50 => k_is); (case a51 => k_is); (case l51 => k_is); (case c51 => k_is); (case k51 => k_is); (case a52 => k_is); (case l52 => k_is); (case c52 => k_is); (case k52 => k_is); (case a53 => k_is); (case l53 => k_is); (case c53 => k_is); (case k53 => k_is); (case g_World => k_is); (case k_World => k_is); (case pg_World => k_is); (case ic_World => k_is); (case po_World => k_is); (case sa_World => k_is); (case mk_World => k_is); (case ca_World => k_is); (case cn_World => k_is); (case ct_World => k_is); (case cm_World => k_is); (case at_World_its_acts => k_is); (case get_World_its_acts => k_is); (case tk_World_its_acts => k_is); (case ty_World_its_acts => k_is); (case ix_World_its_acts => k_is); (case am_World___init__ => k_is); (case im_World___init__ => k_is); (case lm_World___init__ => k_is); (case co_World___init__ => k_is); (case km_World___init__ => k_is); (case am_World_acts => k_is); (case im_World_acts => k_is); (case lm_World_acts => k_is); (case co_World_acts => k_is); (case km_World_acts => k_is); (case am_World_arguments => k_is); (case im_World_arguments => k_is); (case lm_World_arguments => k_is); (case co_World_arguments => k_is); (case km_World_arguments => k_is); (case am_World_outcomes => k_is); (case im_World_outcomes => k_is); (case lm_World_outcomes => k_is); (case co_World_outcomes => k_is); (case km_World_outcomes => k_is); (case am_World_brings => k_is); (case im_World_brings => k_is); (case lm_World_brings => k_is); (case co_World_brings => k_is); (case km_World_brings => k_is); (case am_World___eq__ => k_is); (case im_World___eq__ => k_is); (case lm_World___eq__ => k_is); (case co_World___eq__ => k_is); (case km_World___eq__ => k_is); (case g_Code => k_is); (case k_Code => k_is); (case pg_Code => k_is); (case ic_Code => k_is); (case po_Code => k_is); (case sa_Code => k_is); (case mk_Code => k_is); (case ca_Code => k_is); (case cn_Code => k_is); (case ct_Code => k_is); (case cm_Code => k_is); (case at_Code_its_given => k_is); (case get_Code_its_given => k_is); (case tk_Code_its_given => k_is); (case ty_Code_its_given => k_is); (case ix_Code_its_given => k_is); (case at_Code_its_statements => k_is); (case get_Code_its_statements => k_is); (case tk_Code_its_statements => k_is); (case ty_Code_its_statements => k_is); (case ix_Code_its_statements => k_is); (case at_Code_its_variables => k_is); (case get_Code_its_variables => k_is); (case tk_Code_its_variables => k_is); (case ty_Code_its_variables => k_is); (case ix_Code_its_variables => k_is); (case at_Code_its_world => k_is); (case get_Code_its_world => k_is); (case tk_Code_its_world => k_is); (case ty_Code_its_world => k_is); (case ix_Code_its_world => k_is); (case am_Code___init__ => k_is); (case im_Code___init__ => k_is); (case lm_Code___init__ => k_is); (case co_Code___init__ => k_is); (case km_Code___init__ => k_is); (case am_Code___len__ => k_is); (case im_Code___len__ => k_is); (case lm_Code___len__ => k_is); (case co_Code___len__ => k_is); (case km_Code___len__ => k_is); (case am_Code_statement => k_is); (case im_Code_statement => k_is); (case lm_Code_statement => k_is); (case co_Code_statement => k_is); (case km_Code_statement => k_is); (case am_Code_statements => k_is); (case im_Code_statements => k_is); (case lm_Code_statements => k_is); (case co_Code_statements => k_is); (case km_Code_statements => k_is); (case am_Code_first => k_is); (case im_Code_first => k_is); (case lm_Code_first => k_is); (case co_Code_first => k_is); (case km_Code_first => k_is); (case am_Code_showing => k_is); (case im_Code_showing => k_is); (case lm_Code_showing => k_is); (case co_Code_showing => k_is); (case km_Code_showing => k_is); (case am_Code_parts => k_is); (case im_Code_parts => k_is); (case lm_Code_parts => k_is); (case co_Code_parts => k_is); (case km_Code_parts => k_is); (case am_Code___eq__ => k_is); (case im_Code___eq__ => k_is); (case lm_Code___eq__ => k_is); (case co_Code___eq__ => k_is); (case km_Code___eq__ => k_is); (case topS_ => rfl); (case sup_ => k_is); (case opq_ => k_is); (case g_MoveError => k_is); (case ex_MoveError => k_is); (case hd_MoveError => k_is); (case ty_MoveError => k_is); (case g_Wrong => k_is); (case ex_Wrong => k_is); (case hd_Wrong => k_is); (case ty_Wrong => k_is); (case cls_Wrong => k_is); (case ve_Wrong => decide +kernel); (case sa_Wrong => k_is); (case no_Wrong => k_is); (case k_Wrong => k_is); (case vs_Wrong => k_is); (case up_Wrong => ks_is); (case self_Wrong => k_is); (case fi_Wrong => k_is); (case tI_Wrong => k_is); (case lI_Wrong => k_is); (case cd_Wrong => k_is); (case ce_Wrong => k_is); (case co_Wrong => k_is); (case cv_Wrong => rfl); (case cf_Wrong => decide +kernel); (case bi_Wrong => exact fun _ _ => rfl); (case ev_Wrong => exact fun _ => ⟨_, rfl⟩); (case g_BadAct => k_is); (case ex_BadAct => k_is); (case hd_BadAct => k_is); (case ty_BadAct => k_is); (case cls_BadAct => k_is); (case ve_BadAct => decide +kernel); (case sa_BadAct => k_is); (case no_BadAct => k_is); (case k_BadAct => k_is); (case vs_BadAct => k_is); (case up_BadAct => ks_is); (case self_BadAct => k_is); (case fi_BadAct => k_is); (case tI_BadAct => k_is); (case lI_BadAct => k_is); (case cd_BadAct => k_is); (case ce_BadAct => k_is); (case co_BadAct => k_is); (case cv_BadAct => rfl); (case cf_BadAct => decide +kernel); (case bi_BadAct => exact fun _ _ => rfl); (case ev_BadAct => exact fun _ => ⟨_, rfl⟩); (case g_BadPlace => k_is); (case ex_BadPlace => k_is); (case hd_BadPlace => k_is); (case ty_BadPlace => k_is); (case cls_BadPlace => k_is); (case ve_BadPlace => decide +kernel); (case sa_BadPlace => k_is); (case no_BadPlace => k_is); (case k_BadPlace => k_is); (case vs_BadPlace => k_is); (case up_BadPlace => ks_is); (case self_BadPlace => k_is); (case fi_BadPlace => k_is); (case tI_BadPlace => k_is); (case lI_BadPlace => k_is); (case cd_BadPlace => k_is); (case ce_BadPlace => k_is); (case co_BadPlace => k_is); (case cv_BadPlace => rfl); (case cf_BadPlace => decide +kernel); (case bi_BadPlace => exact fun _ _ => rfl); (case ev_BadPlace => exact fun _ => ⟨_, rfl⟩); (case g_TooMany => k_is); (case ex_TooMany => k_is); (case hd_TooMany => k_is); (case ty_TooMany => k_is); (case cls_TooMany => k_is); (case ve_TooMany => decide +kernel); (case sa_TooMany => k_is); (case no_TooMany => k_is); (case k_TooMany => k_is); (case vs_TooMany => k_is); (case up_TooMany => ks_is); (case self_TooMany => k_is); (case fi_TooMany => k_is); (case tI_TooMany => k_is); (case lI_TooMany => k_is); (case cd_TooMany => k_is); (case ce_TooMany => k_is); (case co_TooMany => k_is); (case cv_TooMany => rfl); (case cf_TooMany => decide +kernel); (case bi_TooMany => exact fun _ _ => rfl); (case ev_TooMany => exact fun _ => ⟨_, rfl⟩); (case g_NoPlace => k_is); (case ex_NoPlace => k_is); (case hd_NoPlace => k_is); (case ty_NoPlace => k_is); (case cls_NoPlace => k_is); (case ve_NoPlace => decide +kernel); (case sa_NoPlace => k_is); (case no_NoPlace => k_is); (case k_NoPlace => k_is); (case vs_NoPlace => k_is); (case up_NoPlace => ks_is); (case self_NoPlace => k_is); (case fi_NoPlace => k_is); (case tI_NoPlace => k_is); (case lI_NoPlace => k_is); (case cd_NoPlace => k_is); (case ce_NoPlace => k_is); (case co_NoPlace => k_is); (case cv_NoPlace => rfl); (case cf_NoPlace => decide +kernel); (case bi_NoPlace => exact fun _ _ => rfl); (case ev_NoPlace => exact fun _ => ⟨_, rfl⟩); (case g_Unfit => k_is); (case ex_Unfit => k_is); (case hd_Unfit => k_is); (case ty_Unfit => k_is); (case z0 => k_is); (case z1 => k_is); (case z2 => k_is); (case z3 => k_is); (case z4 => k_is); (case z5 => k_is); (case z6 => k_is); (case z7 => k_is); (case z8 => k_is); (case z9 => k_is); (case z10 => k_is); (case z11 => k_is); (case z12 => k_is); (case z13 => k_is); (case z14 => k_is); (case z15 => k_is); (case z16 => k_is); (case z17 => k_is); (case y0 => k_is); (case y1 => k_is); (case yl1 => k_is); (case y2 => k_is); (case y3 => k_is); (case y4 => k_is); (case y5 => k_is); (case y6 => k_is); (case y7 => k_is); (case y8 => k_is); (case yl8 => k_is); (case y9 => k_is); (case y10 => k_is)
