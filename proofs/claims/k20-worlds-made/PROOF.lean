import PyProof.Rows.All
import Wide.All
import OpenK.AllK
import Wide.FinOn
import HandS.ForMost
import HandS.IsInst
import HandS.TupAny
import HandS.Wide
import HandS.Deep
import HandS.SetKeys
import HandS.Style
import HandS.Conv
import PyProof.ReprRoads
import HandS.SetFor
import HandS.Strs
import HandS.Walk
import HandS.Sort
import HandS.TupLe
import PyProof.NeKinds
import PyProof.EqAt
import HandS.TupMul
import HandS.ForExc
import HandS.ExcField
import HandS.ExcIs
import KE.KExcSuper
import HandS.SlotsOwn
import KE.KExcIs
import HandS.DictTup
import HandS.ListItems
import HandS.SortOrd
import PyProof.Rows.SortKeyStr
import HandS.SortInts
import HandS.SortKw
import KE.KSortKey
import PyProof.Rows.SortStr
import PyProof.TupleOfSeq
import PyProof.Draws
import PyProof.EnumMake
import HandS.Slots
import KE.KDictOf
import HandS.More
import HandS.ExcOwn
import HandS.Evl
import HandS.DictComp
import HandS.OwnEq
import KE.KEqDict
import PyProof.InstNe
import PySem.Challenge.RW_framemoves_k20_worlds_made
import HandS.Finally
set_option Elab.async false
set_option linter.all false
set_option maxRecDepth 100000
set_option maxHeartbeats 8000000
namespace Fm
open PySem PySem.Spec PyProof.Rows L2

/-! built-in names -/
theorem bt_len : bootBuiltins "len" = some (.builtin "len") := by decide +kernel
theorem bt_abs : bootBuiltins "abs" = some (.builtin "abs") := by decide +kernel
theorem bt_isinstance : bootBuiltins "isinstance" = some (.builtin "isinstance") := by decide +kernel
theorem bt_repr : bootBuiltins "repr" = some (.builtin "repr") := by decide +kernel
theorem bt_sum : bootBuiltins "sum" = some (.builtin "sum") := by decide +kernel
theorem bt_sorted : bootBuiltins "sorted" = some (.builtin "sorted") := by decide +kernel
theorem bt_all : bootBuiltins "all" = some (.builtin "all") := by decide +kernel
theorem bt_int : bootBuiltins "int" = some (.type "int") := by decide +kernel
theorem bt_tuple : bootBuiltins "tuple" = some (.type "tuple") := by decide +kernel
theorem bt_list : bootBuiltins "list" = some (.type "list") := by decide +kernel
theorem bt_dict : bootBuiltins "dict" = some (.type "dict") := by decide +kernel
theorem bt_set : bootBuiltins "set" = some (.type "set") := by decide +kernel
theorem bt_str : bootBuiltins "str" = some (.type "str") := by decide +kernel
theorem bt_bool : bootBuiltins "bool" = some (.type "bool") := by decide +kernel

section
variable {X : Cx} {e l : Expr} {pos : Pos}
theorem pe_ty {x : Str} {n : String} (hm : X.mg x = none) (hv : bootBuiltins x = some (.type n)) (hg : Gl X x := by rfl)
    (h1 : x ≠ "__name__" := by decide) (h2 : (x == ("__debug__" : Str)) = false := by decide) : PE X (.Name x pos) (tC (.ty n)) :=
  pe_bltn hg hm hv rfl h1 h2
/-- one of two readings, chosen ahead -/
theorem pe_or2 {t u : TE} (h : PE X e t) (k : PE X e u) : PE X e (fun σ H Q => t σ H Q ∨ u σ H Q) :=
  ⟨fun pins s σ H Q I q => q.elim (h.run pins s σ H Q I) (k.run pins s σ H Q I)⟩
theorem pi_or2 {tg : Expr} {t u : TI} (h : PI X tg e t) (k : PI X tg e u) : PI X tg e (fun σ H R => t σ H R ∨ u σ H R) :=
  ⟨fun pins s σ H R I q => q.elim (h.run pins s σ H R I) (k.run pins s σ H R I)⟩

def iSeq (K : PySem.W.Frag) (tl : TE) : TI := fun σ H R => tl σ H fun x H1 => ∃ a, x = .ref a ∧
  (((∃ xs, SqL K H1 a xs) ∧ R (Itl K a) H1) ∨ ((∃ xs, SqT K H1 a xs) ∧ R (Itt K a) H1))
theorem pi_seq {tg : Expr} {tl : TE} (hl : PE X l tl) : PI X tg l (iSeq X.K tl) := by
  refine ⟨fun pins s σ H R I h => thn (hl.run pins s σ H _ I h) ?_⟩
  rintro v s1 ⟨x, H1, I1, r1, a, rfl, q⟩
  cases r1
  have fp : ∀ b ∈ [s1.heap.objs.size], FpOk X pins H1 b := fun b hb => by
    rw [List.mem_singleton.mp hb]
    exact I1.fpOk (Nat.le_refl _) (I1.hok.fresh (Nat.le_refl _))
  rcases q with ⟨⟨xs, hq⟩, q⟩ | ⟨⟨xs, hq⟩, q⟩
  · obtain ⟨its, rv, p, hz⟩ := I1.list hq
    exact wpAny_pyIter_list p.isList ⟨_, _, _, _, H1, rfl, I1.kept (t' := s1.toks) fun b o e => Heap.get?_push_of_some _ e, turn_list a _,
      ⟨_, Heap.get?_push_size _ rfl, rfl, rfl⟩, fp, q⟩
  · obtain ⟨its, rv, p, hz⟩ := I1.tuple hq
    exact wpAny_pyIter_tuple (show s1.heap.IsTuple a its.toArray from p) ⟨_, _, _, _, H1, rfl, I1.kept (t' := s1.toks) fun b o e => Heap.get?_push_of_some _ e, turn_tuple a _,
      ⟨_, Heap.get?_push_size _ rfl, rfl, rfl⟩, fp, q⟩

/-! operators by what stands there -/
def rAddS : R2 := fun x y H Q => ∃ i j, x = .str i ∧ y = .str j ∧ i.length + j.length ≤ sizeLine ∧ Q (.str (i ++ j)) H
def rAddG (K : PySem.W.Frag) : R2 := fun x y H Q => rI0 (fun i j => .int (i + j)) x y H Q ∨ (rAddS x y H Q ∨ (rCatA K x y H Q ∨ rCat x y H Q))
theorem op_addG : OpR X (binaryOp .Add) (rAddG X.K) := OpR.or op_add (OpR.or op_add_str (OpR.or op_catA op_cat))
def rMulG : R2 := fun x y H Q => rI CMul (fun i j => .int (i * j)) x y H Q ∨ rRep x y H Q
theorem op_mulG : OpR X (binaryOp .Mult) rMulG := OpR.or op_mul op_rep
def rEqG (K : PySem.W.Frag) : R2 := fun x y H Q => rEq x y H Q ∨ rEqD K x y H Q
theorem op_eqG (hu : X.A.units + 64 < cLine) : OpR X (compareOp .Eq) (rEqG X.K) := OpR.or op_eq (op_eqD hu)
def rNeG (K : PySem.W.Frag) : R2 := fun x y H Q => rNe x y H Q ∨ rNeD K x y H Q
theorem op_neG (hu : X.A.units + 64 < cLine) : OpR X (compareOp .NotEq) (rNeG X.K) := OpR.or op_ne (op_neD hu)
def rInSig : R2 := fun x y H Q => ∃ (c : Nat) (z : Str), x = .str ⟨#[c]⟩ ∧ y = .str z ∧ Q (.bl (decide (c ∈ z.cps.toList))) H
def rInG (K : PySem.W.Frag) : R2 := fun x y H Q => rInD K x y H Q ∨ rInSig x y H Q
theorem op_inG (hu : X.A.units + 65 < cLine) : OpR X (compareOp .In) (rInG X.K) := OpR.or (op_inD hu) op_in_sign
def rNotInSig : R2 := fun x y H Q => ∃ (c : Nat) (z : Str), x = .str ⟨#[c]⟩ ∧ y = .str z ∧ Q (.bl (!decide (c ∈ z.cps.toList))) H
def rNotInG (K : PySem.W.Frag) : R2 := fun x y H Q => rNotInD K x y H Q ∨ rNotInSig x y H Q
theorem op_notInG (hu : X.A.units + 65 < cLine) : OpR X (compareOp .NotIn) (rNotInG X.K) := OpR.or (op_notInD hu) op_notIn_sign
/-- len -/
def rLenG (K : PySem.W.Frag) : List V → Hp → VK → Prop := fun xs H Q =>
  (∃ p ys, xs = [.ref p] ∧ (SqL K H p ys ∨ SqT K H p ys) ∧ Q (.int ys.length) H) ∨ ((∃ z : Str, xs = [.str z] ∧ z.length ≤ sizeLine ∧ Q (.int z.length) H) ∨
    (∃ a kvs, xs = [V.ref a] ∧ H a = some (.dK kvs) ∧ Q (.int kvs.length) H))
theorem call_lenG : CallR X (.builtin "len") (rLenG X.K) := CallR.or call_len_seq (CallR.or call_len_str call_lenD)
/-- tuple(x), list(x) -/
def rTupOf (K : PySem.W.Frag) : List V → Hp → VK → Prop := fun xs H Q => ∃ p ys, xs = [.ref p] ∧ ((SqL K H p ys ∧ ∀ l, H l = none → Q (.ref l) (upd H l (.tup ys))) ∨ (SqT K H p ys ∧ Q (.ref p) H))
theorem call_tupG : CallR X (.type "tuple") (rTupOf X.K) := call_tuple_of
def rListOf (K : PySem.W.Frag) : List V → Hp → VK → Prop := fun xs H Q => ∃ p ys, xs = [.ref p] ∧ (SqL K H p ys ∨ SqT K H p ys) ∧ ∀ l, H l = none → Q (.ref l) (upd H l (.lst ys))
theorem call_listG : CallR X (.type "list") (rListOf X.K) := call_list_of
/-- slices -/
def rSlG (K : PySem.W.Frag) : V → Option Int → Option Int → Hp → VK → Prop := fun x lo hi H Q => rSlL K x lo hi H Q ∨ (rSlA K x lo hi H Q ∨ rSlS x lo hi H Q)
theorem sl_G : SlR X (rSlG X.K) := SlR.or sl_list (SlR.or sl_tupA sl_str)
end
end Fm
namespace Fm
open PySem PySem.Spec PyProof.Rows L2
/-! list.extend by a tuple, whatever its own dict and slots -/
theorem ext_tup (l b : Addr) (as bs : Array Value) (n m : Nat) (dd : Option Addr) (sl : Array (Option Value))
    (h0 : ¬(!as.isEmpty && Builtin.List.listTooLong (as.size + bs.size)) = true) (h1 : as.size ≤ sizeLine) (h2 : as.size + bs.size ≤ sizeLine + 1) :
    Meets (Builtin.«list.extend» ⟨[.ref l, .ref b], []⟩) (fun _ R s =>
      s.heap.get? l = some { cls := .type "list", dict := none, data := .seq as n, slots := #[] } ∧
      s.heap.get? b = some { cls := .type "tuple", dict := dd, data := .seq bs m, slots := sl } ∧
      R (.ok (.ret Value.none)) { s with heap := s.heap.update l (Obj.mapSeq fun x => x ++ bs), toks := s.toks }) := by
  refine .of_wp fun prog w A R s h => ?_
  obtain ⟨hp, g, d, tk, os⟩ := s
  obtain ⟨ha, hb, hr⟩ := h
  have q1 := AutoSeq1.idx_int
  have q2 := AutoSeq1.sub_tuple_tuple
  have q3 := AutoSeq1.sub_list_list
  have q4 := AutoSeq1.sub_tuple_list
  have q5 := AutoSeq1.sub_list_tuple
  have hz : (as ++ bs).size ≤ sizeLine + 1 := by
    rw [Array.size_append]
    exact h2
  wp_walk using (wpAny_updateSeq ha rfl (hz := h1) (_hz' := hz)), AutoSeq1.wpAny_loadPart' ha, AutoSeq1.wpAny_loadPart' hb
  exact ⟨_, rfl, hr⟩
section
variable {X : Cx}
def rExtT (K : PySem.W.Frag) : V → List V → Hp → VK → Prop := fun x vs H Q => ∃ l b xs zs, x = .ref l ∧ vs = [.ref b] ∧ H l = some (.lst xs) ∧ SqT K H b zs ∧
  xs.length + zs.length ≤ sizeLine ∧ Q .non (upd H l (.lst (xs ++ zs)))
theorem mt_extT : MtR X "list.extend" (rExtT X.K) := by
  intro pins s σ H x vs v us Q I rx rv h
  obtain ⟨l, b, xs, zs, rfl, rfl, hH, hB, hz, q⟩ := h
  cases rx
  obtain ⟨u, rfl, ru⟩ := rv.one
  cases ru
  obtain ⟨z, its, n, r, hl, e⟩ := I.lstM hH
  obtain ⟨its2, r2, ⟨⟨cls, dd, data, sl⟩, ho, hc, m, hd⟩, hz2⟩ := I.tuple hB
  simp only at hc hd
  subst hc hd
  have e1 := r.length
  have e2 := r2.length
  have hs : its.toArray.size + its2.toArray.size ≤ sizeLine := by
    rw [List.size_toArray, List.size_toArray]
    omega
  have hlong : ¬ (!its.toArray.isEmpty && Builtin.List.listTooLong (its.toArray.size + its2.toArray.size)) = true := by
    rw [notLongL hs, Bool.and_false]
    exact Bool.false_ne_true
  refine call_meets PySem.F.slot_list_extend ⟨_, e, rfl⟩ PySem.F.entry_list_extend (PySem.F.args_list_extend_2 _ _)
    (ext_tup l b its.toArray its2.toArray n m dd sl hlong (by rw [List.size_toArray]; omega) (by omega)) ⟨e, ho, ?_⟩
  refine ⟨.non, _, I.lset (its' := its ++ its2) hH e (by simp) (r.append r2) ?_, rfl, q⟩
  rw [List.length_append]
  omega
def rExtG (K : PySem.W.Frag) : V → List V → Hp → VK → Prop := fun x vs H Q => rExtend x vs H Q ∨ rExtT K x vs H Q
theorem mt_extendG : MtR X "list.extend" (rExtG X.K) := MtR.or mt_extend mt_extT

/-! repr of data, where no repr is under way -/
def rReprG (K : PySem.W.Frag) : List V → Hp → VK → Prop := fun xs H Q => ∃ (x : V) (d : PyData), xs = [x] ∧ Dp K H x d ∧ d.showable = true ∧ d.hasDict = false ∧ d.depth ≤ 60 ∧ d.shown.length ≤ sizeLine ∧ Q (.str d.shown) H
theorem call_reprG (hg : X.A.guards = some []) (hu : X.A.units + 64 < cLine) : CallR X (.builtin "repr") (rReprG X.K) := by
  intro pins s σ H xs us Q I rv h
  obtain ⟨x, d, rfl, hd, hs, hn, hdp, hz, q⟩ := h
  obtain ⟨u, rfl, ru⟩ := rv.one
  obtain ⟨as, R⟩ := Dp.reads I d x u hd ru
  have fin : ∀ h' (t : Tok) tk, (∀ b o, s.heap.get? b = some o → h'.get? b = some o) → EP X pins σ Q (.str d.shown t) { s with heap := h', toks := tk } := fun h' t tk hk =>
    ⟨.str d.shown, H, I.kept (h' := h') (t' := tk) hk, ⟨t, rfl⟩, q⟩
  cases hd with
  | non =>
    cases ru
    exact PySem.P.repr_of_none (fin s.heap _ _ fun _ _ e => e)
  | bl b =>
    cases ru
    exact PySem.P.repr_of_bool (fin s.heap _ _ fun _ _ e => e)
  | int i =>
    obtain ⟨t, rfl⟩ := ru
    exact PySem.P.repr_of_int (by simpa [PyData.showable] using hs) (fin s.heap _ _ fun _ _ e => e)
  | str y =>
    obtain ⟨t, rfl⟩ := ru
    exact PySem.P.repr_of_str (fin s.heap _ _ fun _ _ e => e) hz
  | lst h1 h2 =>
    cases ru
    exact PySem.repr_of_reads' R hs (fun c => by rw [hn] at c; cases c) hg (by omega) (fun _ _ e => e) (fun h' t tk hk => fin h' t tk hk) hz
  | tup h1 h2 =>
    cases ru
    exact PySem.repr_of_reads' R hs (fun c => by rw [hn] at c; cases c) hg (by omega) (fun _ _ e => e) (fun h' t tk hk => fin h' t tk hk) hz
end

/-! defs that may ask for a repr: called where none is under way -/
structure FnOkG (P : Program) (w : World) (K : PySem.W.Frag) (mg : Str → Option Value) (base : Heap) (CX : CXT) (k : Nat) (f : Addr) (fd : FuncData) (ps : List Str) (sp : Sp) : Prop where
  len : ∀ vs H Q E, sp vs H Q E → vs.length = ps.length
  run : ∀ (A : Around) (outer : List Env) (s : Shared) (H : Hp) (args : Args) (us : List Value) (vs : List V) (Q : VK) (E : XK), A.guards = some [] → Room k A →
    Env0 P w K mg base A outer s H → BindsTo s fd args (ps.zip us) → Vals vs us → sp vs H Q E → codeAny (model P w) A (.call (.ref f) args) (CR CX outer P w H s Q E) s
section
variable {P : Program} {w : World} {K : PySem.W.Frag} {mg : Str → Option Value} {base : Heap} {CX : CXT}
theorem FnOkG.mono {j k : Nat} {f : Addr} {fd : FuncData} {ps : List Str} {sp : Sp} (F : FnOkG P w K mg base CX j f fd ps sp) (h : j ≤ k) : FnOkG P w K mg base CX k f fd ps sp :=
  ⟨F.len, fun A outer s H args us vs Q E hg hr => F.run A outer s H args us vs Q E hg (hr.mono h)⟩
theorem guards_deeper (A : Around) (env : Env) (h : A.guards = some []) : (A.deeper env).guards = some [] := by
  first | exact h | simpa [Around.deeper] using h
/-- a def's promise by its body, as Fun.ok says it, with the guards known -/
theorem okG {x qual : Str} {st : Stmt} {f : Addr} {fd : FuncData} {N ps : List Str} {k : Nat} {sp : Sp} (F : Fun K x qual st f fd) (S : FnScope N ps (defScope st))
    (len : ∀ vs H Q E, sp vs H Q E → vs.length = ps.length)
    (body : ∀ (cdv : Value) (A : Around) (outer : List Env) (s : Shared) (H : Hp) (vs : List V) (Q : VK) (E : XK),
      (A.deeper (envOfC qual (defScope st) s.heap.objs.size f cdv)).guards = some [] → Room k (A.deeper (envOfC qual (defScope st) s.heap.objs.size f cdv)) → sp vs H Q E →
      ∃ t, PSs (cxOf CX0 P w K mg base N qual (defScope st) f cdv A outer s H E).nox (defBody st) t ∧ t { nx := fun _ H' => Q .non H', rt := Q } (start N vs) H) :
    FnOkG P w K mg base CX0 (k + 1) f fd ps sp := by
  obtain ⟨oc, od, kV, doc, pm, an, cdv, ct, osl, rfl, lk, hcd⟩ := F.ex
  refine ⟨len, fun A outer s H args us vs Q E hg hr e0 hb rv hsp => ?_⟩
  have KX : K.In s.heap := e0.mod.kin.keeps fun b o e => (e0.bs b o e).1
  have lim : s.heap.NoLimit := e0.mod.nolimit.keeps fun b o e => (e0.bs b o e).1
  refine codeAny_call_function hr.depth (KX _ _ lk) rfl S.co S.gen rfl (PySem.W.codeRec_of KX hcd) (hb _ _ _ _ ?_)
  refine wpAny_newFunctionEnv_cells S.kind (fun y hy => ?_) fun env he s1 ic => ?_
  · rcases S.par y.1 (List.of_mem_zip (show (y.1, y.2) ∈ ps.zip us from hy)).1 with q | q
    · exact .inl q
    · exact .inr ⟨q, PySem.W.cellsFrom_some _ _ _ (.inl q)⟩
  · subst he
    refine ⟨lim.keeps ic.toInCall.keep, codeAny_func ?_⟩
    obtain ⟨t, ht, hq⟩ := body cdv A outer s H vs Q E (guards_deeper A _ hg) (hr.deeper _) hsp
    have I := inv_start (CX := CX0) (N := N) (E := E) S hr.hd e0 (len _ _ _ _ hsp) rv ic
    refine wpAny_mono (ht.nox.run [] s1 (start N vs) H _ I hq) (fun fl s' hs => ?_) fun e s' hs => hs
    cases fl with
    | ret u =>
      obtain ⟨v, σ', H', J, r', q⟩ := hs
      exact ⟨v, H', J.os, J.bare, J.base, J.hok, r', q⟩
    | next =>
      obtain ⟨σ', H', J, q⟩ := hs
      exact ⟨.non, H', J.os, J.bare, J.base, J.hok, rfl, q⟩
    | brk =>
      obtain ⟨_, _, _, q⟩ := hs
      exact q.elim
    | cont =>
      obtain ⟨_, _, _, q⟩ := hs
      exact q.elim
end
section
variable {X : Cx} {CX : CXT} {k : Nat} {f : Addr} {fd : FuncData} {ps : List Str} {sp : Sp} {dvs : List V} {ds : List Value} {E : XK} {x : Str} {p pos : Pos} {e : Expr} {es : List Expr} {t : TA}
theorem pe_callG (F : FnOkG X.prog X.w X.K X.mg X.base CX k f fd ps sp) (hgd : X.A.guards = some []) (hr : Room k X.A) (hg : Gl X x) (hm : X.mg x = some (.ref f))
    (hk : PySem.W.keepIn X.K (.ref f) = true) (hb : Binds X.K fd ps ds) (hd : Vals dvs ds) (hx : Passes CX X E) (ha : PA X (e :: es) t) (hdb : (x == ("__debug__" : Str)) = false := by decide)
    (he : starEach (e :: es) X.env = (false, eval e X.env) :: starEach es X.env := by rfl) (hpl : (backTo pos (starEach es X.env)).any (·.1) = false := by rfl) :
    PE X (.Call (.Name x p) (e :: es) [] pos) (tCall sp dvs E t) := by
  refine ⟨fun pins s σ H Q I h => wpAny_Call_Name_kw (ld_glob I hg hm ?_ hdb)⟩
  refine PySem.W.callWith_K (h₀ := X.base) I.ok.mod.kin hk (thn (ha.run pos pins s σ H _ I h) ?_) he hpl
  rintro us s1 ⟨vs, H1, I1, rv, q⟩
  refine ⟨I1.kIn, ?_⟩
  have r2 := rv.append hd
  have hl : (us ++ ds).length = ps.length := by
    rw [← r2.length]
    exact F.len _ _ _ _ q
  refine wpAny_call (codeAny_mono (F.run X.A X.stack s1 H1 ⟨us, []⟩ _ _ Q E hgd hr I1.env0 (hb s1 us I1.kIn hl) r2 q) fun r s' hq => ?_)
  match r, hq with
  | .error e, hq => exact hx pins σ H1 s1 e s' I1 hq
  | .ok (.ret u), hq => exact I1.after hq
end
end Fm
namespace Fm
open PySem PySem.Spec PyProof.Rows L2

/-! heaps: what a step leaves -/
/-- tuples stay; all else stays but what stands in S -/
structure Mv (S : List Addr) (H H' : Hp) : Prop where
  tk : ∀ a xs, Rd H a (.tup xs) → Rd H' a (.tup xs)
  keep : ∀ a o, a ∉ S → H a = some o → H' a = some o
section
variable {S T : List Addr} {H H1 H2 : Hp} {p : Addr} {o : HO}
theorem Mv.refl : Mv S H H := ⟨fun _ _ h => h, fun _ _ _ h => h⟩
theorem Mv.trans (a : Mv S H H1) (b : Mv S H1 H2) : Mv S H H2 := ⟨fun c xs h => b.tk c xs (a.tk c xs h), fun c u n h => b.keep c u n (a.keep c u n h)⟩
theorem Mv.mono (a : Mv S H H1) (h : ∀ x ∈ S, x ∈ T) : Mv T H H1 := ⟨a.tk, fun c u n e => a.keep c u (fun z => n (h c z)) e⟩
theorem Mv.of_same (h : Same H H1) : Mv S H H1 := ⟨fun a xs r => r.elim (fun r => .inl (h _ _ r)) fun ⟨o, r⟩ => .inr ⟨o, h _ _ r⟩, fun a o _ e => h a o e⟩
theorem same_new (h : H p = none) : Same H (upd H p o) := fun a u e => by
  rw [upd_ne (ne_of_none e h)]
  exact e
theorem Mv.new (h : H p = none) : Mv S H (upd H p o) := .of_same (same_new h)
theorem Mv.free (a : Mv [] H H1) (h : H1 p = none) : H p = none := by
  cases q : H p with
  | none => rfl
  | some u =>
    rw [a.keep p u (List.not_mem_nil) q] at h
    cases h
theorem Mv.same (a : Mv [] H H1) : Same H H1 := fun c u e => a.keep c u List.not_mem_nil e
/-- what H does not know may be written -/
theorem Mv.wr (a : Mv S H H1) (h : H p = none) : Mv S H (upd H1 p o) := by
  refine ⟨fun c xs r => ?_, fun c u n e => ?_⟩
  · have hc : c ≠ p := by
      rintro rfl
      rcases r with r | ⟨u, r⟩ <;> (rw [h] at r; cases r)
    rcases a.tk c xs r with r | ⟨u, r⟩
    · exact .inl (by rw [upd_ne hc]; exact r)
    · exact .inr ⟨u, by rw [upd_ne hc]; exact r⟩
  · rw [upd_ne (ne_of_none e h)]
    exact a.keep c u n e
/-- a list that stands in S may be written -/
theorem Mv.set {xs : List V} (h : H p = some (.lst xs)) (hp : p ∈ S) : Mv S H (upd H p o) := by
  refine ⟨fun c ys r => ?_, fun c u n e => ?_⟩
  · have hc : c ≠ p := by
      rintro rfl
      rcases r with r | ⟨u, r⟩ <;> (rw [h] at r; cases r)
    rcases r with r | ⟨u, r⟩
    · exact .inl (by rw [upd_ne hc]; exact r)
    · exact .inr ⟨u, by rw [upd_ne hc]; exact r⟩
  · have hc : c ≠ p := fun z => n (by rw [z]; exact hp)
    rw [upd_ne hc]
    exact e
theorem Mv.sqT {K : PySem.W.Frag} {a : Addr} {xs : List V} (m : Mv S H H1) (h : SqT K H a xs) : SqT K H1 a xs := h.elim (fun h => .inl (m.tk a xs h)) .inr
end

/-! data without lists and dicts -/
mutual
def imm : PyData → Bool
  | .none | .bool _ | .int _ | .str _ => true
  | .tuple xs => immAll xs
  | .list _ => false
  | .dict _ => false
def immAll : List PyData → Bool
  | [] => true
  | x :: xs => imm x && immAll xs
end
theorem immAll_iff : ∀ {xs : List PyData}, immAll xs = true ↔ ∀ x ∈ xs, imm x = true
  | [] => by simp [immAll]
  | x :: xs => by simp [immAll, immAll_iff]
structure Im (K : PySem.W.Frag) (H : Hp) (v : V) (d : PyData) : Prop where
  dp : Dp K H v d
  im : imm d = true
structure Ims (K : PySem.W.Frag) (H : Hp) (vs : List V) (ds : List PyData) : Prop where
  dp : DpAll K H vs ds
  im : immAll ds = true
section
variable {K : PySem.W.Frag} {S : List Addr} {H H' : Hp}
mutual
theorem dp_mv (m : Mv S H H') : ∀ (d : PyData) (v : V), imm d = true → Dp K H v d → Dp K H' v d
  | .none, _, _, h => by cases h; exact .non
  | .bool b, _, _, h => by cases h; exact .bl b
  | .int i, _, _, h => by cases h; exact .int i
  | .str x, _, _, h => by cases h; exact .str x
  | .tuple ds, _, i, h => by
    cases h with
    | tup hs ha => exact .tup (m.sqT hs) (dps_mv m ds _ (by simpa [imm] using i) ha)
  | .list ds, _, i, _ => by simp [imm] at i
  | .dict _, _, _, h => by cases h
theorem dps_mv (m : Mv S H H') : ∀ (ds : List PyData) (vs : List V), immAll ds = true → DpAll K H vs ds → DpAll K H' vs ds
  | [], _, _, h => by cases h; exact .nil
  | d :: ds, _, i, h => by
    cases h with
    | cons h1 h2 =>
      have i' : imm d = true ∧ immAll ds = true := by simpa [immAll] using i
      exact .cons (dp_mv m d _ i'.1 h1) (dps_mv m ds _ i'.2 h2)
end
theorem Im.mv {v : V} {d : PyData} (h : Im K H v d) (m : Mv S H H') : Im K H' v d := ⟨dp_mv m d v h.im h.dp, h.im⟩
theorem Ims.mv {vs : List V} {ds : List PyData} (h : Ims K H vs ds) (m : Mv S H H') : Ims K H' vs ds := ⟨dps_mv m ds vs h.im h.dp, h.im⟩
theorem Ims.nil : Ims K H [] [] := ⟨.nil, rfl⟩
theorem Ims.cons {v : V} {vs : List V} {d : PyData} {ds : List PyData} (h : Im K H v d) (k : Ims K H vs ds) : Ims K H (v :: vs) (d :: ds) := ⟨.cons h.dp k.dp, by simp [immAll, h.im, k.im]⟩
theorem Ims.inv {v : V} {vs : List V} {ds : List PyData} (h : Ims K H (v :: vs) ds) : ∃ d ds', ds = d :: ds' ∧ Im K H v d ∧ Ims K H vs ds' := by
  obtain ⟨h, i⟩ := h
  cases h with
  | cons h1 h2 =>
    simp only [immAll, Bool.and_eq_true] at i
    exact ⟨_, _, rfl, ⟨h1, i.1⟩, h2, i.2⟩
theorem Ims.invD {vs : List V} {d : PyData} {ds : List PyData} (h : Ims K H vs (d :: ds)) : ∃ v vs', vs = v :: vs' ∧ Im K H v d ∧ Ims K H vs' ds := by
  obtain ⟨h, i⟩ := h
  cases h with
  | cons h1 h2 =>
    simp only [immAll, Bool.and_eq_true] at i
    exact ⟨_, _, rfl, ⟨h1, i.1⟩, h2, i.2⟩
theorem Ims.nilV {ds : List PyData} (h : Ims K H [] ds) : ds = [] := by
  obtain ⟨h, i⟩ := h
  cases h
  rfl
theorem Ims.nilD {vs : List V} (h : Ims K H vs []) : vs = [] := by
  obtain ⟨h, i⟩ := h
  cases h
  rfl
theorem Ims.length : ∀ {ds : List PyData} {vs : List V}, Ims K H vs ds → vs.length = ds.length
  | [], _, h => by rw [h.nilD]; rfl
  | d :: ds, _, h => by
    obtain ⟨v, vs', rfl, _, k⟩ := h.invD
    simp [k.length]
theorem Ims.append : ∀ {ds es : List PyData} {vs us : List V}, Ims K H vs ds → Ims K H us es → Ims K H (vs ++ us) (ds ++ es)
  | [], _, _, _, h, k => by rw [h.nilD]; exact k
  | d :: ds, _, _, _, h, k => by
    obtain ⟨v, vs', rfl, h1, h2⟩ := h.invD
    exact .cons h1 (h2.append k)
theorem Ims.get : ∀ {ds : List PyData} {vs : List V} {i : Nat} {v : V}, Ims K H vs ds → vs[i]? = some v → ∃ d, ds[i]? = some d ∧ Im K H v d
  | [], _, _, _, h, e => by rw [h.nilD] at e; simp at e
  | d :: ds, _, 0, _, h, e => by
    obtain ⟨v, vs', rfl, h1, h2⟩ := h.invD
    simp at e
    subst e
    exact ⟨d, rfl, h1⟩
  | d :: ds, _, i + 1, _, h, e => by
    obtain ⟨v, vs', rfl, h1, h2⟩ := h.invD
    exact h2.get (i := i) (by simpa using e)
theorem Ims.getD : ∀ {ds : List PyData} {vs : List V} {i : Nat} {d : PyData}, Ims K H vs ds → ds[i]? = some d → ∃ v, vs[i]? = some v ∧ Im K H v d
  | [], _, _, _, h, e => by simp at e
  | d :: ds, _, 0, _, h, e => by
    obtain ⟨v, vs', rfl, h1, h2⟩ := h.invD
    simp at e
    subst e
    exact ⟨v, rfl, h1⟩
  | d :: ds, _, i + 1, _, h, e => by
    obtain ⟨v, vs', rfl, h1, h2⟩ := h.invD
    exact h2.getD (i := i) (by simpa using e)
theorem Im.tupI {v : V} {ds : List PyData} (h : Im K H v (.tuple ds)) : ∃ a xs, v = .ref a ∧ SqT K H a xs ∧ Ims K H xs ds := by
  obtain ⟨h, i⟩ := h
  cases h with
  | tup hs ha => exact ⟨_, _, rfl, hs, ha, by simpa [imm] using i⟩
theorem Im.tup {a : Addr} {xs : List V} {ds : List PyData} (h : SqT K H a xs) (k : Ims K H xs ds) : Im K H (.ref a) (.tuple ds) := ⟨.tup h k.dp, by simpa [imm] using k.im⟩
theorem Im.int (i : Int) : Im K H (.int i) (.int i) := ⟨.int i, rfl⟩
theorem Im.str (x : Str) : Im K H (.str x) (.str x) := ⟨.str x, rfl⟩
theorem Im.bl (b : Bool) : Im K H (.bl b) (.bool b) := ⟨.bl b, rfl⟩
theorem Im.non : Im K H .non .none := ⟨.non, rfl⟩
theorem Im.intI {v : V} {i : Int} (h : Im K H v (.int i)) : v = .int i := by
  obtain ⟨h, _⟩ := h
  cases h
  rfl
theorem Im.strI {v : V} {x : Str} (h : Im K H v (.str x)) : v = .str x := by
  obtain ⟨h, _⟩ := h
  cases h
  rfl
end

/-! the bag of draws -/
def BagC (H : Hp) (b c : Addr) : Prop := ∃ (s m k : Int) (ns : List Int), H b = some (.lst [.int s, .int m, .int k, .ref c]) ∧ H c = some (.lst (ns.map V.int)) ∧ ns.length ≤ 63 ∧
  (∀ n ∈ ns, 0 ≤ n) ∧ 0 ≤ s ∧ 0 ≤ k ∧ 0 ≤ m
def Bag (H : Hp) (b : Addr) : Prop := ∃ c, BagC H b c
theorem BagC.lst {H : Hp} {b c : Addr} (h : BagC H b c) : ∃ xs, H b = some (.lst xs) := by
  obtain ⟨s, m, k, ns, h, _⟩ := h
  exact ⟨_, h⟩
theorem Bag.lst {H : Hp} {b : Addr} (h : Bag H b) : ∃ xs, H b = some (.lst xs) := h.elim fun _ h => h.lst
theorem Bag.ne {H : Hp} {b c : Addr} {xs : List V} {ns : List Int} (h : H b = some (.lst (xs ++ [.ref c]))) (k : H c = some (.lst (ns.map V.int))) : c ≠ b := by
  rintro rfl
  rw [h] at k
  have e : xs ++ [V.ref c] = ns.map V.int := by
    have := Option.some.inj k
    injection this
  have : V.ref c ∈ ns.map V.int := by
    rw [← e]
    simp
  obtain ⟨n, _, q⟩ := List.mem_map.mp this
  cases q
theorem BagC.mv {H H' : Hp} {b c : Addr} (h : BagC H b c) (m : Mv [] H H') : BagC H' b c := by
  obtain ⟨s, m', k, ns, h1, h2, r⟩ := h
  exact ⟨s, m', k, ns, m.same _ _ h1, m.same _ _ h2, r⟩
theorem Bag.mv {H H' : Hp} {b : Addr} (h : Bag H b) (m : Mv [] H H') : Bag H' b := h.elim fun c h => ⟨c, h.mv m⟩
/-- a step that may draw from the bag -/
structure Dr (b : Addr) (H H' : Hp) : Prop where
  mv : Mv [b] H H'
  bagC : ∀ c, BagC H b c → BagC H' b c
section
variable {b p : Addr} {H H' H1 H2 : Hp} {o : HO}
theorem Dr.bag (x : Dr b H H') (h : Bag H b) : Bag H' b := h.elim fun c h => ⟨c, x.bagC c h⟩
theorem Dr.refl : Dr b H H := ⟨.refl, fun _ h => h⟩
theorem Dr.trans (x : Dr b H H1) (y : Dr b H1 H2) : Dr b H H2 := ⟨x.mv.trans y.mv, fun c h => y.bagC c (x.bagC c h)⟩
theorem Dr.of (x : Mv [] H H1) : Dr b H H1 := ⟨x.mono (by simp), fun _ h => h.mv x⟩
theorem Dr.new (h : H p = none) : Dr b H (upd H p o) := .of (.new h)
theorem Dr.free (d : Dr b H H') (hB : Bag H b) (h : H' p = none) : H p = none := by
  cases q : H p with
  | none => rfl
  | some u =>
    by_cases e : p = b
    · subst e
      obtain ⟨xs, hx⟩ := (d.bag hB).lst
      rw [hx] at h
      cases h
    · rw [d.mv.keep p u (by simpa using e) q] at h
      cases h
theorem Dr.get (d : Dr b H H') (hp : p ≠ b) (h : H p = some o) : H' p = some o := d.mv.keep p o (by simpa using hp) h
theorem Dr.wr (d : Dr b H H') (hp : H p = none) : Dr b H (upd H' p o) := by
  refine ⟨d.mv.wr hp, fun c hB => ?_⟩
  obtain ⟨s', m', k', ns', h1', h2', r'⟩ := d.bagC c hB
  obtain ⟨s, m, k, ns, h1, h2, r⟩ := hB
  exact ⟨s', m', k', ns', by rw [upd_ne (ne_of_none h1 hp)]; exact h1', by rw [upd_ne (ne_of_none h2 hp)]; exact h2', r'⟩
theorem Dr.mkc {c : Addr} (m : Mv [b] H H') (h : BagC H b c) (h' : BagC H' b c) : Dr b H H' := ⟨m, fun d k => by
  obtain ⟨_, _, _, _, h1, _⟩ := h
  obtain ⟨_, _, _, _, k1, _⟩ := k
  rw [h1] at k1
  have e := Option.some.inj k1
  injection e with e
  injection e with _ e
  injection e with _ e
  injection e with _ e
  injection e with e _
  injection e with e
  rw [← e]
  exact h'⟩
theorem Bag.fneq (h : Bag H b) (hp : H p = none) : p ≠ b := by
  rintro rfl
  obtain ⟨xs, e⟩ := h.lst
  rw [e] at hp
  cases hp
end

/-! items of a list, by values -/
section
variable {X : Cx}
def rGetL (K : PySem.W.Frag) : V → V → Hp → VK → Prop := fun o i H Q => ∃ (p : Addr) (xs : List V) (j : Nat) (v : V), o = .ref p ∧ i = .int (j : Nat) ∧ SqL K H p xs ∧ xs[j]? = some v ∧ Q v H
theorem get_G : PGet X (rGetL X.K) := by
  intro pins s σ H o i ov iv Q I ro ri h
  obtain ⟨p, xs, j, v, rfl, rfl, hq, he, q⟩ := h
  cases ro
  obtain ⟨t, rfl⟩ := ri
  obtain ⟨its, r, pl, hz⟩ := I.list hq
  obtain ⟨w, ew, rw'⟩ := r.get he
  have hl := r.length
  have hn := line63
  have hj : j < its.length := (List.getElem?_eq_some_iff.mp ew).1
  exact wpAny_getItem_list pl.isList (by omega) (by omega) (by simpa using ew) ⟨v, H, I, rw', q⟩
end
end Fm
namespace Fm
open PySem PySem.Spec PyProof.Rows L2
/-- small letters, one to eight -/
def Nm (x : Str) : Prop := 1 ≤ x.length ∧ x.length ≤ 8 ∧ ∀ c ∈ x.cps.toList, 97 ≤ c ∧ c ≤ 122
instance (x : Str) : Decidable (Nm x) := by unfold Nm; infer_instance
/-! terms -/
inductive Tm where
  | var (i : Int)
  | op (x : Str) (ts : List Tm)
namespace Tm
mutual
def d : Tm → PyData
  | .var i => .int i
  | .op x ts => .tuple (.str x :: ds ts)
def ds : List Tm → List PyData
  | [] => []
  | t :: ts => d t :: ds ts
end
theorem ds_map : ∀ ts : List Tm, ds ts = ts.map d
  | [] => by simp [ds]
  | t :: ts => by simp [ds, ds_map ts]
mutual
def dep : Tm → Nat
  | .var _ => 0
  | .op _ ts => deps ts + 1
def deps : List Tm → Nat
  | [] => 0
  | t :: ts => max (dep t) (deps ts)
end
mutual
/-- how many unknowns stand there -/
def lv : Tm → Nat
  | .var _ => 1
  | .op _ ts => lvs ts
def lvs : List Tm → Nat
  | [] => 0
  | t :: ts => lv t + lvs ts
end
mutual
/-- the unknowns from left to right -/
def leaves : Tm → List Int
  | .var i => [i]
  | .op _ ts => leavesL ts
def leavesL : List Tm → List Int
  | [] => []
  | t :: ts => leaves t ++ leavesL ts
end
mutual
/-- how many operations -/
def size : Tm → Nat
  | .var _ => 0
  | .op _ ts => sizes ts + 1
def sizes : List Tm → Nat
  | [] => 0
  | t :: ts => size t + sizes ts
end
mutual
def put (f : Int → Tm) : Tm → Tm
  | .var i => f i
  | .op x ts => .op x (puts f ts)
def puts (f : Int → Tm) : List Tm → List Tm
  | [] => []
  | t :: ts => put f t :: puts f ts
end
mutual
/-- names are names, at most three parts, the unknowns keep P -/
def ok (P : Int → Prop) : Tm → Prop
  | .var i => P i
  | .op x ts => Nm x ∧ ts.length ≤ 3 ∧ oks P ts
def oks (P : Int → Prop) : List Tm → Prop
  | [] => True
  | t :: ts => ok P t ∧ oks P ts
end
theorem puts_map (f : Int → Tm) : ∀ ts : List Tm, puts f ts = ts.map (put f)
  | [] => by simp [puts]
  | t :: ts => by simp [puts, puts_map f ts]
theorem oks_iff {P : Int → Prop} : ∀ {ts : List Tm}, oks P ts ↔ ∀ t ∈ ts, ok P t
  | [] => by simp [oks]
  | t :: ts => by simp [oks, oks_iff]
theorem deps_le {n : Nat} : ∀ {ts : List Tm}, deps ts ≤ n ↔ ∀ t ∈ ts, dep t ≤ n
  | [] => by simp [deps]
  | t :: ts => by
    have := deps_le (n := n) (ts := ts)
    simp only [deps, List.mem_cons, forall_eq_or_imp, ← this]
    omega
theorem leavesL_append : ∀ ts us : List Tm, leavesL (ts ++ us) = leavesL ts ++ leavesL us
  | [], _ => by simp [leavesL]
  | t :: ts, us => by simp [leavesL, leavesL_append ts us]
theorem sizes_append : ∀ ts us : List Tm, sizes (ts ++ us) = sizes ts + sizes us
  | [], _ => by simp [sizes]
  | t :: ts, us => by
    simp only [List.cons_append, sizes, sizes_append ts us]
    omega
theorem lvs_append : ∀ ts us : List Tm, lvs (ts ++ us) = lvs ts + lvs us
  | [], _ => by simp [lvs]
  | t :: ts, us => by
    simp only [List.cons_append, lvs, lvs_append ts us]
    omega
mutual
theorem leaves_len : ∀ t : Tm, (leaves t).length = lv t
  | .var _ => by simp [leaves, lv]
  | .op _ ts => by simp [leaves, lv, leavesL_len ts]
theorem leavesL_len : ∀ ts : List Tm, (leavesL ts).length = lvs ts
  | [] => by simp [leavesL, lvs]
  | t :: ts => by simp [leavesL, lvs, leaves_len t, leavesL_len ts]
end
mutual
theorem ok_leaves {P : Int → Prop} : ∀ t : Tm, ok P t → ∀ i ∈ leaves t, P i
  | .var j, h, i, hi => by
    simp only [leaves, List.mem_singleton] at hi
    rw [hi]
    exact h
  | .op _ ts, h, i, hi => oks_leaves ts h.2.2 i (by simpa [leaves] using hi)
theorem oks_leaves {P : Int → Prop} : ∀ ts : List Tm, oks P ts → ∀ i ∈ leavesL ts, P i
  | [], _, i, hi => by simp [leavesL] at hi
  | t :: ts, h, i, hi => by
    rcases List.mem_append.mp (show i ∈ leaves t ++ leavesL ts by simpa [leavesL] using hi) with hi | hi
    · exact ok_leaves t h.1 i hi
    · exact oks_leaves ts h.2 i hi
end
mutual
theorem ok_mono {P R : Int → Prop} (h : ∀ i, P i → R i) : ∀ t : Tm, ok P t → ok R t
  | .var i, k => h i k
  | .op _ ts, k => ⟨k.1, k.2.1, oks_mono h ts k.2.2⟩
theorem oks_mono {P R : Int → Prop} (h : ∀ i, P i → R i) : ∀ ts : List Tm, oks P ts → oks R ts
  | [], _ => trivial
  | t :: ts, k => ⟨ok_mono h t k.1, oks_mono h ts k.2⟩
end
mutual
theorem ok_put {P R : Int → Prop} {f : Int → Tm} (h : ∀ i, P i → ok R (f i)) : ∀ t : Tm, ok P t → ok R (put f t)
  | .var i, k => h i k
  | .op _ ts, k => by
    refine ⟨k.1, ?_, oks_puts h ts k.2.2⟩
    rw [puts_map, List.length_map]
    exact k.2.1
theorem oks_puts {P R : Int → Prop} {f : Int → Tm} (h : ∀ i, P i → ok R (f i)) : ∀ ts : List Tm, oks P ts → oks R (puts f ts)
  | [], _ => trivial
  | t :: ts, k => ⟨ok_put h t k.1, oks_puts h ts k.2⟩
end
mutual
theorem dep_put {P : Int → Prop} {f : Int → Tm} {n : Nat} (h : ∀ i, P i → dep (f i) ≤ n) : ∀ t : Tm, ok P t → dep (put f t) ≤ dep t + n
  | .var i, k => by simpa [put, dep] using h i k
  | .op _ ts, k => by
    have := deps_puts h ts k.2.2
    simp only [put, dep]
    omega
theorem deps_puts {P : Int → Prop} {f : Int → Tm} {n : Nat} (h : ∀ i, P i → dep (f i) ≤ n) : ∀ ts : List Tm, oks P ts → deps (puts f ts) ≤ deps ts + n
  | [], _ => by simp [puts, deps]
  | t :: ts, k => by
    have h1 := dep_put h t k.1
    have h2 := deps_puts h ts k.2
    simp only [puts, deps]
    omega
end
mutual
/-- what a term's text may come to, without its unknowns' figures -/
def cst : Tm → Nat
  | .var _ => 0
  | .op _ ts => csts ts + 90
def csts : List Tm → Nat
  | [] => 0
  | t :: ts => cst t + 2 + csts ts
end
mutual
theorem cst_put {P : Int → Prop} {f : Int → Tm} {c : Nat} (h : ∀ i, P i → cst (f i) ≤ c) : ∀ t : Tm, ok P t → cst (put f t) ≤ cst t + lv t * c
  | .var i, k => by simpa [put, cst, lv] using h i k
  | .op _ ts, k => by
    have := csts_puts h ts k.2.2
    simp only [put, cst, lv]
    omega
theorem csts_puts {P : Int → Prop} {f : Int → Tm} {c : Nat} (h : ∀ i, P i → cst (f i) ≤ c) : ∀ ts : List Tm, oks P ts → csts (puts f ts) ≤ csts ts + lvs ts * c
  | [], _ => by simp [puts, csts]
  | t :: ts, k => by
    have h1 := cst_put h t k.1
    have h2 := csts_puts h ts k.2
    simp only [puts, csts, lvs, Nat.add_mul]
    omega
end
mutual
theorem lv_put {P : Int → Prop} {f : Int → Tm} {c : Nat} (h : ∀ i, P i → lv (f i) ≤ c) : ∀ t : Tm, ok P t → lv (put f t) ≤ lv t * c
  | .var i, k => by simpa [put, lv] using h i k
  | .op _ ts, k => by simpa [put, lv] using lvs_puts h ts k.2.2
theorem lvs_puts {P : Int → Prop} {f : Int → Tm} {c : Nat} (h : ∀ i, P i → lv (f i) ≤ c) : ∀ ts : List Tm, oks P ts → lvs (puts f ts) ≤ lvs ts * c
  | [], _ => by simp [puts, lvs]
  | t :: ts, k => by
    have h1 := lv_put h t k.1
    have h2 := lvs_puts h ts k.2
    simp only [puts, lvs, Nat.add_mul]
    omega
end
mutual
theorem put_congr {f g : Int → Tm} : ∀ t : Tm, (∀ i ∈ leaves t, f i = g i) → put f t = put g t
  | .var i, h => h i (by simp [leaves])
  | .op x ts, h => by
    show Tm.op x (puts f ts) = .op x (puts g ts)
    rw [puts_congr ts fun i hi => h i (by simpa [leaves] using hi)]
theorem puts_congr {f g : Int → Tm} : ∀ ts : List Tm, (∀ i ∈ leavesL ts, f i = g i) → puts f ts = puts g ts
  | [], _ => rfl
  | t :: ts, h => by
    show put f t :: puts f ts = put g t :: puts g ts
    rw [put_congr t fun i hi => h i (by simp [leavesL, hi]), puts_congr ts fun i hi => h i (by simp [leavesL, hi])]
end
/-- trees of bounded depth are small -/
theorem small {P : Int → Prop} : ∀ (n : Nat) (t : Tm), ok P t → dep t ≤ n → lv t ≤ 3 ^ n ∧ cst t + 48 ≤ 48 * 3 ^ n
  | 0, .var i, _, _ => by simp [lv, cst]
  | 0, .op x ts, _, h => by simp [dep] at h
  | n + 1, .var i, _, _ => by
    have := Nat.one_le_pow (n + 1) 3 (by decide)
    simp only [lv, cst]
    omega
  | n + 1, .op x ts, k, h => by
    have hd : ∀ t ∈ ts, dep t ≤ n := deps_le.mp (by simp only [dep] at h; omega)
    have ho := oks_iff.mp k.2.2
    have hl := k.2.1
    have ih : ∀ t ∈ ts, lv t ≤ 3 ^ n ∧ cst t + 48 ≤ 48 * 3 ^ n := fun t ht => small n t (ho t ht) (hd t ht)
    have h1 := Nat.one_le_pow n 3 (by decide)
    rw [Nat.pow_succ]
    simp only [lv, cst]
    match ts, hl, ih with
    | [], _, _ => simp only [lvs, csts]; omega
    | [a], _, ih =>
      have := ih a (by simp)
      simp only [lvs, csts]; omega
    | [a, b], _, ih =>
      have := ih a (by simp)
      have := ih b (by simp)
      simp only [lvs, csts]; omega
    | [a, b, c], _, ih =>
      have := ih a (by simp)
      have := ih b (by simp)
      have := ih c (by simp)
      simp only [lvs, csts]; omega
end Tm
mutual
theorem imm_d : ∀ t : Tm, imm t.d = true
  | .var _ => by simp [Tm.d, imm]
  | .op _ ts => by simp [Tm.d, imm, immAll, imm_ds ts]
theorem imm_ds : ∀ ts : List Tm, immAll (Tm.ds ts) = true
  | [] => by simp [Tm.ds, immAll]
  | t :: ts => by simp [Tm.ds, immAll, imm_d t, imm_ds ts]
end
end Fm
namespace Fm
open PySem PySem.Spec PyProof.Rows L2
/-! what is worth a value, the heap as it is -/
structure TV (t : TE) (σ : L2.St) (H : Hp) (v : V) : Prop where
  go : ∀ Q : VK, Q v H → t σ H Q
structure TB (t : TT) (σ : L2.St) (H : Hp) (b : Bool) : Prop where
  go : ∀ Q : Bool → Hp → Prop, Q b H → t σ H Q
theorem vint_eq {i j : Int} : decide (V.int i = V.int j) = decide (i = j) := by
  by_cases e : i = j
  · rw [e, decide_eq_true rfl, decide_eq_true rfl]
  · rw [decide_eq_false e, decide_eq_false fun z => e (V.int.inj z)]
section
variable {K : PySem.W.Frag} {σ : L2.St} {H : Hp} {ta tb : TE} {t u : TT} {a b : Bool} {i j : Int} {x y v : V} {Q : VK}
theorem tv_var {m : Nat} (h : σ[m]? = some (some v)) : TV (tVar m) σ H v := ⟨fun Q q => ⟨v, h, q⟩⟩
theorem tv_c : TV (tC v) σ H v := ⟨fun Q q => q⟩
theorem tv_I {g : Int → Int → V} (ha : TV ta σ H (.int i)) (hb : TV tb σ H (.int j)) : TV (tOp (rI0 g) ta tb) σ H (g i j) := ⟨fun Q q => ha.go _ (hb.go _ ⟨i, j, rfl, rfl, q⟩)⟩
theorem tv_eq (ha : TV ta σ H x) (hb : TV tb σ H y) (hs : scal x y = true) : TV (tOp (rEqG K) ta tb) σ H (.bl (decide (x = y))) := ⟨fun Q q => ha.go _ (hb.go _ (Or.inl ⟨hs, q⟩))⟩
theorem tv_ne (ha : TV ta σ H x) (hb : TV tb σ H y) (hs : scal x y = true) : TV (tOp (rNeG K) ta tb) σ H (.bl (!decide (x = y))) := ⟨fun Q q => ha.go _ (hb.go _ (Or.inl ⟨hs, q⟩))⟩
theorem tv_eqI (ha : TV ta σ H (.int i)) (hb : TV tb σ H (.int j)) : TV (tOp (rEqG K) ta tb) σ H (.bl (decide (i = j))) := by
  rw [← vint_eq]
  exact tv_eq ha hb rfl
theorem tv_neI (ha : TV ta σ H (.int i)) (hb : TV tb σ H (.int j)) : TV (tOp (rNeG K) ta tb) σ H (.bl (!decide (i = j))) := by
  rw [← vint_eq]
  exact tv_ne ha hb rfl
theorem tb_test (h : TV ta σ H (.bl a)) : TB (tTest ta) σ H a := ⟨fun Q q => h.go _ ⟨a, rfl, q⟩⟩
theorem tb_B (h : TV ta σ H (.bl a)) : TB (tB ta) σ H a := ⟨fun Q q => h.go _ ⟨a, rfl, q⟩⟩
theorem tb_and (h : TB t σ H a) (k : TB u σ H b) : TB (tAnd t u) σ H (a && b) := ⟨fun Q q => h.go _ (by
  cases a with
  | true => exact k.go _ q
  | false => exact q)⟩
theorem tb_or (h : TB t σ H a) (k : TB u σ H b) : TB (tOr t u) σ H (a || b) := ⟨fun Q q => h.go _ (by
  cases a with
  | true => exact q
  | false => exact k.go _ q)⟩
theorem tb_not (h : TB t σ H a) : TB (tNot t) σ H (!a) := ⟨fun Q q => h.go _ q⟩
theorem tv_is {w : V} (h : TV ta σ H v) (e : v = w) : TV ta σ H w := by rw [← e]; exact h
theorem st_if {c : TT} {t u : TS} {D : Ends} (h : TB c σ H b) (h1 : b = true → t D σ H) (h2 : b = false → u D σ H) : tIfS c t u D σ H := h.go _ (by
  cases b with
  | true => exact h1 rfl
  | false => exact h2 rfl)
theorem te_if {c : TT} (h : TB c σ H b) (h1 : b = true → ta σ H Q) (h2 : b = false → tb σ H Q) : tIf c ta tb σ H Q := h.go _ (by
  cases b with
  | true => exact h1 rfl
  | false => exact h2 rfl)
/-- isinstance(x, int) of data -/
def isInt : PyData → Bool
  | .int _ => true
  | .bool _ => true
  | _ => false
theorem tyx_dp {d : PyData} (h : Dp K H v d) (hd : imm d = true) : ∃ t : String, TyX K H v (.type t) ∧ (t = "int" ∧ (∃ i, d = .int i) ∨ t = "bool" ∧ (∃ b, d = .bool b) ∨ t = "str" ∧ (∃ x, d = .str x) ∨ t = "NoneType" ∧ d = .none ∨ t = "tuple" ∧ (∃ ds, d = .tuple ds)) := by
  cases h with
  | non => exact ⟨_, .base .non, .inr (.inr (.inr (.inl ⟨rfl, rfl⟩)))⟩
  | bl b => exact ⟨_, .base (.bl b), .inr (.inl ⟨rfl, b, rfl⟩)⟩
  | int i => exact ⟨_, .base (.int i), .inl ⟨rfl, i, rfl⟩⟩
  | str x => exact ⟨_, .base (.str x), .inr (.inr (.inl ⟨rfl, x, rfl⟩))⟩
  | lst h1 h2 => simp [imm] at hd
  | tup h1 h2 =>
    refine ⟨"tuple", ?_, .inr (.inr (.inr (.inr ⟨rfl, _, rfl⟩)))⟩
    rcases h1 with (h1 | ⟨o, h1⟩) | ⟨o, its, n, hk, hc, _⟩
    · exact .base (.tup h1)
    · exact .fTuple h1
    · exact .kTuple hk hc
theorem kit_i1 : kitB "int" "int" = some true := by decide +kernel
theorem kit_i2 : kitB "bool" "int" = some true := by decide +kernel
theorem kit_i3 : kitB "str" "int" = some false := by decide +kernel
theorem kit_i4 : kitB "NoneType" "int" = some false := by decide +kernel
theorem kit_i5 : kitB "tuple" "int" = some false := by decide +kernel
theorem rd_isInt {d : PyData} (h : Im K H v d) (q : Q (.bl (isInt d)) H) : rIsi K [v, .ty "int"] H Q := by
  obtain ⟨t, ht, k⟩ := tyx_dp h.dp h.im
  refine ⟨v, .ty "int", _, _, isInt d, rfl, .ty "int", ht, ?_, q⟩
  rcases k with ⟨rfl, i, rfl⟩ | ⟨rfl, i, rfl⟩ | ⟨rfl, i, rfl⟩ | ⟨rfl, rfl⟩ | ⟨rfl, i, rfl⟩
  · exact kit_ty kit_i1
  · exact kit_ty kit_i2
  · exact kit_ty kit_i3
  · exact kit_ty kit_i4
  · exact kit_ty kit_i5
/-- t + u of tuples -/
theorem rd_cat {a b : Addr} {xs ys : List V} (ha : SqT K H a xs) (hb : SqT K H b ys) (hs : xs.length + ys.length ≤ sizeLine)
    (h : ∀ p H', Mv [] H H' → SqT K H' p (xs ++ ys) → Q (.ref p) H') : rAddG K (.ref a) (.ref b) H Q := by
  refine Or.inr (Or.inr (Or.inl ⟨a, b, xs, ys, rfl, rfl, ha, hb, hs, fun e => ?_, fun _ e => ?_, fun _ _ p np => ?_⟩))
  · subst e
    exact h b H .refl hb
  · subst e
    exact h a H .refl (by rw [List.append_nil]; exact ha)
  · exact h p _ (.new np) (.inl (.inl upd_same))
/-- list + list -/
theorem rd_catL {a b : Addr} {xs ys : List V} (ha : H a = some (.lst xs)) (hb : H b = some (.lst ys)) (hs : xs.length + ys.length ≤ sizeLine)
    (h : ∀ p H', H p = none → Mv [] H H' → H' p = some (.lst (xs ++ ys)) → Q (.ref p) H') : rAddG K (.ref a) (.ref b) H Q :=
  Or.inr (Or.inr (Or.inr ⟨a, b, xs, ys, rfl, rfl, ha, hb, hs, fun p np => h p _ np (.new np) upd_same⟩))
/-- an item of a list -/
theorem rd_ixL {a : Addr} {xs : List V} {i : Int} {v : V} (ha : SqL K H a xs) (h0 : 0 ≤ i) (hv : xs[i.toNat]? = some v) (h : Q v H) : rIx K (.ref a) (.int i) H Q := by
  obtain ⟨j, rfl⟩ := Int.eq_ofNat_of_zero_le h0
  exact Or.inl ⟨a, xs, j, v, rfl, rfl, ha, atI_nat hv, h⟩
theorem rd_ixT {a : Addr} {xs : List V} {i : Int} {v : V} (ha : SqT K H a xs) (h0 : 0 ≤ i) (hv : xs[i.toNat]? = some v) (h : Q v H) : rIx K (.ref a) (.int i) H Q := by
  obtain ⟨j, rfl⟩ := Int.eq_ofNat_of_zero_le h0
  exact Or.inr (Or.inl ⟨a, xs, j, v, rfl, rfl, ha, atI_nat hv, h⟩)
theorem rd_len {a : Addr} {xs : List V} (ha : SqL K H a xs ∨ SqT K H a xs) (h : Q (.int xs.length) H) : rLenG K [.ref a] H Q := Or.inl ⟨a, xs, rfl, ha, h⟩
/-- tuple(list) -/
theorem rd_tupOf {a : Addr} {xs : List V} (ha : SqL K H a xs) (h : ∀ p H', Mv [] H H' → SqT K H' p xs → Q (.ref p) H') : rTupOf K [.ref a] H Q :=
  ⟨a, xs, rfl, .inl ⟨ha, fun p np => h p _ (.new np) (.inl (.inl upd_same))⟩⟩
/-- list(x) -/
theorem rd_listOf {a : Addr} {xs : List V} (ha : SqL K H a xs ∨ SqT K H a xs) (h : ∀ p H', H p = none → Mv [] H H' → H' p = some (.lst xs) → Q (.ref p) H') : rListOf K [.ref a] H Q :=
  ⟨a, xs, rfl, ha, fun p np => h p _ np (.new np) upd_same⟩
/-- a written tuple, a written list -/
theorem rd_tup {ta : TA} (h : ta σ H fun xs H1 => xs.length ≤ sizeLine ∧ ∀ p H', H1 p = none → Mv [] H1 H' → SqT K H' p xs → Q (.ref p) H') (mono : ∀ {R S : List V → Hp → Prop}, (∀ xs H1, R xs H1 → S xs H1) → ta σ H R → ta σ H S) : tTup ta σ H Q :=
  mono (fun xs H1 k => ⟨k.1, fun p np => k.2 p _ np (.new np) (.inl (.inl upd_same))⟩) h
/-- t[1:], t[:1] of a tuple that is not empty -/
theorem rd_sl1 {a : Addr} {x : V} {xs : List V} (ha : SqT K H a (x :: xs)) (h : ∀ p H', Mv [] H H' → SqT K H' p xs → Q (.ref p) H') : rSlG K (.ref a) (some 1) none H Q := by
  have e : HT.sIx (x :: xs).length 0 (some 1) = 1 := by
    rw [show HT.sIx (x :: xs).length 0 (some 1) = min 1 (x :: xs).length from HT.sIx_nat _ 0 1, List.length_cons]
    omega
  refine Or.inr (Or.inl ⟨a, x :: xs, rfl, ha, fun z => ?_, fun _ p np => h p _ (.new np) (.inl (.inl ?_))⟩)
  · rw [e] at z
    omega
  · rw [upd_same]
    unfold cutV
    rw [e, HT.sIx_none, List.length_cons, Nat.add_sub_cancel]
    show some (HO.tup (xs.take xs.length)) = _
    rw [List.take_length]
theorem rd_slA {a : Addr} {x : V} {xs : List V} (ha : SqT K H a (x :: xs)) (h : ∀ p H', Mv [] H H' → SqT K H' p [x] → Q (.ref p) H') : rSlG K (.ref a) none (some 1) H Q := by
  have e : HT.sIx (x :: xs).length (x :: xs).length (some 1) = 1 := by
    rw [show HT.sIx (x :: xs).length (x :: xs).length (some 1) = min 1 (x :: xs).length from HT.sIx_nat _ _ 1, List.length_cons]
    omega
  refine Or.inr (Or.inl ⟨a, x :: xs, rfl, ha, fun z => ?_, fun _ p np => h p _ (.new np) (.inl (.inl ?_))⟩)
  · rw [e] at z
    have e0 : xs = [] := by
      cases xs with
      | nil => rfl
      | cons y ys =>
        have := z.2
        simp at this
    subst e0
    exact h a H .refl ha
  · rw [upd_same]
    unfold cutV
    rw [e, HT.sIx_none]
    rfl
end

/-! loops over a list or a tuple that stays -/
section
variable {K : PySem.W.Frag} {a : Addr} {xs : List V}
theorem for_seq {g : TG} {tb : TS} {D : Ends} {σ : L2.St} {H : Hp} (hS : SqL K H a xs ∨ SqT K H a xs) (Pv : Nat → L2.St → Hp → Prop) (h0 : Pv 0 σ H) (hk : ∀ i σ' H', Pv i σ' H' → Mv [] H H')
    (hs : ∀ i x σ' H', xs[i]? = some x → Pv i σ' H' → g x σ' H' fun σ2 H2 => tb { D with nx := Pv (i + 1), ct := Pv (i + 1), bk := D.nx } σ2 H2) (hd : ∀ σ' H', Pv xs.length σ' H' → D.nx σ' H') :
    ((∃ xs, SqL K H a xs) ∧ ∃ W : Nat → Nat → L2.St → Hp → Prop, (∃ m, W 0 m σ H) ∧ ∀ i m σ H, W i m σ H →
      ((Itl K a).stop i H ∧ D.nx σ H) ∨ ((Itl K a).go i H ∧ ∃ N : L2.St → Hp → Prop, (∀ σ' H', N σ' H' → ∃ m', m' < m ∧ W (i + 1) m' σ' H') ∧ ∀ x H', (Itl K a).yld i H x H' → g x σ H' fun σ2 H2 => tb { D with nx := N, ct := N, bk := D.nx } σ2 H2)) ∨
    ((∃ xs, SqT K H a xs) ∧ ∃ W : Nat → Nat → L2.St → Hp → Prop, (∃ m, W 0 m σ H) ∧ ∀ i m σ H, W i m σ H →
      ((Itt K a).stop i H ∧ D.nx σ H) ∨ ((Itt K a).go i H ∧ ∃ N : L2.St → Hp → Prop, (∀ σ' H', N σ' H' → ∃ m', m' < m ∧ W (i + 1) m' σ' H') ∧ ∀ x H', (Itt K a).yld i H x H' → g x σ H' fun σ2 H2 => tb { D with nx := N, ct := N, bk := D.nx } σ2 H2)) := by
  rcases hS with hS | hS
  · exact .inl ⟨⟨xs, hS⟩, for_list Pv h0 (fun i σ' H' _ p => (hk i σ' H' p).same.seq hS) hs hd⟩
  · exact .inr ⟨⟨xs, hS⟩, for_tup Pv h0 (fun i σ' H' _ p => (hk i σ' H' p).sqT hS) hs hd⟩
theorem lc_seq {g : TG} {tt : TT} {te : TE} {vs : List Nat} {σ : L2.St} {H : Hp} {Qd : Addr → Hp → Prop} (hS : SqL K H a xs ∨ SqT K H a xs) (Pv : Nat → Addr → Hp → Prop) (h0 : ∀ D, H D = none → Pv 0 D (upd H D (.lst [])))
    (hk : ∀ i D H', H D = none → Pv i D H' → Mv [] H H')
    (hs : ∀ D, H D = none → ∀ i x H', xs[i]? = some x → Pv i D H' → g x (wipe σ vs) H' fun σ2 H2 => wipe σ2 vs = wipe σ vs ∧ tt σ2 H2 fun b H3 =>
      if b = true then te σ2 H3 fun y H4 => ∃ acc, H4 D = some (.lst acc) ∧ acc.length < sizeLine ∧ Pv (i + 1) D (upd H4 D (.lst (acc ++ [y]))) else Pv (i + 1) D H3) (hd : ∀ D H', H D = none → Pv xs.length D H' → Qd D H') :
    ((∃ xs, SqL K H a xs) ∧ ∀ D, H D = none → ∃ W : Nat → Nat → Hp → Prop, (∃ m, W 0 m (upd H D (.lst []))) ∧ ∀ i m H, W i m H →
      ((Itl K a).stop i H ∧ Qd D H) ∨ ((Itl K a).go i H ∧ ∃ Nx : Hp → Prop, (∀ H', Nx H' → ∃ m', m' < m ∧ W (i + 1) m' H') ∧ ∀ x H', (Itl K a).yld i H x H' → g x (wipe σ vs) H' fun σ2 H2 => wipe σ2 vs = wipe σ vs ∧ tt σ2 H2 fun b H3 =>
        if b = true then te σ2 H3 fun y H4 => ∃ acc, H4 D = some (.lst acc) ∧ acc.length < sizeLine ∧ Nx (upd H4 D (.lst (acc ++ [y]))) else Nx H3)) ∨
    ((∃ xs, SqT K H a xs) ∧ ∀ D, H D = none → ∃ W : Nat → Nat → Hp → Prop, (∃ m, W 0 m (upd H D (.lst []))) ∧ ∀ i m H, W i m H →
      ((Itt K a).stop i H ∧ Qd D H) ∨ ((Itt K a).go i H ∧ ∃ Nx : Hp → Prop, (∀ H', Nx H' → ∃ m', m' < m ∧ W (i + 1) m' H') ∧ ∀ x H', (Itt K a).yld i H x H' → g x (wipe σ vs) H' fun σ2 H2 => wipe σ2 vs = wipe σ vs ∧ tt σ2 H2 fun b H3 =>
        if b = true then te σ2 H3 fun y H4 => ∃ acc, H4 D = some (.lst acc) ∧ acc.length < sizeLine ∧ Nx (upd H4 D (.lst (acc ++ [y]))) else Nx H3)) := by
  rcases hS with hS | hS
  · exact .inl ⟨⟨xs, hS⟩, fun D nD => lc_list (Pv · D) (h0 D nD) (fun i H' _ p => (hk i D H' nD p).same.seq hS) (hs D nD) (fun H' p => hd D H' nD p)⟩
  · exact .inr ⟨⟨xs, hS⟩, fun D nD => lc_tup (Pv · D) (h0 D nD) (fun i H' _ p => (hk i D H' nD p).sqT hS) (hs D nD) (fun H' p => hd D H' nD p)⟩
end
section
variable {K : PySem.W.Frag} {H : Hp} {Q : VK}
theorem rd_slT {a : Addr} {xs : List V} {lo hi : Option Int} (ha : SqT K H a xs) (h : ∀ p H', Mv [] H H' → SqT K H' p (cutV xs lo hi) → Q (.ref p) H') : rSlG K (.ref a) lo hi H Q := by
  refine Or.inr (Or.inl ⟨a, xs, rfl, ha, fun z => h a H .refl ?_, fun _ p np => h p _ (.new np) (.inl (.inl upd_same))⟩)
  have e : cutV xs lo hi = xs := by
    unfold cutV
    rw [z.1, z.2, List.drop_zero, Nat.sub_zero, List.take_length]
  rw [e]
  exact ha
theorem cut_hi (xs : List V) (k : Nat) : cutV xs none (some (k : Int)) = xs.take k := by
  unfold cutV
  rw [HT.sIx_none, HT.sIx_nat, List.drop_zero, Nat.sub_zero, List.take_eq_take_iff]
  omega
theorem cut_lo (xs : List V) (k : Nat) : cutV xs (some (k : Int)) none = xs.drop k := by
  unfold cutV
  rw [HT.sIx_none, HT.sIx_nat]
  by_cases h : k ≤ xs.length
  · rw [Nat.min_eq_left h, List.take_of_length_le (by rw [List.length_drop]; omega)]
  · rw [Nat.min_eq_right (by omega), List.drop_of_length_le (Nat.le_refl _), List.drop_of_length_le (by omega)]
    simp
end
end Fm
namespace Fm
open PySem PySem.Spec PyProof.Rows L2 HT
/-! t[:0:-1] of a tuple -/
section
variable {prog : Program} {w : World} {A : Around} {E : Value → Shared → Prop} {s : Shared}
theorem back_adjust (n : Nat) : Builtin.Slice.sliceAdjust none (some 0) (-1) (n : Int) = ((n : Int) - 1, min 0 ((n : Int) - 1)) := by
  unfold Builtin.Slice.sliceAdjust
  simp only [show ((-1 : Int) < 0) from by decide, if_true, show ¬ ((0 : Int) < 0) from by decide, if_false]
theorem back_places (n : Nat) : Builtin.Slice.slicePlaces ((n : Int) - 1) (min 0 ((n : Int) - 1)) (-1) = n - 1 := by
  unfold Builtin.Slice.slicePlaces
  simp only [show ¬ ((-1 : Int) > 0) from by decide, if_false, show (- -1 : Int) = 1 from by decide, Int.ediv_one]
  split <;> omega
theorem back_applied {sl : Addr} {vu vs : Value} {n : Nat} {Q : Int × Int × Nat → Shared → Prop} (hs : s.heap.IsSliceOf sl .none vu vs) (pu : IsPart vu (some 0)) (ps : IsPart vs (some (-1)))
    (h : Q ((n : Int) - 1, -1, n - 1) s) : wpAny (model prog w) A (Builtin.Slice.sliceApplied (.ref sl) (pure (n : Int))) Q E s := by
  obtain ⟨os, hos, hcs, hds⟩ := id hs
  unfold Builtin.Slice.sliceApplied Builtin.Slice.sliceFields
  refine wpAny_bind (wpAny_bind (wpAny_field hos hds (x := .none) rfl (wpAny_bind (wpAny_field hos hds (x := vu) rfl (wpAny_bind (wpAny_field hos hds (x := vs) rfl (wpAny_pure ?_)))))))
  refine wpAny_bind (slicePart_ ps ?_)
  show wpAny _ _ (if ((-1 : Int) == 0) = true then _ else _) _ _ s
  rw [if_neg (by decide)]
  refine wpAny_bind (slicePart_none (wpAny_bind (slicePart_ pu (wpAny_bind (wpAny_pure ?_)))))
  show wpAny _ _ (match Builtin.Slice.sliceAdjust none (some 0) (-1) (n : Int) with | (lo, hi) => pure (lo, (-1 : Int), Builtin.Slice.slicePlaces lo hi (-1))) _ _ s
  rw [back_adjust n]
  show wpAny _ _ (pure ((n : Int) - 1, (-1 : Int), Builtin.Slice.slicePlaces ((n : Int) - 1) (min 0 ((n : Int) - 1)) (-1))) _ _ s
  rw [back_places]
  exact wpAny_pure h
theorem fm_congr {α β : Type} {f g : α → Option β} : ∀ {l : List α}, (∀ m ∈ l, f m = g m) → l.filterMap f = l.filterMap g
  | [], _ => rfl
  | x :: l, h => by
    rw [List.filterMap_cons, List.filterMap_cons, h x List.mem_cons_self, fm_congr fun m hm => h m (List.mem_cons_of_mem _ hm)]
theorem back_pick (y : Value) (l : List Value) : ((List.range l.length).filterMap fun (m : Nat) => (y :: l).toArray[((((y :: l).toArray.size : Nat) : Int) - 1 + (m : Int) * (-1)).toNat]?).toArray = l.reverse.toArray := by
  congr 1
  have e : ∀ m ∈ List.range l.length, (y :: l).toArray[((((y :: l).toArray.size : Nat) : Int) - 1 + (m : Int) * (-1)).toNat]? = l[l.length - 1 - m]? := by
    intro m hm
    have hm := List.mem_range.mp hm
    have e1 : ((((y :: l).toArray.size : Nat) : Int) - 1 + (m : Int) * (-1)).toNat = (l.length - 1 - m) + 1 := by
      simp only [List.size_toArray, List.length_cons]
      omega
    rw [e1]
    simp
  rw [fm_congr e]
  apply List.ext_getElem?
  intro i
  have e2 : (List.range l.length).filterMap (fun m => l[l.length - 1 - m]?) = (List.range l.length).filterMap (fun m => l.reverse[m]?) := by
    apply fm_congr
    intro m hm
    have hm := List.mem_range.mp hm
    rw [List.getElem?_reverse hm]
  rw [e2]
  have e3 : (List.range l.length).filterMap (fun m => l.reverse[m]?) = l.reverse := by
    have := PySem.W.krv_all l.reverse.toArray
    simpa using this
  rw [e3]
theorem getItem_back {t sl : Addr} {y : Value} {l : List Value} {vu vs : Value} {Q : Value → Shared → Prop} (ht : IsTup s.heap t (y :: l).toArray) (hs : s.heap.IsSliceOf sl .none vu vs) (pu : IsPart vu (some 0)) (ps : IsPart vs (some (-1)))
    (hz : l.length ≤ sizeLine) (h : Q (.ref s.heap.objs.size) { s with heap := s.heap.push { cls := .type "tuple", data := .seq l.reverse.toArray } }) : wpAny (model prog w) A (getItem (.ref t) (.ref sl)) Q E s := by
  obtain ⟨os, hos, hcs, hds⟩ := id hs
  have hTs : s.TypeIs (.ref sl) "slice" := ⟨os, hos, hcs⟩
  have hfit : sizeOk (.seq l.reverse.toArray) := by
    show l.reverse.toArray.size ≤ sizeLine
    rw [List.size_toArray, List.length_reverse]
    exact hz
  unfold getItem
  try with_reducible refine wpAny_holding ?_
  first | refine wpAny_bind (wpAny_pure ?_) | skip
  refine wpAny_bind (wpAny_sequenceKey ht.typeIs (by decide) ?_)
  refine wpAny_bind (wpAny_callSpecial?_slot (name := Str.ofString "__getitem__") ht.typeIs PyProof.Rows.slot_tuple_getitem
    (wpAny_call_entry PyProof.Rows.slot_tuple_getitem ht.typeIs entry_tuple_getitem ?_ (args_tuple_getitem _ _)))
  show wpAny _ _ (Builtin.Tuple.tupleItemsOf (.ref t) >>= _) _ _ s
  refine wpAny_bind (tupleItemsOf_ ht (wpAny_bind (wpAny_typeOf hTs ?_)))
  rw [if_pos (by decide)]
  refine wpAny_bind (back_applied hs pu ps ?_)
  have hno : ¬ (((((y :: l).toArray.size : Nat) : Int) - 1 == 0 && (-1 : Int) == 1 && ((y :: l).toArray.size - 1) == (y :: l).toArray.size) = true) := by
    simp
  show wpAny _ _ (if ((((y :: l).toArray.size : Nat) : Int) - 1 == 0 && (-1 : Int) == 1 && ((y :: l).toArray.size - 1) == (y :: l).toArray.size) = true then _ else _) _ _ s
  rw [if_neg hno]
  have e : (y :: l).toArray.size - 1 = l.length := by simp
  rw [e, back_pick]
  first
    | exact wpAny_bind (m := Builtin.Tuple.tupleExact _) (wpAny_newObj_type (wpAny_pure ⟨_, rfl, wpAny_pure h⟩) hfit)
    | exact wpAny_bind (m := Builtin.Tuple.tupleExact _) (wpAny_newObj_type (wpAny_bind (wpAny_pure (wpAny_pure ⟨_, rfl, wpAny_pure h⟩))) hfit)
    | exact wpAny_bind (wpAny_bind (m := Builtin.Tuple.tupleExact _) (wpAny_newObj_type (wpAny_pure (wpAny_pure ⟨_, rfl, wpAny_pure h⟩)) hfit))
    | exact wpAny_bind (wpAny_bind (m := Builtin.Tuple.tupleExact _) (wpAny_newObj_type (wpAny_pure ⟨_, rfl, wpAny_pure h⟩) hfit))
end
section
variable {X : Cx}
def tBack (K : PySem.W.Frag) (te : TE) : TE := fun σ H Q => te σ H fun x H1 => ∃ a y ys, x = .ref a ∧ SqT K H1 a (y :: ys) ∧ ∀ p, H1 p = none → Q (.ref p) (upd H1 p (.tup ys.reverse))
theorem pe_slice3 {e : Expr} {te : TE} {k k0 : Nat} {p0 p1 p2 p3 pos : Pos} (he : PE X e te) :
    PE X (.Subscript e (.Slice none (some (.Constant (.int 0) k0 p0)) (some (.UnaryOp .USub (.Constant (.int 1) k p1) p2)) p3) pos) (tBack X.K te) := by
  refine ⟨fun pins s σ H Q I h => Subscript_ (thn (he.run pins s σ H _ I h) ?_)⟩
  rintro v s1 ⟨x, H1, I1, r1, a, y, ys, rfl, hx, q⟩
  cases r1
  have hup : PO X (some (.Constant (.int 0) k0 p0)) (tPart (tC (.int 0))) := po_some pe_int
  have hst : PO X (some (.UnaryOp .USub (.Constant (.int 1) k p1) p2)) (tPart (tUn (rU fun i => .int (-i)) (tC (.int 1)))) := po_some (pe_un un_neg pe_int)
  refine wpAny_Slice (thn (po_none.run pins s1 σ H1 (fun o H2 => o = none ∧ H2 = H1) I1 ⟨rfl, rfl⟩) ?_)
  rintro vl s2 ⟨l, H2, I2, pl, rfl, rfl⟩
  refine thn (hup.run pins s2 σ H2 (fun o H3 => o = some 0 ∧ H3 = H2) I2 ⟨0, rfl, rfl, rfl⟩) ?_
  rintro vu s3 ⟨u, H3, I3, pu, rfl, rfl⟩
  refine thn (hst.run pins s3 σ H3 (fun o H4 => o = some (-1) ∧ H4 = H3) I3 ⟨1, rfl, -1, rfl, rfl, rfl⟩) ?_
  rintro vs s4 ⟨o, H4, I4, ps, rfl, rfl⟩
  have I5 : Inv X pins σ H4 { s4 with heap := s4.heap.push { cls := .type "slice", data := .fields #[vl, vu, vs] } } := I4.kept (t' := s4.toks) fun b ob q => Heap.get?_push_of_some _ q
  obtain ⟨its, r, ht, hz⟩ := I5.tuple hx
  cases pl
  cases r with
  | @cons _ uy _ us ry rs =>
    have hl := rs.length
    show wpAny (model X.prog X.w) X.A (subscriptTail e (.Slice none (some (.Constant (.int 0) k0 p0)) (some (.UnaryOp .USub (.Constant (.int 1) k p1) p2)) p3) (.ref a) (.ref s4.heap.objs.size)) (EP X pins σ Q) X.xe { s4 with heap := s4.heap.push { cls := .type "slice", data := .fields #[.none, vu, vs] } }
    refine tail_any (ops := [.ref a, .ref s4.heap.objs.size]) ht.typeIs (PyProof.Rows.slot_tuple_getitem.lookup) ?_ (by with_unfolding_all rfl)
    have hz' : us.length ≤ sizeLine := by
      rw [List.length_cons] at hz
      omega
    refine getItem_back ht (Heap.IsSliceOf.new _ .none vu vs) pu ps hz' ?_
    refine ⟨.ref _, _, I5.laid (t' := s4.toks) (o := .tup ys.reverse) (fun b ob q => Heap.get?_push_of_some _ q) (Nat.le_refl _) ?_, rfl, q _ (I5.hok.fresh (Nat.le_refl _))⟩
    exact ⟨by rw [List.length_reverse]; omega, _, Vals.reverse rs, IsTup.new _ _⟩
end
end Fm
namespace Fm
open PySem PySem.Spec PyProof.Rows L2
/-! set(xs) of a list of ints -/
section
variable {P : Program} {w : World} {A : Around} {E : Value → Shared → Prop} {s : Shared}
/-- the empty set as it is laid -/
abbrev eset (w : World) : Obj := { cls := .type "set", dict := none, data := .set #[] 0 (.fresh 0 0 (!w.params.followText "set-order")) }
abbrev hset (w : World) (h : Heap) : Heap := h.push (eset w)
set_option maxHeartbeats 8000000 in
theorem set_of_list {l : Addr} {its : Array Value} (ns : List Int) {Q : Value → Shared → Prop} (hh : A.handled = none) (hl : s.heap.IsList l its) (hi : IntsAre its.toList ns) (hb : ns.length + 1 < scanBound)
    (h : ∀ (g : Heap) (tk c : Nat), SetR w g s.heap.objs.size (fun j => decide (j ∈ ns)) c → (∀ b o, s.heap.get? b = some o → g.get? b = some o) → Q (.ref s.heap.objs.size) { s with heap := g, toks := tk }) :
    wpAny (model P w) A (call (.type "set") [.ref l]) Q E s := by
  have hn : its.size = ns.length := by rw [← Array.length_toList]; exact IntsAre.length hi
  obtain ⟨mc, mt, mro⟩ := F.called_set.mro
  have mk1 := F.called_set.made
  have mk2 := F.called_set.sub
  refine wpAny_call (codeAny_of_tree (show wpAny _ _ (callAny (.type "set") _) _ _ _ from wpAny_pure ⟨Code.quiet_builtin _ (by decide +kernel), codeAny_builtin F.entry_type_call ?_⟩))
  rw [Around.under_plain (weight_type_call_type "set" [.ref l] []) rfl]
  have mk3 := F.called_set.notType
  have mk4 := F.called_set.canCreate
  have mk5 := F.typeCall_set_1 (.ref l)
  repeat (any_goals (first | assumption | wp_step))
  refine codeAny_mono (code_set_led1 (w := w) (s := s) (.ref l) (E := E)
    (Q₁ := fun obj s₁ => obj = .ref s.heap.objs.size ∧ s₁ = { s with heap := hset w s.heap }) ⟨rfl, rfl⟩) fun r s₁ hr => ?_
  match r, hr with
  | .error e, hr => exact hr
  | .ok (.ret obj), hr =>
    obtain ⟨rfl, rfl⟩ := hr
    have here : (hset w s.heap).get? s.heap.objs.size = some (eset w) := Heap.get?_push_size _ rfl
    have isS : Shared.TypeIs { s with heap := hset w s.heap } (.ref s.heap.objs.size) "set" := ⟨_, here, rfl⟩
    have in1 := F.called_set.init.lookup
    have in2 := F.called_set.init.bind (.ref s.heap.objs.size)
    repeat (any_goals (first | assumption | wp_step))
    have goes : codeAny (model P w) A.in1 (.call (.builtin "set.__init__") ⟨[.ref s.heap.objs.size, .ref l], []⟩) (wants (fun r s₂ => r = .none ∧ ∃ g tk c,
        s₂ = { s with heap := g, toks := tk } ∧ SetR w g s.heap.objs.size (fun j => decide (j ∈ ns)) c ∧ ∀ b o, s.heap.get? b = some o → g.get? b = some o) E) { s with heap := hset w s.heap } := by
      refine codeAny_call_builtin F.called_set.init.plain F.entry_set_init (check_set_init_1 isS ?_)
      obtain ⟨⟨oc, od, dt, sl⟩, hol, hcl, nl, hdl⟩ := id hl
      simp only at hcl hdl
      subst hcl hdl
      have lt := Heap.lt_size hol
      have hol2 : (hset w s.heap).get? l = some _ := Heap.get?_push_of_some _ hol
      have hl2 : (hset w s.heap).IsList l its := ⟨_, hol2, rfl, nl, rfl⟩
      have no1 := F.sub_list_set
      have no2 := F.sub_list_frozenset
      have no3 : (Value.type "list" == Value.type "dict") = false := by decide
      unfold Builtin.«set.__init__» noKeywords Builtin.Frozenset.updateFrom
      generalize hPI : pyIter = PI
      wp_walk
      subst hPI
      refine wpAny_pyIter_list hl2 (wpAny_bind (wpAny_runValue ?_))
      have sz2 : (hset w s.heap).objs.size = s.heap.objs.size + 1 := Heap.size_push ..
      have neI : l ≠ (hset w s.heap).objs.size := by
        rw [sz2]
        exact Nat.ne_of_lt (Nat.lt_succ_of_lt lt)
      have notIn : s.heap.objs.size ∉ [(hset w s.heap).objs.size, l] := by
        rw [sz2]
        intro z
        rcases List.mem_cons.mp z with z | z
        · exact Nat.ne_of_lt (Nat.lt_succ_self _) z
        · exact Nat.ne_of_gt lt (List.mem_singleton.mp z)
      have val : ∀ (i : Nat) (v : Value), its[i]? = some v → ∃ k t, ns[i]? = some k ∧ v = .int k t := fun i v hv => by
        have hi' : i < ns.length := by
          rw [← hn]
          exact (Array.getElem?_eq_some_iff.mp hv).1
        obtain ⟨t, e⟩ := PyProof.Rows.IntsAre.int_at hi i v (by rw [Array.getElem?_toList]; exact hv)
        have e2 : ns.getD i 0 = ns[i] := by rw [List.getD_eq_getElem?_getD, List.getElem?_eq_getElem hi']; rfl
        exact ⟨ns[i], t, List.getElem?_eq_getElem hi', by rw [e, e2]⟩
      have hh3 : A.in1.in1.in1.handled = none := by simp [hh]
      refine set_update_ints ((Walks.list hh3 _ l neI its).toS) s.heap.objs.size notIn ns hn hb val (its.size - 0) 0 _ (by omega) (Nat.zero_le _) ?st ?s0 ?fin
      case st => exact ⟨⟨_, Heap.get?_push_size _ rfl, rfl, rfl⟩, hl2.push _⟩
      case s0 => exact ⟨0, Nat.le_refl 0, setR_new_at (Heap.get?_push_of_some _ here)⟩
      case fin =>
        rintro ⟨g, gg, dd, tk, oo⟩ c' mv hc' hS'
        have e1 : gg = s.gens := mv.gens
        have e2 : dd = s.drawn := mv.drawn
        have e3 : oo = s.os := mv.os
        subst e1 e2 e3
        refine wpAny_pure (show wpAny _ _ (ret Value.none) _ _ _ from wpAny_pure ⟨rfl, g, tk, c', rfl, hS', fun b o e => ?_⟩)
        have b0 := Heap.lt_size e
        refine mv.heap b o (fun z => ?_) (Heap.get?_push_of_some _ (Heap.get?_push_of_some _ e))
        rcases List.mem_cons.mp z with z | z
        · exact Nat.ne_of_lt b0 z
        · have z2 := List.mem_singleton.mp z
          rw [sz2] at z2
          exact Nat.ne_of_lt (Nat.lt_succ_of_lt b0) z2
    refine codeAny_mono goes fun r₂ s₂ hr₂ => ?_
    match r₂, hr₂ with
    | .error e, hr₂ => exact hr₂
    | .ok (.ret r), hr₂ =>
      obtain ⟨rfl, g, tk, c', rfl, hS', hk'⟩ := hr₂
      repeat (any_goals (first | assumption | wp_step))
      exact h _ _ _ hS' hk'
end
section
variable {X : Cx}
/-- set(xs): its numbers; sorted(set) -/
def rSetOfL (K : PySem.W.Frag) (w : World) : List V → Hp → VK → Prop := fun xs H Q => ∃ (l : Addr) (ns : List Int), xs = [V.ref l] ∧ SqL K H l (ns.map V.int) ∧ ns.length ≤ 4000 ∧
  ∀ p (n : Nat) (ks : List Int), H p = none → ks.Nodup → ks.length = n → (∀ k, k ∈ ks ↔ k ∈ ns) → Q (.ref p) (upd H p (SetO w p (fun j => decide (j ∈ ns)) n))
theorem cr_setG (hc : X.calm = true) : CallR X (.type "set") (rSetOfL X.K X.w) := by
  intro pins s σ H xs us Q I r h
  obtain ⟨l, ns, rfl, hl, hb, q⟩ := h
  rw [Vals.ref1 r]
  obtain ⟨its, rv, pl, hz⟩ := I.list hl
  refine set_of_list ns (I.ok.hd hc) pl.isList (by simpa using intsAre_of rv) (Nat.lt_of_le_of_lt (Nat.succ_le_succ hb) (by decide)) fun g tk c R hk => ?_
  obtain ⟨o, es, ep, t, h1, h2, h3, h4, h5, h6, h7, h8, h9, h10⟩ := id R
  refine ⟨.ref _, upd H s.heap.objs.size (SetO X.w s.heap.objs.size (fun j => decide (j ∈ ns)) c), I.laid (t' := tk) hk (Nat.le_refl _) (setO_new R), rfl, ?_⟩
  refine q _ c (es.toList.map keyOf) (I.hok.fresh (Nat.le_refl _)) h5 (by rw [List.length_map, Array.length_toList]; exact h9) fun k => ?_
  rw [← h6 k]
  simp
theorem cr_sortedG (hc : X.calm = true) : CallR X (.builtin "sorted") (fun xs H Q => rSortedSet X.w xs H Q ∨ rSorted X.K xs H Q) := CallR.or (cr_sortedSet hc) cr_sorted
end
end Fm
namespace Fm
open PySem PySem.Spec PyProof.Rows L2
/-! data that can be compared and shown -/
mutual
def fine : PyData → Prop
  | .none => True
  | .bool _ => True
  | .int i => i.natAbs < 10 ^ 40
  | .str x => PyData.strOk x = true
  | .list xs => fineAll xs
  | .tuple xs => fineAll xs
  | .dict _ => False
def fineAll : List PyData → Prop
  | [] => True
  | x :: xs => fine x ∧ fineAll xs
end
mutual
/-- what its text may come to -/
def wl : PyData → Nat
  | .none => 4
  | .bool _ => 5
  | .int _ => 41
  | .str x => 10 * x.length + 2
  | .list xs => wls xs + 2
  | .tuple xs => wls xs + 2
  | .dict _ => 0
def wls : List PyData → Nat
  | [] => 0
  | x :: xs => wl x + 2 + wls xs
end
theorem fineAll_iff : ∀ {xs : List PyData}, fineAll xs ↔ ∀ x ∈ xs, fine x
  | [] => by simp [fineAll]
  | x :: xs => by simp [fineAll, fineAll_iff]
theorem listText_le : ∀ ts : List Str, (listText ts).length ≤ piled ts + 2
  | [] => by rw [listText_nil]; decide
  | t :: r => by
    have h := textFrom_length_pos r 1 (("[" : Str) ++ ("" : String) ++ t) (Nat.succ_pos 0)
    have e : ((("[" : Str) ++ ("" : String) ++ t)).length = 1 + t.length := by
      rw [strLen_append, strLen_append]
      rfl
    have x1 : (listText (t :: r)).length = (textFrom 1 (("[" : Str) ++ ("" : String) ++ t) r).length + 1 := by
      show (textFrom 1 (("[" : Str) ++ ("" : String) ++ t) r ++ "]").length = _
      rw [strLen_append]
      rfl
    rw [x1, h, e, piled_cons]
    omega
theorem tupleText_le (ts : List Str) : (tupleText ts).length ≤ piled ts + 2 := by
  have e3 : (((if ts.length == 1 then ",)" else ")" : String) : Str)).length ≤ 2 := by split <;> decide +kernel
  have e1 : ((("(" : String) : Str)).length = 1 := rfl
  unfold tupleText
  rw [strLen_append, strLen_append, e1]
  cases ts with
  | nil => decide +kernel
  | cons t r =>
    have := join_length_add (t :: r) (by simp)
    omega
mutual
theorem shown_le : ∀ d : PyData, fine d → d.shown.length ≤ wl d
  | .none, _ => by simp only [PyData.shown]; decide
  | .bool b, _ => by cases b <;> (simp only [PyData.shown]; decide)
  | .int i, h => by
    simp only [PyData.shown, wl]
    rw [PySem.ofString_length]
    exact int_text_length_le10 (k := 40) (by decide) h
  | .str x, h => by
    simp only [PyData.shown, wl]
    refine StrLaws.reprText_len x fun c hc => ?_
    have h' : x.cps.all (· < 0x110000) = true := h
    rw [Array.all_eq_true_iff_forall_mem] at h'
    have := h' c (by simpa using hc)
    simp at this
    omega
  | .list xs, h => by
    have := shown_les xs h
    have := listText_le (PyData.shownAll xs)
    simp only [PyData.shown, wl]
    omega
  | .tuple xs, h => by
    have := shown_les xs h
    have := tupleText_le (PyData.shownAll xs)
    simp only [PyData.shown, wl]
    omega
  | .dict _, h => h.elim
theorem shown_les : ∀ xs : List PyData, fineAll xs → piled (PyData.shownAll xs) ≤ wls xs
  | [], _ => by simp [PyData.shownAll, piled, wls]
  | x :: xs, h => by
    have h1 := shown_le x h.1
    have h2 := shown_les xs h.2
    simp only [PyData.shownAll, wls]
    rw [piled_cons]
    omega
end
mutual
theorem fine_lay : ∀ d : PyData, fine d → d.canLay0 = true ∧ d.showable = true ∧ d.hasDict = false
  | .none, _ => by simp [PyData.canLay0, PyData.showable, PyData.hasDict]
  | .bool b, _ => by simp [PyData.canLay0, PyData.showable, PyData.hasDict]
  | .int i, h => by
    refine ⟨by simp [PyData.canLay0], ?_, by simp [PyData.hasDict]⟩
    have h' : i.natAbs < 10 ^ 40 := h
    have h2 : i.natAbs < 2 ^ 200 := Nat.lt_trans h' (by decide)
    simp only [PyData.showable, decide_eq_true_eq]
    exact Nat.lt_trans (PySem.Flt.log2_lt_of (by decide) h2) (by decide)
  | .str x, h => ⟨by simp only [PyData.canLay0]; exact h, by simp [PyData.showable], by simp [PyData.hasDict]⟩
  | .list xs, h => by simpa [PyData.canLay0, PyData.showable, PyData.hasDict] using fine_lays xs h
  | .tuple xs, h => by simpa [PyData.canLay0, PyData.showable, PyData.hasDict] using fine_lays xs h
  | .dict _, h => h.elim
theorem fine_lays : ∀ xs : List PyData, fineAll xs → PyData.canLayAll0 xs = true ∧ PyData.showableAll xs = true ∧ PyData.hasDictAll xs = false
  | [], _ => by simp [PyData.canLayAll0, PyData.showableAll, PyData.hasDictAll]
  | x :: xs, h => by
    obtain ⟨a, b, c⟩ := fine_lay x h.1
    obtain ⟨a', b', c'⟩ := fine_lays xs h.2
    simp [PyData.canLayAll0, PyData.showableAll, PyData.hasDictAll, a, b, c, a', b', c']
end
structure Shw (d : PyData) : Prop where
  fi : fine d
  dp : d.depth ≤ 60
  wl : wl d ≤ 16000000
theorem Shw.shaped {d : PyData} (h : Shw d) : SeqAt.shaped d = true := by
  show (d.canLay0 && decide (d.depth ≤ 64)) = true
  have := h.dp
  rw [(fine_lay d h.fi).1, decide_eq_true (by omega)]
  rfl
theorem Shw.len {d : PyData} (h : Shw d) : d.shown.length ≤ sizeLine := by
  have := shown_le d h.fi
  have := h.wl
  have e : sizeLine = 16777216 := rfl
  omega
theorem Shw.eqv {d : PyData} (h : Shw d) : PyData.eqv d d = true := SeqAt.eqv_refl d (fine_lay d h.fi).1
theorem eqv_nil (xs : List PyData) : PyData.eqv (.list xs) (.list []) = xs.isEmpty := by
  cases xs <;> simp [PyData.eqv, PyData.eqvAll]
/-! of terms -/
theorem nm_ok {x : Str} (h : Nm x) : PyData.strOk x = true := by
  show x.cps.all (· < 0x110000) = true
  rw [Array.all_eq_true_iff_forall_mem]
  intro c hc
  have := h.2.2 c (by simpa using hc)
  simp
  omega
mutual
theorem fine_d {P : Int → Prop} (h : ∀ i, P i → i.natAbs < 10 ^ 40) : ∀ t : Tm, t.ok P → fine t.d
  | .var i, k => h i k
  | .op x ts, k => by
    simp only [Tm.d, fine, fineAll]
    exact ⟨nm_ok k.1, fine_ds h ts k.2.2⟩
theorem fine_ds {P : Int → Prop} (h : ∀ i, P i → i.natAbs < 10 ^ 40) : ∀ ts : List Tm, Tm.oks P ts → fineAll (Tm.ds ts)
  | [], _ => trivial
  | t :: ts, k => ⟨fine_d h t k.1, fine_ds h ts k.2⟩
end
mutual
theorem depth_d : ∀ t : Tm, t.d.depth = t.dep
  | .var _ => by simp [Tm.d, PyData.depth, Tm.dep]
  | .op _ ts => by simp [Tm.d, PyData.depth, PyData.depthAll, Tm.dep, depth_ds ts]
theorem depth_ds : ∀ ts : List Tm, PyData.depthAll (Tm.ds ts) = Tm.deps ts
  | [] => by simp [Tm.ds, PyData.depthAll, Tm.deps]
  | t :: ts => by simp [Tm.ds, PyData.depthAll, Tm.deps, depth_d t, depth_ds ts]
end
mutual
theorem wl_d {P : Int → Prop} : ∀ t : Tm, t.ok P → wl t.d ≤ t.cst + 41 * t.lv
  | .var _, _ => by simp [Tm.d, wl, Tm.cst, Tm.lv]
  | .op x ts, k => by
    have h1 := wl_ds ts k.2.2
    have h2 := k.1.2.1
    simp only [Tm.d, wl, wls, Tm.cst, Tm.lv]
    omega
theorem wl_ds {P : Int → Prop} : ∀ ts : List Tm, Tm.oks P ts → wls (Tm.ds ts) ≤ Tm.csts ts + 41 * Tm.lvs ts
  | [], _ => by simp [Tm.ds, wls]
  | t :: ts, k => by
    have h1 := wl_d t k.1
    have h2 := wl_ds ts k.2
    simp only [Tm.ds, wls, Tm.csts, Tm.lvs]
    omega
end
end Fm
namespace Fm
open PySem PySem.Spec PyProof.Rows L2
/-! a list of whatever, beside the empty one -/
section
variable {X : Cx}
def rNeNil (K : PySem.W.Frag) : R2 := fun x y H Q => ∃ (a b : Addr) (xs : List V), x = .ref a ∧ y = .ref b ∧ SqL K H a xs ∧ SqL K H b [] ∧ Q (.bl (!xs.isEmpty)) H
def rEqNil (K : PySem.W.Frag) : R2 := fun x y H Q => ∃ (a b : Addr) (xs : List V), x = .ref a ∧ y = .ref b ∧ SqL K H a xs ∧ SqL K H b [] ∧ Q (.bl xs.isEmpty) H
theorem op_neNil (hu : X.A.units < cLine) : OpR X (compareOp .NotEq) (rNeNil X.K) := by
  intro pins s σ H x y v u Q I rx ry h
  obtain ⟨a, b, xs, rfl, rfl, ha, hb, q⟩ := h
  obtain rfl : v = Value.ref a := rx
  obtain rfl : u = Value.ref b := ry
  obtain ⟨i1, r1, p1, _⟩ := I.list ha
  obtain ⟨i2, r2, p2, _⟩ := I.list hb
  have l1 := r1.length
  have l2 : i2 = [] := List.eq_nil_of_length_eq_zero (by have := r2.length; simpa using this.symm)
  subst l2
  cases xs with
  | nil =>
    have l3 : i1 = [] := List.eq_nil_of_length_eq_zero (by simpa using l1.symm)
    subst l3
    exact SeqAt.RcNeAt.lists (e := fun _ => true) p1.isList p2.isList rfl hu (fun j j1 _ => absurd j1 (Nat.not_lt_zero j)) X.prog X.w X.xe _ ⟨.bl false, H, I, rfl, q⟩
  | cons z zs =>
    refine SeqAt.RcNeAt.lists_lengths p1.isList p2.isList ?_ hu X.prog X.w X.xe _ ⟨.bl true, H, I, rfl, q⟩
    simp only [List.length_cons] at l1
    simp [bne_iff_ne]
    intro z
    rw [z] at l1
    simp at l1
theorem op_eqNil (hu : X.A.units < cLine) : OpR X (compareOp .Eq) (rEqNil X.K) := by
  intro pins s σ H x y v u Q I rx ry h
  obtain ⟨a, b, xs, rfl, rfl, ha, hb, q⟩ := h
  obtain rfl : v = Value.ref a := rx
  obtain rfl : u = Value.ref b := ry
  obtain ⟨i1, r1, p1, _⟩ := I.list ha
  obtain ⟨i2, r2, p2, _⟩ := I.list hb
  have l1 := r1.length
  have l2 : i2 = [] := List.eq_nil_of_length_eq_zero (by have := r2.length; simpa using this.symm)
  subst l2
  cases xs with
  | nil =>
    have l3 : i1 = [] := List.eq_nil_of_length_eq_zero (by simpa using l1.symm)
    subst l3
    exact SeqAt.RcAt.lists (e := fun _ => true) p1.isList p2.isList rfl hu (fun j j1 _ => absurd j1 (Nat.not_lt_zero j)) X.prog X.w X.xe _ ⟨.bl true, H, I, rfl, q⟩
  | cons z zs =>
    refine SeqAt.RcAt.lists_lengths p1.isList p2.isList ?_ hu X.prog X.w X.xe _ ⟨.bl false, H, I, rfl, q⟩
    simp only [List.length_cons] at l1
    simp [bne_iff_ne]
    intro z
    rw [z] at l1
    simp at l1
/-- i not in range(lo, hi) -/
theorem op_notIn_rng : OpR X (compareOp .NotIn) (fun x y H Q => ∃ i a lo hi, x = V.int i ∧ y = V.ref a ∧ H a = some (.rng lo hi) ∧ Q (.bl (!decide (lo ≤ i ∧ i < hi))) H) := by
  intro pins s σ H x y v u Q I rx ry h
  obtain ⟨i, a, lo, hi, rfl, rfl, ha, q⟩ := h
  obtain ⟨k, rfl⟩ := rx
  obtain rfl : u = Value.ref a := ry
  obtain ⟨t1, t2, t3, hob⟩ := I.hok a _ ha
  show wpAny _ _ (do return Value.bool (!(← contains (Value.ref a) (Value.int i k)))) _ _ s
  refine wpAny_bind (wpAny_contains_slot (T := "range") ⟨_, hob, rfl⟩ F.slot_range_contains (call_meets F.slot_range_contains ⟨_, hob, rfl⟩ F.entry_range_contains (F.args_range_contains_2 _ _) (q_contains a lo hi i t1 t2 t3 k) ⟨hob, wpAny_truthy_bool (wpAny_pure ⟨.bl _, H, I, rfl, by rw [place1]; exact q⟩)⟩))
/-- x is not True, x a bool or an int -/
def rNotB : R2 := fun x y H Q => ∃ b : Bool, y = .bl b ∧ ((∃ a : Bool, x = .bl a ∧ Q (.bl (!decide (a = b))) H) ∨ (∃ i : Int, x = .int i ∧ Q (.bl true) H))
theorem op_notB : OpR X (compareOp .IsNot) rNotB := by
  intro pins s σ H x y v u Q I rx ry h
  obtain ⟨b, rfl, h⟩ := h
  rcases h with ⟨a, rfl, q⟩ | ⟨i, rfl, q⟩
  · exact op_isnot_bl pins s σ H _ _ _ _ Q I rx ry ⟨a, b, rfl, rfl, q⟩
  · obtain ⟨t, rfl⟩ := rx
    cases (show u = Value.bool b from ry)
    exact wpAny_isNot_other rfl (fun z => nomatch z) ⟨.bl true, H, I, rfl, q⟩
end
end Fm
namespace Fm
open PySem PySem.Spec PyProof.Rows L2
theorem bt_range : bootBuiltins "range" = some (.type "range") := by decide +kernel
/-! things: what a function of kinds may be handed -/
inductive Th where
  | non
  | bl (b : Bool)
  | int (i : Int)
  | str (x : Str)
  | tup (ts : List Th)
  | lst
  | dct
mutual
/-- v is such a thing; b: a list that may change meanwhile -/
def Is (K : PySem.W.Frag) (b : Addr) (H : Hp) (v : V) : Th → Prop
  | .non => v = .non
  | .bl c => v = .bl c
  | .int i => v = .int i
  | .str x => v = .str x ∧ x.length ≤ 1000
  | .tup ts => ∃ a xs, v = .ref a ∧ SqT K H a xs ∧ IsAll K b H xs ts
  | .lst => ∃ a xs, v = .ref a ∧ a ≠ b ∧ H a = some (.lst xs)
  | .dct => ∃ a kvs, v = .ref a ∧ a ≠ b ∧ H a = some (.dK kvs)
def IsAll (K : PySem.W.Frag) (b : Addr) (H : Hp) (xs : List V) : List Th → Prop
  | [] => xs = []
  | t :: ts => ∃ y ys, xs = y :: ys ∧ Is K b H y t ∧ IsAll K b H ys ts
end
section
variable {K : PySem.W.Frag} {b : Addr} {H H' : Hp}
mutual
theorem Is.mv (m : Mv [b] H H') : ∀ (t : Th) (v : V), Is K b H v t → Is K b H' v t
  | .non, v, h => h
  | .bl _, v, h => h
  | .int _, v, h => h
  | .str _, v, h => h
  | .tup ts, v, h => by
    obtain ⟨a, xs, e, hs, ha⟩ := h
    exact ⟨a, xs, e, m.sqT hs, IsAll.mv m ts xs ha⟩
  | .lst, v, h => by
    obtain ⟨a, xs, e, hb, ha⟩ := h
    exact ⟨a, xs, e, hb, m.keep a _ (by simpa using hb) ha⟩
  | .dct, v, h => by
    obtain ⟨a, xs, e, hb, ha⟩ := h
    exact ⟨a, xs, e, hb, m.keep a _ (by simpa using hb) ha⟩
theorem IsAll.mv (m : Mv [b] H H') : ∀ (ts : List Th) (xs : List V), IsAll K b H xs ts → IsAll K b H' xs ts
  | [], xs, h => h
  | t :: ts, xs, h => by
    obtain ⟨y, ys, e, h1, h2⟩ := h
    exact ⟨y, ys, e, Is.mv m t y h1, IsAll.mv m ts ys h2⟩
end
theorem Is.mv0 {t : Th} {v : V} (h : Is K b H v t) (m : Mv [] H H') : Is K b H' v t := Is.mv (m.mono (by simp)) t v h
theorem IsAll.mv0 {ts : List Th} {xs : List V} (h : IsAll K b H xs ts) (m : Mv [] H H') : IsAll K b H' xs ts := IsAll.mv (m.mono (by simp)) ts xs h
theorem Is.dr {t : Th} {v : V} (h : Is K b H v t) (m : Dr b H H') : Is K b H' v t := Is.mv m.mv t v h
theorem IsAll.dr {ts : List Th} {xs : List V} (h : IsAll K b H xs ts) (m : Dr b H H') : IsAll K b H' xs ts := IsAll.mv m.mv ts xs h
theorem IsAll.length : ∀ {ts : List Th} {xs : List V}, IsAll K b H xs ts → xs.length = ts.length
  | [], xs, h => by
    have h' : xs = [] := h
    rw [h']
    rfl
  | t :: ts, xs, h => by
    obtain ⟨y, ys, rfl, _, k⟩ := h
    simp [k.length]
theorem IsAll.append : ∀ {ts us : List Th} {xs ys : List V}, IsAll K b H xs ts → IsAll K b H ys us → IsAll K b H (xs ++ ys) (ts ++ us)
  | [], _, xs, _, h, k => by
    have h' : xs = [] := h
    rw [h']
    exact k
  | t :: ts, _, xs, _, h, k => by
    obtain ⟨y, zs, rfl, h1, h2⟩ := h
    exact ⟨y, zs ++ _, rfl, h1, h2.append k⟩
theorem IsAll.nil : IsAll K b H [] [] := rfl
theorem IsAll.cons {t : Th} {ts : List Th} {y : V} {ys : List V} (h : Is K b H y t) (k : IsAll K b H ys ts) : IsAll K b H (y :: ys) (t :: ts) := ⟨y, ys, rfl, h, k⟩
theorem IsAll.get : ∀ {ts : List Th} {xs : List V} {i : Nat} {v : V}, IsAll K b H xs ts → xs[i]? = some v → ∃ t, ts[i]? = some t ∧ Is K b H v t
  | [], xs, _, _, h, e => by
    have h' : xs = [] := h
    rw [h'] at e
    simp at e
  | t :: ts, _, 0, _, h, e => by
    obtain ⟨y, ys, rfl, h1, h2⟩ := h
    simp at e
    subst e
    exact ⟨t, rfl, h1⟩
  | t :: ts, _, i + 1, _, h, e => by
    obtain ⟨y, ys, rfl, h1, h2⟩ := h
    exact h2.get (i := i) (by simpa using e)
theorem IsAll.take : ∀ {ts : List Th} {xs : List V} (n : Nat), IsAll K b H xs ts → IsAll K b H (xs.take n) (ts.take n)
  | [], xs, n, h => by
    have h' : xs = [] := h
    rw [h']
    simpa using IsAll.nil
  | t :: ts, _, 0, h => by simpa using IsAll.nil
  | t :: ts, _, n + 1, h => by
    obtain ⟨y, ys, rfl, h1, h2⟩ := h
    exact IsAll.cons h1 (h2.take n)
theorem IsAll.drop : ∀ {ts : List Th} {xs : List V} (n : Nat), IsAll K b H xs ts → IsAll K b H (xs.drop n) (ts.drop n)
  | [], xs, n, h => by
    have h' : xs = [] := h
    rw [h']
    simpa using IsAll.nil
  | t :: ts, _, 0, h => by simpa using h
  | t :: ts, _, n + 1, h => by
    obtain ⟨y, ys, rfl, h1, h2⟩ := h
    exact h2.drop n
theorem IsAll.last {ts : List Th} {t : Th} : ∀ {us : List Th} {xs : List V}, us = ts ++ [t] → IsAll K b H xs us → ∃ ys y, xs = ys ++ [y] ∧ IsAll K b H ys ts ∧ Is K b H y t := by
  induction ts with
  | nil =>
    intro us xs e h
    subst e
    obtain ⟨y, ys, rfl, h1, h2⟩ := h
    have h3 : ys = [] := h2
    exact ⟨[], y, by rw [h3]; rfl, IsAll.nil, h1⟩
  | cons u ts ih =>
    intro us xs e h
    subst e
    obtain ⟨y, ys, rfl, h1, h2⟩ := h
    obtain ⟨zs, z, rfl, h3, h4⟩ := ih rfl h2
    exact ⟨y :: zs, z, rfl, IsAll.cons h1 h3, h4⟩
/-! classes -/
def tyN : Th → String
  | .non => "NoneType"
  | .bl _ => "bool"
  | .int _ => "int"
  | .str _ => "str"
  | .tup _ => "tuple"
  | .lst => "list"
  | .dct => "dict"
theorem tyx_is {t : Th} {v : V} (h : Is K b H v t) : TyX K H v (.type (tyN t)) := by
  cases t with
  | non => cases (show v = V.non from h); exact .base .non
  | bl c => cases (show v = V.bl c from h); exact .base (.bl c)
  | int i => cases (show v = V.int i from h); exact .base (.int i)
  | str x => cases (show v = V.str x from h.1); exact .base (.str x)
  | tup ts =>
    obtain ⟨a, xs, rfl, hs, _⟩ := h
    rcases hs with (hs | ⟨o, hs⟩) | ⟨o, its, n, hk, hc, _⟩
    · exact .base (.tup hs)
    · exact .fTuple hs
    · exact .kTuple hk hc
  | lst =>
    obtain ⟨a, xs, rfl, _, ha⟩ := h
    exact .base (.lst ha)
  | dct =>
    obtain ⟨a, kvs, rfl, _, ha⟩ := h
    exact .base (.dK ha)
theorem rd_isi {t : Th} {v : V} {T : String} {c : Bool} {Q : VK} (h : Is K b H v t) (k : kitB (tyN t) T = some c) (q : Q (.bl c) H) : rIsi K [v, .ty T] H Q := ⟨v, .ty T, _, _, c, rfl, .ty T, tyx_is h, kit_ty k, q⟩
def isIntT : Th → Bool
  | .int _ => true
  | .bl _ => true
  | _ => false
def isBoolT : Th → Bool
  | .bl _ => true
  | _ => false
def isStrT : Th → Bool
  | .str _ => true
  | _ => false
def isTupT : Th → Bool
  | .tup _ => true
  | _ => false
def isLstT : Th → Bool
  | .lst => true
  | _ => false
theorem kit_int (t : Th) : kitB (tyN t) "int" = some (isIntT t) := by cases t <;> (simp only [tyN, isIntT]; decide +kernel)
theorem kit_bool (t : Th) : kitB (tyN t) "bool" = some (isBoolT t) := by cases t <;> (simp only [tyN, isBoolT]; decide +kernel)
theorem kit_str (t : Th) : kitB (tyN t) "str" = some (isStrT t) := by cases t <;> (simp only [tyN, isStrT]; decide +kernel)
theorem kit_tup (t : Th) : kitB (tyN t) "tuple" = some (isTupT t) := by cases t <;> (simp only [tyN, isTupT]; decide +kernel)
theorem kit_lst (t : Th) : kitB (tyN t) "list" = some (isLstT t) := by cases t <;> (simp only [tyN, isLstT]; decide +kernel)
end
/-! what kind a thing is -/
def lettersS : Str := "abcdefghijklmnopqrstuvwxyz"
def nmd (x : Str) : Bool := decide (1 ≤ x.length) && decide (x.length ≤ 8) && x.cps.toList.all fun c => decide (c ∈ lettersS.cps.toList)
def isWhole : Th → Bool
  | .int _ => true
  | _ => false
def isNamed : Th → Bool
  | .str x => nmd x
  | _ => false
mutual
def isTerm : Th → Bool
  | .int i => decide (0 ≤ i)
  | .tup [] => false
  | .tup (t :: ts) => isNamed t && decide (ts.length ≤ 3) && isTerms ts
  | _ => false
def isTerms : List Th → Bool
  | [] => true
  | t :: ts => isTerm t && isTerms ts
end
mutual
def Th.cnt : Th → Nat
  | .tup ts => Th.cnts ts + 1
  | _ => 1
def Th.cnts : List Th → Nat
  | [] => 0
  | t :: ts => t.cnt + Th.cnts ts
end
theorem isTerms_all : ∀ ts : List Th, isTerms ts = ts.all isTerm
  | [] => by simp [isTerms]
  | t :: ts => by simp [isTerms, isTerms_all ts]
theorem Th.cnts_append : ∀ ts us : List Th, Th.cnts (ts ++ us) = Th.cnts ts + Th.cnts us
  | [], us => by simp [Th.cnts]
  | t :: ts, us => by
    simp only [List.cons_append, Th.cnts, Th.cnts_append ts us]
    omega
mutual
/-- a term as a thing -/
def Tm.th : Tm → Th
  | .var i => .int i
  | .op x ts => .tup (.str x :: Tm.ths ts)
def Tm.ths : List Tm → List Th
  | [] => []
  | t :: ts => t.th :: Tm.ths ts
end
section
variable {K : PySem.W.Frag} {b : Addr} {H : Hp}
mutual
theorem Is.of_im {R : Int → Prop} : ∀ (t : Tm) (v : V), t.ok R → Im K H v t.d → Is K b H v t.th
  | .var i, v, _, h => h.intI
  | .op x ts, v, k, h => by
    obtain ⟨a, xs0, rfl, ha, hxs⟩ := h.tupI
    obtain ⟨x', xs, rfl, hx', hys⟩ := hxs.invD
    exact ⟨a, x' :: xs, rfl, ha, IsAll.cons ⟨hx'.strI, by have := k.1.2.1; omega⟩ (IsAll.of_ims ts xs k.2.2 hys)⟩
theorem IsAll.of_ims {R : Int → Prop} : ∀ (ts : List Tm) (xs : List V), Tm.oks R ts → Ims K H xs (Tm.ds ts) → IsAll K b H xs (Tm.ths ts)
  | [], xs, _, h => h.nilD
  | t :: ts, xs, k, h => by
    obtain ⟨v, vs, rfl, h1, h2⟩ := h.invD
    exact IsAll.cons (Is.of_im t v k.1 h1) (IsAll.of_ims ts vs k.2 h2)
end
end
theorem nmd_nm {x : Str} (h : Nm x) : nmd x = true := by
  unfold nmd
  have h3 : (x.cps.toList.all fun c => decide (c ∈ lettersS.cps.toList)) = true := by
    rw [List.all_eq_true]
    intro c hc
    have := h.2.2 c hc
    have k : ∀ c : Fin 123, 97 ≤ c.val → decide (c.val ∈ lettersS.cps.toList) = true := by decide +kernel
    exact k ⟨c, by omega⟩ this.1
  rw [h3, decide_eq_true h.1, decide_eq_true h.2.1]
  rfl
end Fm
namespace Fm
open PySem PySem.Spec PyProof.Rows L2
/-! tuple * int, also once and not at all -/
theorem tmul_one (l : Addr) (items : Array Value) (n : Nat) (dd : Option Addr) (sl : Array (Option Value)) (u : Tok) :
    Meets (Builtin.«tuple.__mul__» ⟨[.ref l, .int 1 u], []⟩) (fun _ R s => s.heap.get? l = some { cls := .type "tuple", dict := dd, data := .seq items n, slots := sl } ∧ R (.ok (.ret (Value.ref l))) s) :=
  .of_wp fun prog w A R s h => by
    obtain ⟨hp, g, d, tk, os⟩ := s
    obtain ⟨hl, h⟩ := h
    have f1 := AutoSeq1.idx_int
    have c0 : (decide ((1 : Int) < -(2 ^ 63)) || decide ((1 : Int) ≥ 2 ^ 63)) = false := by decide
    have c1 : (items.isEmpty || (1 : Int) == 1) = true := by simp
    wp_walk using wpAny_loadPart' hl
    repeat (first
      | (refine wpAny_ite_false (decide_eq_false (by rw [c0]; exact Bool.false_ne_true)) ?_; wp_walk using wpAny_loadPart' hl)
      | (refine wpAny_ite_true (decide_eq_true c1) ?_; wp_walk using wpAny_loadPart' hl))
    exact ⟨_, rfl, h⟩
theorem tmul_zero (l : Addr) (items : Array Value) (n : Nat) (dd : Option Addr) (sl : Array (Option Value)) (u : Tok) (hi : items.isEmpty = false) :
    Meets (Builtin.«tuple.__mul__» ⟨[.ref l, .int 0 u], []⟩) (fun _ R s => s.heap.get? l = some { cls := .type "tuple", dict := dd, data := .seq items n, slots := sl } ∧
      R (.ok (.ret (Value.ref s.heap.objs.size))) { s with heap := s.heap.push { cls := Value.type "tuple", data := Data.seq #[] }, toks := s.toks }) :=
  .of_wp fun prog w A R s h => by
    obtain ⟨hp, g, d, tk, os⟩ := s
    obtain ⟨hl, h⟩ := h
    have f1 := AutoSeq1.idx_int
    have c0 : (decide ((0 : Int) < -(2 ^ 63)) || decide ((0 : Int) ≥ 2 ^ 63)) = false := by decide
    have c1 : (items.isEmpty || (0 : Int) == 1) = false := by rw [hi]; rfl
    have c2 : (decide ((0 : Int) ≤ 0) || items.isEmpty) = true := by simp
    have hsz : (#[] : Array Value).size ≤ sizeLine := Nat.zero_le _
    wp_walk using wpAny_loadPart' hl
    repeat (first
      | (refine wpAny_ite_false (decide_eq_false (by rw [c0]; exact Bool.false_ne_true)) ?_; wp_walk using wpAny_loadPart' hl)
      | (refine wpAny_ite_false (decide_eq_false (by rw [c1]; exact Bool.false_ne_true)) ?_; wp_walk using wpAny_loadPart' hl)
      | (refine wpAny_ite_true (decide_eq_true c2) ?_; wp_walk using wpAny_loadPart' hl)
      | (refine wpAny_ite_false (decide_eq_false (Nat.not_lt.mpr hsz)) ?_; wp_walk using wpAny_loadPart' hl))
    exact ⟨_, rfl, h⟩
def rRepTG (K : PySem.W.Frag) : R2 := fun x y H Q => ∃ l k xs, x = .ref l ∧ y = .int k ∧ SqT K H l xs ∧ xs ≠ [] ∧ 0 ≤ k ∧ k ≤ 1000 ∧ xs.length ≤ 1000 ∧ (k = 1 → Q (.ref l) H) ∧ (k ≠ 1 → ∀ p, H p = none → Q (.ref p) (upd H p (.tup (List.replicate k.toNat xs).flatten)))
section
variable {X : Cx}
theorem op_repTG : OpR X (binaryOp .Mult) (rRepTG X.K) := by
  intro pins s σ H x y v u Q I rx ry h
  obtain ⟨l, k, xs, rfl, rfl, hT, hne, h1, h2, hz, q1, q2⟩ := h
  by_cases hk : 2 ≤ k
  · exact op_repT pins s σ H _ _ _ _ Q I rx ry ⟨l, k, xs, rfl, rfl, hT, hne, hk, h2, hz, q2 (by omega)⟩
  cases rx
  obtain ⟨t, rfl⟩ := ry
  obtain ⟨its, r, ⟨⟨cls, dd, data, sl⟩, ho, hc, n, hd⟩, hs⟩ := I.tuple hT
  simp only at hc hd
  subst hc hd
  have hle : its.length = xs.length := r.length.symm
  have hi : its.toArray.isEmpty = false := by
    cases its with
    | nil => exact absurd (List.eq_nil_of_length_eq_zero hle.symm) hne
    | cons a b => rfl
  have hk' : k = 0 ∨ k = 1 := by omega
  rcases hk' with rfl | rfl
  · refine wpAny_binaryOp_repeat_ref (T := "tuple") (U := "int") (by decide) ⟨_, ho, rfl⟩ (fun s' => typeIs_int s' 0 t) noFill_tuple_mul F.fills_int_mul F.slot_int_rmul repeat_tuple F.slot_int_index.lookup
      (call_meets F.slot_int_rmul (typeIs_int s 0 t) F.entry_int_rmul (F.args_int_rmul_2 _ _) (int_rmul_tuple 0 t l its.toArray n dd sl)
        ⟨ho, rfl, ⟨_, ho, rfl⟩, call_meets F.slot_tuple_mul ⟨_, ho, rfl⟩ F.entry_tuple_mul (F.args_tuple_mul_2 _ _) (tmul_zero l its.toArray n dd sl t hi) ⟨ho, ?_⟩⟩)
    refine ⟨.ref s.heap.objs.size, _, I.laid (t' := s.toks) (o := .tup []) (fun b ob q => Heap.get?_push_of_some _ q) (Nat.le_refl _) ?_, rfl, q2 (by decide) _ (I.hok.fresh (Nat.le_refl _))⟩
    exact ⟨Nat.zero_le _, [], .nil, IsTup.new _ _⟩
  · refine wpAny_binaryOp_repeat_ref (T := "tuple") (U := "int") (by decide) ⟨_, ho, rfl⟩ (fun s' => typeIs_int s' 1 t) noFill_tuple_mul F.fills_int_mul F.slot_int_rmul repeat_tuple F.slot_int_index.lookup
      (call_meets F.slot_int_rmul (typeIs_int s 1 t) F.entry_int_rmul (F.args_int_rmul_2 _ _) (int_rmul_tuple 1 t l its.toArray n dd sl)
        ⟨ho, rfl, ⟨_, ho, rfl⟩, call_meets F.slot_tuple_mul ⟨_, ho, rfl⟩ F.entry_tuple_mul (F.args_tuple_mul_2 _ _) (tmul_one l its.toArray n dd sl t) ⟨ho, ?_⟩⟩)
    exact ⟨.ref l, H, I, rfl, q1 rfl⟩
end
end Fm
/-! own errors whose __init__ hands its argument on to the class above and keeps it in a field -/
namespace Fm
open PySem PySem.W PySem.Calls PyProof.Rows PySem.HandSPX
/-! the text of such an __init__ -/
abbrev xA (f : Str) (p1 p2 : Pos) : Arguments :=
  { posonlyargs := [], args := [{ arg := "self", annotation := none, pos := p1 }, { arg := f, annotation := none, pos := p2 }],
    vararg := none, kwonlyargs := [], kw_defaults := [], kwarg := none, defaults := [] }
abbrev xCall (f : Str) (q1 q2 q3 q4 q5 : Pos) : Expr := .Call (.Attribute (.Call (.Name "super" q1) [] [] q2) "__init__" q3) [.Name f q4] [] q5
abbrev xB (f : Str) (q1 q2 q3 q4 q5 q6 q7 q8 q9 q10 : Pos) : List Stmt :=
  [.Expr (xCall f q1 q2 q3 q4 q5) q6, .Assign [.Attribute (.Name "self" q7) f q8] (.Name f q9) q10]
abbrev xS (f : Str) : Scope :=
  { kind := .function, names := [(PySem.Str.ofString "self", .local), (f, .local), (PySem.Str.ofString "__class__", .free), (PySem.Str.ofString "super", .globalImplicit)],
    isGenerator := false, isCoroutine := false, more := [] }
/-- what the written part says of such a class, by name x with field f, at C -/
structure ExT (P : Program) (K : Frag) (mg : Str → Option Value) (x f : Str) (C : Addr) : Prop where
  gC : mg x = some (.ref C)
  cls : ∃ nm q N bs bm sn sub ab col dd k0 k1 k2 k3 k5, K.lookup C = some (excClassObj nm q C N bs bm true sn sub ab col dd k0 k1 k2 k3 k5 "ValueError.__new__") ∧ refsVE bm = true
  sa : findIn K (.ref C) "__setattr__" = some (some (.builtin "object.__setattr__"))
  no : findIn K (.ref C) f = some none
  kC : keepIn K (.ref C) = true
  exC : subIn K (.ref C) (.type "BaseException") = some true
  veC : subIn K (.ref C) (.type "ValueError") = some true
  tyC : typeIn K (.ref C) = some (.type "type")
  hdC : hasDictIn K C = true
  up : ks_superIn K C C "__init__" = some (some (.builtin "ValueError.__init__"))
  opq : nsIn K cStatics "thirdparty.any" = some none
  self : mroIn K C (.ref C) = some true
  fn : ∃ (fI cda cc : Addr) (oc : Value) (od : Option Addr) (kV doc pm : Value) (an : Option Addr) (ct : Value) (osl : Array (Option Value)) (p1 p2 q1 q2 q3 q4 q5 q6 q7 q8 q9 q10 : Pos) (ql : Str),
    findIn K (.ref C) "__init__" = some (some (.ref fI)) ∧ typeIn K (.ref fI) = some (.type "function") ∧
    K.lookup fI = some ⟨oc, od, .func (ksFn "__init__" ql (xA f p1 p2) (xB f q1 q2 q3 q4 q5 q6 q7 q8 q9 q10) (xS f) .none kV doc pm an (.ref cda) ct cc), osl⟩ ∧ codeIn K (.ref cda) ql = true ∧
    (∃ cl cld csl, K.lookup cc = some ⟨cl, cld, .cell (some (.ref C)), csl⟩) ∧
    ∃ ccl cdd vs ccs file tf, K.lookup cda = some ⟨ccl, cdd, .fields vs, ccs⟩ ∧ vs[2]? = some (.str file tf) ∧ ((P.main.file : Str) == file) = true ∧
    (∀ e v, bindArgs (ksFn "__init__" ql (xA f p1 p2) (xB f q1 q2 q3 q4 q5 q6 q7 q8 q9 q10) (xS f) .none kV doc pm an (.ref cda) ct cc) ⟨[.ref e, v], []⟩ = pure [((PySem.Str.ofString "self" : Str), .ref e), (f, v)]) ∧
    ∀ L : Addr, ∃ pl, eval (xCall f q1 q2 q3 q4 q5) (ksEnv ql (xS f) L fI (.ref cda) cc) = (do
      let ov ← attributeBase (.Call (.Name "super" q1) [] [] q2) "__init__" (ksEnv ql (xS f) L fI (.ref cda) cc) (eval (.Call (.Name "super" q1) [] [] q2) (ksEnv ql (xS f) L fI (.ref cda) cc))
      standAt q3.atName
      let (g, first) ← holding [ov] (getMethod ov "__init__" pl)
      callWith q5 g first (backTo q5 (starEach [.Name f q4] (ksEnv ql (xS f) L fI (.ref cda) cc))) [])
  top : (P.main.scope.names.lookup ("super" : Str)).isSome = false
  sup : mg "super" = none
  f1 : (("self" : Str) == f) = false
  f2 : (f == ("self" : Str)) = false
  f3 : (f == ("__debug__" : Str)) = false
  f4 : (("super" : Str) == f) = false
  f5 : (("__class__" : Str) == f) = false
/-- what such an __init__ leaves -/
structure XEnd (h h' : Heap) (x C dx : Addr) (f : Str) (v : Value) : Prop where
  keep : ∀ b o, b ≠ x → h.get? b = some o → h'.get? b = some o
  obj : ∃ t1 : Addr, h'.get? x = some { cls := .ref C, dict := some dx, data := .fields #[.ref t1, .none, .none, .none, .bool false, .none] }
  dbig : h.objs.size ≤ dx
  dne : dx ≠ x
  ns : h'.Ns1 dx (fun y => if y = f then some v else none)
section
variable {P : Program} {w : PySem.World} {A : Around} {E : Value → Shared → Prop} {R : Result → Shared → Prop} {s : Shared} {K : Frag} {mg : Str → Option Value} {C : Addr} {x f : Str}
theorem look_f (T1 : (("self" : Str) == f) = false) (v u : Value) : ([((PySem.Str.ofString "self" : Str), u), (f, v)].reverse.lookup f) = some v := by
  simp [List.lookup]
theorem look_self (T2 : (f == ("self" : Str)) = false) (T1 : (("self" : Str) == f) = false) (v u : Value) : ([((PySem.Str.ofString "self" : Str), u), (f, v)].reverse.lookup (PySem.Str.ofString "self")) = some u := by
  simp only [List.reverse_cons, List.reverse_nil, List.nil_append, List.singleton_append, List.lookup_cons]
  rw [show ((PySem.Str.ofString "self" : Str) == f) = false from T1]
  simp
theorem xs_f (T2 : (f == ("self" : Str)) = false) : (xS f).names.lookup f = some .local := by
  simp only [xS, List.lookup_cons]
  rw [show (f == (PySem.Str.ofString "self" : Str)) = false from T2]
  simp
theorem xs_self : (xS f).names.lookup (PySem.Str.ofString "self") = some .local := by
  simp only [xS, List.lookup_cons]
  simp
theorem xs_super (h : (("super" : Str) == f) = false) : (xS f).names.lookup ("super" : Str) = some .globalImplicit := by
  simp only [xS, List.lookup_cons, h]
  rw [show ((PySem.Str.ofString "super" : Str) == PySem.Str.ofString "self") = false by decide +kernel, show ((PySem.Str.ofString "super" : Str) == PySem.Str.ofString "__class__") = false by decide +kernel]
  simp
theorem xs_class (h : (("__class__" : Str) == f) = false) : (xS f).names.lookup ("__class__" : Str) = some .free := by
  simp only [xS, List.lookup_cons, h]
  rw [show ((PySem.Str.ofString "__class__" : Str) == PySem.Str.ofString "self") = false by decide +kernel]
  simp
/-- ValueError.__init__, bound to an error, is called -/
theorem vx_call {hp : Heap} {g : Array GenState} {d : Drawn} {t : Nat} {os : OsState} {u e t0 : Addr} {rest : List Value} {Q : Value → Shared → Prop} {nm q : Str} {N : Addr} {bs bm : List Value} {hdct : Bool} {sn : List Str} {sub : List Value} {ab : Bool} {col : Option Bool} {dd : Option Addr} {k0 k1 k2 k3 k5 : Option Value}
    (hC : hp.get? C = some (excClassObj nm q C N bs bm hdct sn sub ab col dd k0 k1 k2 k3 k5 "ValueError.__new__")) (he : hp.get? e = some (excO C t0)) (hu : hp.get? u = some (kxs_mw "ValueError.__init__" e)) (hz : rest.length ≤ sizeLine)
    (fin : ∀ h', (∀ b o, b ≠ e → hp.get? b = some o → h'.get? b = some o) → h'.get? e = some (excO C hp.objs.size) → Q .none ⟨h', g, d, t, os⟩) :
    wpAny (model P w) A (call (.ref u) rest) Q E ⟨hp, g, d, t, os⟩ := by
  refine wpAny_call (codeAny_of_tree ?_)
  show wpAny (model P w) A.in1 (callAny (.ref u) ⟨rest, []⟩) _ _ _
  simp only [callAny]
  refine wpAny_bind (wpAny_load hu ?_)
  simp only [kxs_mw]
  refine KFB.if_so (by decide) ?_
  refine wpAny_bind (check_bound_init PySem.F.excBase_ValueError.toExcCallFacts hC he rfl ?_)
  refine wpAny_bind (wpAny_pure (wpAny_pure ?_))
  refine ⟨plainId_quiet PySem.F.excBase_ValueError.init.plain _, codeAny_builtin PySem.F.excBase_ValueError.initEntry ?_⟩
  exact exc_init_tree (cls := .ref C) (t0 := t0) (dv := none) (c2 := .none) (c3 := .none) (b4 := .bool false) he hz fun h' k e' _ => fin h' k e'
theorem vx_init (T : ExT P K mg x f C) {e t0 fI : Addr} {v : Value} (X : K.In s.heap) (hG : s.heap.Ns mainGlobals mg) (hB : ∃ mb, s.heap.Ns builtinsNs mb ∧ ∀ y : Str, y ≠ "__name__" → mb y = bootBuiltins y) (hlim : s.heap.NoLimit)
    (hx : s.heap.get? e = some (excO C t0)) (hnx : K.lookup e = none) (hroom : A.depth < recursionLimit) (hI : findIn K (.ref C) "__init__" = some (some (.ref fI)))
    (hq : ∀ h' tk dx, XEnd s.heap h' e C dx f v → R (.ok (.ret .none)) { s with heap := h', toks := tk }) :
    codeAny (model P w) A (.call (.ref fI) ⟨[.ref e, v], []⟩) R s := by
  obtain ⟨fI', cda, cc, oc, od, kV, doc, pm, an, ct, osl, p1, p2, q1, q2, q3, q4, q5, q6, q7, q8, q9, q10, ql, hi, tI, ho, hcd, ⟨cl, cld, csl, hcell⟩, ccl, cdd, vs, ccs, file, tf, hcode, hvs, hfile, hbind, hev⟩ := T.fn
  obtain rfl : fI = fI' := by
    rw [hi] at hI
    cases hI
    rfl
  obtain ⟨nm, q, N, bs, bm, sn, sub, ab, col, dd, k0, k1, k2, k3, k5, hC, hbm⟩ := T.cls
  have hcl : clsIn K C = some { name := nm, bases := bs, mro := .ref C :: bm, ns := N, qualname := q, hasDict := true, slotNames := sn, subclasses := sub, abstract := ab, collection := col, hasDel := false } := by
    unfold clsIn
    rw [hC] <;> rfl
  obtain ⟨mb, hmb, hbt⟩ := hB
  have hxC : e ≠ C := fun z => by
    rw [z, hC] at hnx
    cases hnx
  have hkf : (ksEnv ql (xS f) s.heap.objs.size fI (.ref cda) cc).kindOf f = some .local := xs_f T.f2
  refine ks_codeAny_call_defAt (binds := [("self", .ref e), (f, v)]) hroom (X _ _ ho) rfl hlim (codeRec_of X hcd) rfl (BindsTo.of_eq (hbind _ _)) ?_ ?_ (fun h₁ hn hk₁ => ?_)
  · intro y hy
    simp only [xS, List.mem_cons, List.not_mem_nil, or_false] at hy
    rcases hy with rfl | rfl | rfl | rfl <;> exact fun z => nomatch z
  · intro y hy
    simp only [List.mem_cons, List.not_mem_nil, or_false] at hy
    rcases hy with rfl | rfl
    · rfl
    · exact xs_f T.f2
  · have X₁ : K.In h₁ := X.keeps hk₁
    have hx₁ := hk₁ _ _ hx
    have I₁ : InstAt h₁ e (excO C t0) C none := ⟨hx₁, rfl, rfl, trivial⟩
    obtain ⟨hp, g, dr, tk, os⟩ := s
    obtain ⟨pl, hev⟩ := hev hp.objs.size
    refine ks_wpAt_execs_cons (ks_wpAt_Expr_any (ks_wpAt_MethodCall (he := hev) ?_))
    refine ks_wpAt_super_base (env := ksEnv ql (xS f) hp.objs.size fI (.ref cda) cc) (ar := { arg := "self", annotation := none, pos := p1 }) ?_ ?_ (by decide) rfl (X₁ _ _ ho) rfl rfl rfl (X₁ _ _ hcode) rfl hvs hfile T.top ?_
    · exact xs_super T.f4
    · exact xs_class T.f5
    · refine ks_loadName_global rfl (xs_super T.f4) (loadGlobal_builtin (env := ksEnv ql (xS f) hp.objs.size fI (.ref cda) cc) (hG.keeps hk₁) T.sup (hmb.keeps hk₁) ((hbt _ (by decide +kernel)).trans (show bootBuiltins "super" = some (.type "super") by decide +kernel)) ⟨rfl, ?_⟩)
      refine wpAny_loadName_free rfl (xs_class T.f5) rfl ⟨_, X₁ _ _ hcell, rfl⟩ ?_
      refine wpAny_loadName_local rfl xs_self hn (look_self T.f2 T.f1 v (.ref e)) ?_
      refine ks_wpAny_isType_cls (X₁ _ _ hC) rfl ⟨rfl, ?_⟩
      refine ks_wpAny_call_super (X₁ _ _ hC) rfl hx₁ rfl (fun c z => nomatch z) (looks_mroIn X₁ T.self) (fun h₂ hso hk₂ => ?_)
      have X₂ : K.In h₂ := X₁.keeps hk₂
      have hx₂ := hk₂ _ _ hx₁
      have I₂ : InstAt h₂ e (excO C t0) C none := ⟨hx₂, rfl, rfl, trivial⟩
      refine kxs_getMethod kxs_ValueError hso (looks_opaque X₂ T.opq) (l₀ := .ref C :: bm) (fun A Q E s k q => wpAny_bind ((looks_clsIn X₂ hcl) A _ E s k (wpAny_pure q))) rfl X₂ (by have := T.up; unfold ks_superIn at this; rw [hcl] at this; exact this) (I₂.type.andThen (looks_subIn X₂ T.veC)) hxC (by decide) ?_
      have k₃ : ∀ b o, h₂.get? b = some o → (h₂.push (kxs_mw "ValueError.__init__" e)).get? b = some o := fun b o z => Heap.get?_push_of_some _ z
      have hu : (h₂.push (kxs_mw "ValueError.__init__" e)).get? h₂.objs.size = some (kxs_mw "ValueError.__init__" e) := Heap.get?_push_at rfl rfl
      have k03 : ∀ b o, hp.get? b = some o → (h₂.push (kxs_mw "ValueError.__init__" e)).get? b = some o := fun b o z => k₃ _ _ (hk₂ _ _ (hk₁ _ _ z))
      have n03 : (h₂.push (kxs_mw "ValueError.__init__" e)).Ns hp.objs.size (fun y => [((PySem.Str.ofString "self" : Str), Value.ref e), (f, v)].reverse.lookup y) := (hn.keeps hk₂).keeps k₃
      have z03 : h₂.objs.size < (h₂.push (kxs_mw "ValueError.__init__" e)).objs.size := by
        rw [Heap.size_push]
        exact Nat.lt_succ_self _
      generalize h₂.push (kxs_mw "ValueError.__init__" e) = h₃ at hu k03 n03 z03 ⊢
      refine kxs_callWith (i := "ValueError.__init__") (x := e) (by rfl) (evalArgs_plain ?_)
      refine Calls.spliced_cons (wpAny_Name (env := ksEnv ql (xS f) hp.objs.size fI (.ref cda) cc) (wpAny_loadName_local rfl hkf n03 (look_f T.f1 v (.ref e)) (Calls.spliced_nil ⟨hu, ?_⟩)) T.f3)
      refine vx_call (k03 _ _ (X _ _ hC)) (k03 _ _ hx) hu (by show 1 ≤ sizeLine; decide) fun h₄ k₄ hx₄ => ?_
      have k04 : ∀ b o, b ≠ e → hp.get? b = some o → h₄.get? b = some o := fun b o hb z => k₄ _ _ hb (k03 _ _ z)
      have X₄ : K.In h₄ := fun b o z => k04 b o (fun y => by rw [y, hnx] at z; cases z) (X _ _ z)
      have hLe : hp.objs.size ≠ e := Nat.ne_of_gt (Heap.lt_size hx)
      have n04 : h₄.Ns hp.objs.size (fun y => [((PySem.Str.ofString "self" : Str), Value.ref e), (f, v)].reverse.lookup y) := n03.at fun o z => k₄ _ _ hLe z
      show PySem.wpAt _ _ _ (execs _ _) _ _ _
      refine wpAt_of_wpAny (wpAny_execs_cons (plainObj_wpAny_Assign_Attribute (env := ksEnv ql (xS f) hp.objs.size fI (.ref cda) cc) ?_))
      refine wpAny_Name (env := ksEnv ql (xS f) hp.objs.size fI (.ref cda) cc) (wpAny_loadName_local rfl hkf n04 (look_f T.f1 v (.ref e)) ?_) T.f3
      refine wpAny_Name (env := ksEnv ql (xS f) hp.objs.size fI (.ref cda) cc) (wpAny_loadName_local rfl xs_self n04 (look_self T.f2 T.f1 v (.ref e)) ?_) (by decide)
      refine set_plain X₄ (ox := excO C h₃.objs.size) (od := none) ⟨hx₄, rfl, rfl, trivial⟩ T.sa ?_
      refine exc_osa X₄ hx₄ hcl (show refsVE (.ref C :: bm) = true from hbm) rfl T.no (fun h₅ tk₅ dx k₅ dn dne hx₅ hn₅ => ?_)
      have z4 : hp.objs.size < h₄.objs.size := n04.lt
      exact wpAny_execs_nil (hq h₅ tk₅ dx ⟨fun b o hb z => k₅ b o hb (k04 b o hb z), ⟨_, hx₅⟩, Nat.le_of_lt (Nat.lt_of_lt_of_le z4 dn), dne, hn₅⟩)
/-- such an error, made -/
structure XMade (h h' : Heap) (e C d : Addr) (f : Str) (v : Value) : Prop where
  keep : ∀ b o, h.get? b = some o → h'.get? b = some o
  new : h.objs.size ≤ e
  obj : ∃ t1 : Addr, h'.get? e = some { cls := .ref C, dict := some d, data := .fields #[.ref t1, .none, .none, .none, .bool false, .none] }
  dbig : h.objs.size ≤ d
  dne : d ≠ e
  ns : h'.Ns1 d (fun y => if y = f then some v else none)
theorem vx_made (T : ExT P K mg x f C) {v : Value} (X : K.In s.heap) (hG : s.heap.Ns mainGlobals mg) (hB : ∃ mb, s.heap.Ns builtinsNs mb ∧ ∀ y : Str, y ≠ "__name__" → mb y = bootBuiltins y) (hlim : s.heap.NoLimit)
    (hroom : A.depth + 1 < recursionLimit) (hq : ∀ h' tk e d, XMade s.heap h' e C d f v → R (.ok (.ret (.ref e))) { s with heap := h', toks := tk }) :
    codeAny (model P w) A (.call (.ref C) ⟨[v], []⟩) R s := by
  obtain ⟨nm, q, N, bs, bm, sn, sub, ab, col, dd, k0, k1, k2, k3, k5, hC, hbm⟩ := T.cls
  obtain ⟨fI, _, _, _, _, _, _, _, _, _, _, _, _, _, _, _, _, _, _, _, _, _, _, _, hi, tI, _⟩ := T.fn
  obtain ⟨hp, g, dr, tk, os⟩ := s
  have k : ∀ b o, hp.get? b = some o → ((hp.push (kdv_tup [v])).push (excO C hp.objs.size)).get? b = some o := fun b o z => Heap.get?_push_of_some _ (Heap.get?_push_of_some _ z)
  have hget : ((hp.push (kdv_tup [v])).push (excO C hp.objs.size)).get? (hp.objs.size + 1) = some (excO C hp.objs.size) := by heap_get
  have hnx : K.lookup (hp.objs.size + 1) = none := by
    cases z : K.lookup (hp.objs.size + 1) with
    | none => rfl
    | some o => exact absurd (Nat.lt_of_succ_lt (Heap.lt_size (show hp.get? (hp.objs.size + 1) = some o from X _ _ z))) (Nat.lt_irrefl _)
  obtain ⟨mb, hmb, hbt⟩ := hB
  refine call_own PySem.F.excBase_ValueError (fun X => refsVE_contains X bm hbm) (X _ _ hC) (looks_findIn X hi) (fun self => bind_fn X self tI) (by show 1 ≤ sizeLine; decide) ?_
  refine vx_init (s := ⟨(hp.push (kdv_tup [v])).push (excO C hp.objs.size), g, dr, tk, os⟩) T (X.keeps k) (hG.keeps k) ⟨mb, hmb.keeps k, hbt⟩ (hlim.keeps k) hget hnx hroom hi fun h' tk' dx M => ⟨rfl, ?_⟩
  have z : hp.objs.size + 1 + 1 ≤ dx := by
    have q := M.dbig
    simpa only [Heap.size_push] using q
  exact hq h' tk' (hp.objs.size + 1) dx ⟨fun b o y => M.keep b o (Nat.ne_of_lt (Nat.lt_succ_of_lt (Heap.lt_size y))) (k b o y), Nat.le_succ _, M.obj, (by show hp.objs.size ≤ dx; omega), M.dne, M.ns⟩
end
end Fm
/-! the rule for making and raising it -/
namespace Fm
open PySem PySem.Spec PyProof.Rows L2
theorem relO_one {v : V} {u : Value} (r : RelV v u) (f g : Str) : RelO (List.lookup g [(f, v)]) (if g = f then some u else none) := by
  by_cases hw : g = f
  · subst hw
    rw [if_pos rfl]
    rw [show List.lookup g [(g, v)] = some v by simp [List.lookup]]
    exact r
  · rw [if_neg hw]
    have q : (g == f) = false := by simpa using hw
    rw [show List.lookup g [(f, v)] = none by simp [List.lookup, q]]
    trivial
section
variable {X : Cx} {C : Addr} {x f : Str}
def tMkX (C : Addr) (f : Str) (ta : TA) : L2.St → Hp → XK → Prop := fun σ H Q => ta σ H fun vs H1 => ∃ v, vs = [v] ∧ ∀ d, H1 d = none → Q (.ref C) (some d) (upd H1 d (.xd [(f, v)]))
theorem pmk_x {a : Expr} {ta : TA} {p pos : Pos} {k : Nat} (T : ExT X.prog X.K X.mg x f C) (hr : Room k X.A) (ha : PA X [a] ta) (hg : Gl X x := by rfl) (hdb : (x == ("__debug__" : Str)) = false := by decide)
    (he : starEach (a :: []) X.env = (false, eval a X.env) :: starEach [] X.env := by rfl) (hpl : (backTo pos (starEach [] X.env)).any (·.1) = false := by rfl) :
    PMk X (.Call (.Name x p) [a] [] pos) (tMkX C f ta) := by
  intro pins s σ H Q I h
  refine wpAny_Call_Name_kw (ld_glob I hg T.gC ?_ hdb)
  refine PySem.W.callWith_K (h₀ := X.base) I.ok.mod.kin T.kC (thn (ha.run pos pins s σ H _ I h) fun us s1 hh => ?_) he hpl
  obtain ⟨vs, H1, I1, r1, v, rfl, q1⟩ := hh
  refine ⟨I1.kIn, ?_⟩
  obtain ⟨v', rfl, rv⟩ := r1.one
  have keepB : ∀ b o, X.base.get? b = some o → s1.heap.get? b = some o := fun b o z => (I1.env0.bs b o z).1
  have hG := I1.env0.mod.glob.keeps keepB
  obtain ⟨mb, hmb, hbt⟩ := I1.env0.mod.blt
  show wpAny _ _ (call (.ref C) [v']) _ _ _
  have hlim := I1.nolimit
  have hmb' := hmb.keeps keepB
  obtain ⟨hp, g, dr, tk, os⟩ := s1
  refine wpAny_call (vx_made T I1.kIn hG ⟨mb, hmb', hbt⟩ hlim (by have := hr.dp; omega) fun h' tk' e d M => ?_)
  show MkP X pins σ Q (.ref e) ⟨h', g, dr, tk', os⟩
  obtain ⟨t1, hoe⟩ := M.obj
  have hns := M.ns
  obtain ⟨G', g1, g2⟩ := restrict h' fun b => decide (b ≠ e)
  have gk : ∀ b, b ≠ e → G'.get? b = h'.get? b := fun b hb => g1 b (decide_eq_true hb)
  have ge : G'.get? e = none := g2 e (by simp)
  have old : ∀ b o, hp.get? b = some o → G'.get? b = some o := fun b o q => (gk b (Nat.ne_of_lt (Nat.lt_of_lt_of_le (Heap.lt_size q) M.new))).trans (M.keep b o q)
  have ob : ObjOk X.prog X.w (upd H1 d (.xd [(f, v)])) G' d (.xd [(f, v)]) := ⟨_, hns.at (fun o q => (gk d M.dne).trans q), fun y => relO_one rv f y⟩
  have J : Inv X pins σ (upd H1 d (.xd [(f, v)])) ⟨G', g, dr, tk', os⟩ := I1.laid (t' := tk') old M.dbig ob
  refine ⟨e, _, _, ⟨G', g, dr, tk', os⟩, _, .ref C, some d, rfl, J, fun b o q => ?_, ge, hoe, ⟨rfl, rfl⟩, rfl, rfl, ?_, rfl, I1.bare, raises_own T.exC T.tyC, q1 d (I1.hok.fresh M.dbig)⟩
  · by_cases hb : b = e
    · have q' : G'.get? b = some o := q
      rw [hb, ge] at q'
      cases q'
    · exact (gk b hb).symm.trans q
  · rw [upd_ne (Ne.symm M.dne)]
    exact I1.hok.fresh M.new
end
end Fm
/-! a caught error: its class asked, its field read -/
namespace Fm
open PySem PySem.Spec PyProof.Rows L2
/-- a method of a class of the text -/
structure MethAt (K : PySem.W.Frag) (C : Addr) (m q : Str) (st : Stmt) (ps : List Str) where
  f : Addr
  fd : FuncData
  F : Fun K m q st f fd
  M : Meth K C m f
  b : Binds K fd ps []
/-- an error class without an __init__ of its own -/
structure ExN (K : PySem.W.Frag) (mg : Str → Option Value) (x : Str) (C : Addr) : Prop where
  gC : mg x = some (.ref C)
  exC : PySem.W.subIn K (.ref C) (.type "BaseException") = some true
  hdC : PySem.W.hasDictIn K C = true
  tyC : PySem.W.typeIn K (.ref C) = some (.type "type")
section
variable {X : Cx} {a : Addr} {oe : Obj} {cls : Value} {d : Option Addr} {pn : List (Addr × Obj)}
def rIsX (K : PySem.W.Frag) (a : Addr) (cls : Value) (d : Option Addr) : List V → Hp → VK → Prop := fun xs H Q => ∃ (D : Addr) (c : V) (cv : Value) (b : Bool), cls = .ref D ∧ ExcC K D ∧
  (d = none ∨ ∃ dd fs, d = some dd ∧ H dd = some (.xd fs)) ∧ xs = [.ref a, c] ∧ (∀ u, RelV c u → u = cv) ∧ PySem.W.kitOne K (.ref D) cv = some b ∧ Q (.bl b) H
theorem call_isX (hz : Zc cls d oe) (hf : ∃ vs, oe.data = .fields vs) : CallR (X.suite a ((a, oe) :: pn)) (.builtin "isinstance") (rIsX X.K a cls d) := by
  intro pins s σ H xs us Q I r h
  obtain ⟨D, c, cv, b, rfl, C, hd, rfl, hcv, e, q⟩ := h
  obtain ⟨u1, u2, rfl, rx, rt⟩ := vals2 r
  cases (show u1 = Value.ref a from rx)
  have ec := hcv _ rt
  subst ec
  obtain ⟨hget, _⟩ := I.pin (a, oe) (List.mem_append.mpr (.inl List.mem_cons_self))
  obtain ⟨vs, hv⟩ := hf
  have no : PySem.W.notCls oe = true := by
    unfold PySem.W.notCls
    rw [hv] <;> rfl
  obtain ⟨od, J⟩ : ∃ od, PySem.W.InstAt s.heap a oe D od := by
    rcases hd with rfl | ⟨dd, fs, rfl, hx⟩
    · refine ⟨none, hget, hz.1, no, ?_⟩
      rw [hz.2]
      trivial
    · obtain ⟨mA, hns, _⟩ := (show ObjOk X.prog X.w H s.heap dd (.xd fs) from I.hok dd _ hx)
      obtain ⟨od, ho, _⟩ := lookIn_ns hns
      refine ⟨some od, hget, hz.1, no, ?_⟩
      rw [hz.2]
      exact ho
  have hcl : (PySem.W.clsIn X.K D).isSome = true := by
    obtain ⟨cd, hc, _⟩ := PySem.W.any_some C.hd
    rw [hc]
    rfl
  exact PySem.W.kia_one (PySem.W.kitx_exc hcl C.hg C.hk C.hs C.ha C.hn C.ht C.hm) I.kIn J e (fun z => nomatch z) fun tk => ⟨.bl b, H, I.kept (t' := tk) fun _ _ z => z, rfl, q⟩
def tXfG (K : PySem.W.Frag) (a : Addr) (cls : Value) (d : Option Addr) (f : Str) (te : TE) : TE := fun σ H Q => te σ H fun x H1 => x = .ref a ∧ ∃ (C dd : Addr) (fs : List (Str × V)) (v : V), cls = .ref C ∧ XfC K C ∧ PySem.W.findIn K (.ref C) f = some none ∧
  d = some dd ∧ H1 dd = some (.xd fs) ∧ fs.lookup f = some v ∧ Q v H1
theorem pe_xfG {e : Expr} {te : TE} {pos : Pos} {n : Str} (hz : Zc cls d oe) (hf : ∃ vs, oe.data = .fields vs) (he : PE (X.suite a ((a, oe) :: pn)) e te) (hb : attributeBase e n X.env (eval e X.env) = eval e X.env := by rfl) :
    PE (X.suite a ((a, oe) :: pn)) (.Attribute e n pos) (tXfG X.K a cls d n te) := by
  refine ⟨fun pins s σ H Q I h => ?_⟩
  refine attr_of hb (thn (he.run pins s σ H _ I h) fun u s1 hh => ?_)
  obtain ⟨x, H1, I1, rx, rfl, C, dd, fs, v, rfl, T, hno, rfl, ea, l, q⟩ := hh
  obtain rfl : u = Value.ref a := rx
  obtain ⟨ha, _⟩ := I1.pin (a, oe) (List.mem_append_left _ List.mem_cons_self)
  obtain ⟨vs, hd⟩ := hf
  obtain ⟨mA, hns, hr⟩ := (show ObjOk X.prog X.w H1 s1.heap dd (.xd fs) from I1.hok dd _ ea)
  obtain ⟨od, ho, hl⟩ := lookIn_ns hns
  obtain ⟨u, hu, ru⟩ := RelO.some_of (v := v) (o := mA n) (by rw [← l]; exact hr n)
  have no : PySem.W.notCls oe = true := by
    unfold PySem.W.notCls
    rw [hd] <;> rfl
  have J : PySem.W.InstAt s1.heap a oe C (some od) := ⟨ha, hz.1, no, by rw [hz.2]; exact ho⟩
  exact HandSPX.exc_get I1.kIn J T.ga T.gg T.exC (PySem.W.findObj_own T.hdC hno rfl (by rw [hl, hu])) (handed_of ru) ⟨v, H1, I1.tok _, ru, q⟩
end
end Fm
namespace Fm
open PySem PySem.Spec PyProof.Rows L2
/-! ### pairs of a text and an int, by the text, then by the int -/
def ltSI (p q : Str × Int) : Bool := if p.1 = q.1 then decide (p.2 < q.2) else decide (p.1.cps.toList < q.1.cps.toList)
theorem str_ext {x y : Str} (h : x.cps.toList = y.cps.toList) : x = y := by
  cases x
  cases y
  simp only at h
  rw [Array.toList_inj.mp h]
theorem ltSI_no {p q : Str × Int} : ltSI p q = false ↔ (p.1 = q.1 ∧ q.2 ≤ p.2) ∨ (q.1.cps.toList < p.1.cps.toList) := by
  unfold ltSI
  by_cases e : p.1 = q.1
  · rw [if_pos e, decide_eq_false_iff_not, Int.not_lt]
    constructor
    · exact fun h => .inl ⟨e, h⟩
    · rintro (h | h)
      · exact h.2
      · rw [e] at h
        exact absurd h (List.lt_irrefl _)
  · rw [if_neg e, decide_eq_false_iff_not]
    constructor
    · intro h
      refine .inr ?_
      rcases Std.lt_trichotomy q.1.cps.toList p.1.cps.toList with z | z | z
      · exact z
      · exact absurd (str_ext z.symm) e
      · exact absurd z h
    · rintro (h | h)
      · exact absurd h.1 e
      · exact fun z => List.lt_irrefl _ (List.lt_trans z h)
theorem ltSI_yes {p q : Str × Int} : ltSI p q = true ↔ (p.1 = q.1 ∧ p.2 < q.2) ∨ (p.1.cps.toList < q.1.cps.toList) := by
  unfold ltSI
  by_cases e : p.1 = q.1
  · rw [if_pos e, decide_eq_true_iff]
    constructor
    · exact fun h => .inl ⟨e, h⟩
    · rintro (h | h)
      · exact h.2
      · rw [e] at h
        exact absurd h (List.lt_irrefl _)
  · rw [if_neg e, decide_eq_true_iff]
    constructor
    · exact fun h => .inr h
    · rintro (h | h)
      · exact absurd h.1 e
      · exact h
theorem swo_SI (k : Value → Str × Int) : SrtO.Swo fun v u => ltSI (k v) (k u) := by
  refine ⟨fun x y h => ?_, fun x y z h1 h2 => ?_⟩
  · refine ltSI_no.mpr ?_
    rcases ltSI_yes.mp h with ⟨a, b⟩ | a
    · exact .inl ⟨a.symm, by omega⟩
    · exact .inr a
  · refine ltSI_no.mpr ?_
    rcases ltSI_no.mp h1 with ⟨a, b⟩ | a
    · rcases ltSI_no.mp h2 with ⟨c, d⟩ | c
      · exact .inl ⟨c.trans a, by omega⟩
      · rw [a] at c
        exact .inr c
    · rcases ltSI_no.mp h2 with ⟨c, d⟩ | c
      · rw [← c] at a
        exact .inr a
      · exact .inr (List.lt_trans a c)
/-- v is a pair of a text and an int -/
def IsSI (h : Heap) (v : Value) (x : Str) (i : Int) : Prop := ∃ (a : Addr) (o : Obj) (t u : Tok) (n : Nat), v = .ref a ∧ h.get? a = some o ∧ o.cls = .type "tuple" ∧ o.data = .seq #[.str x t, .int i u] n
theorem IsSI.one {h : Heap} {v : Value} {x y : Str} {i j : Int} (a : IsSI h v x i) (b : IsSI h v y j) : x = y ∧ i = j := by
  obtain ⟨p, o, t, u, n, rfl, ho, _, hd⟩ := a
  obtain ⟨p', o', t', u', n', e, ho', _, hd'⟩ := b
  cases e
  rw [ho] at ho'
  cases ho'
  rw [hd] at hd'
  injection hd' with h1 _
  have h2 := congrArg Array.toList h1
  simp at h2
  exact ⟨h2.1.1, h2.2.1⟩
section
variable {prog : Program} {w : World} {A : Around} {E : Value → Shared → Prop} {s : Shared}
theorem si_cmp {vs : List Value} {k : Value → Str × Int} (hp : ∀ v ∈ vs, IsSI s.heap v (k v).1 (k v).2) : SrtO.Cmp prog w A s (tuples' true) (fun p => p.1 ∈ vs) (SrtO.lt2 fun v u => ltSI (k v) (k u)) := by
  intro p q hm hm'
  have h1 := hp _ hm
  have h2 := hp _ hm'
  show wpAny (model prog w) A (keyLt' (tuples' true) p.1 q.1) (fun r s' => s' = s ∧ r = ltSI (k p.1) (k q.1)) (fun _ _ => False) s
  generalize k p.1 = kp at h1 ⊢
  generalize k q.1 = kq at h2 ⊢
  obtain ⟨x, y⟩ := kp
  obtain ⟨x', y'⟩ := kq
  obtain ⟨a, o, t, u, n, e, ho, hc, hd⟩ := h1
  obtain ⟨a', o', t', u', n', e', ho', hc', hd'⟩ := h2
  rw [e, e']
  refine PySem.W.kat_lt ho hd ho' hd' ?_
  show PySem.W.KatLex prog w A true (decide (2 < 2)) _ [(.str x t, .str x' t'), (.int y u, .int y' u')] 0 s
  refine PySem.W.kat_cons (SeqAt.EqAt.str_str x t x' t' prog w _ _ ?_)
  refine PySem.W.kat_go (fun e1 => ?_) (fun e1 => ?_)
  · have ex : x = x' := by simpa using e1
    refine PySem.W.kat_yes (PySem.W.kat_cons (SeqAt.EqAt.int_int y u y' u' prog w _ _ ?_))
    refine PySem.W.kat_go (fun e2 => ?_) (fun e2 => ?_)
    · have ey : y = y' := by simpa using e2
      refine PySem.W.kat_yes (PySem.W.kat_nil ⟨rfl, ?_⟩)
      rw [ex, ey]
      exact (ltSI_no.mpr (.inl ⟨rfl, Int.le_refl _⟩)).symm
    · refine PySem.W.kat_no (PySem.W.kat_one _ _ (PyProof.Rows.lt_int ?_))
      refine (show s = s ∧ decide (y < y') = ltSI (x, y) (x', y') from ⟨rfl, ?_⟩)
      unfold ltSI
      rw [if_pos ex]
  · have ex : ¬ x = x' := by simpa using e1
    refine PySem.W.kat_no (PyProof.Rows.oneLt_str ⟨rfl, ?_⟩)
    unfold ltSI
    rw [if_neg ex]
/-- their first items -/
theorem si_firsts : ∀ vs : List Value, (∀ v ∈ vs, ∃ x i, IsSI s.heap v x i) → ∃ fs, PySem.W.KatTups s.heap vs fs ∧ fs.length = vs.length ∧ ∀ f ∈ fs, ∃ x t, f = Value.str x t
  | [], _ => ⟨[], .nil, rfl, fun _ h => nomatch h⟩
  | v :: vs, h => by
    obtain ⟨fs, k, hl, hi⟩ := si_firsts vs fun u hu => h u (by simp [hu])
    obtain ⟨x, i, a, o, t, u, n, rfl, ho, hc, hd⟩ := h v (by simp)
    refine ⟨.str x t :: fs, .cons ho hc hd rfl k, by simp [hl], fun f hf => ?_⟩
    rcases List.mem_cons.mp hf with rfl | hf
    · exact ⟨x, t, rfl⟩
    · exact hi f hf
theorem si_sortable {a : Addr} {vs : List Value} {k : Value → Str × Int} (h0 : 0 < vs.length) (hp : ∀ v ∈ vs, IsSI s.heap v (k v).1 (k v).2) (ha : ∀ o, s.heap.get? a = some o → o.cls ≠ .type "tuple") : SrtO.SortableO prog w A s a vs fun v u => ltSI (k v) (k u) := by
  intro h' keep
  have hp' : ∀ v ∈ vs, IsSI h' v (k v).1 (k v).2 := fun v hm => by
    obtain ⟨p, o, t, u, n, e, ho, hc, hd⟩ := hp v hm
    exact ⟨p, o, t, u, n, e, keep p o (fun z => by subst z; exact ha o ho hc) ho, hc, hd⟩
  obtain ⟨fs, h1, h2, h3⟩ := si_firsts (s := { s with heap := h' }) vs fun v hm => ⟨_, _, hp' v hm⟩
  refine ⟨tuples' true, fun Q E hq => ?_, si_cmp hp'⟩
  refine PySem.W.kat_kind (T := .type "str") h1 (by omega) (fun f hm => ?_) (by rfl) ?_
  · obtain ⟨x, t, rfl⟩ := h3 f hm
    exact PySem.W.Looks.now
  · have e : (Value.type "str" != Value.type "tuple") = true := by first | decide +kernel | rfl | decide
    rw [e]
    exact hq
end
section
variable {X : Cx}
/-- d.items() -/
def rItemsK : V → List V → Hp → VK → Prop := fun x xs H Q => ∃ (a : Addr) (kvs : List (L2.Key × V)), x = .ref a ∧ xs = [] ∧ H a = some (.dK kvs) ∧ ∀ p, H p = none → Q (.ref p) (upd H p (DX.itemsO p a))
theorem mt_itemsK : MtR X "dict.items" rItemsK := by
  intro pins s σ H x xs v us Q I rx rxs h
  obtain ⟨a, kvs, rfl, rfl, ha, q⟩ := h
  cases rx
  cases rxs
  obtain ⟨_, hd, _, _, o, es, ep, ho, hx, hdat, _⟩ := dk_of I.hok ha
  refine DT.callItems (es := es) (ep := ep) hd ⟨o, ho, hx, hdat⟩ ?_
  have hf : H s.heap.objs.size = none := I.hok.fresh (Nat.le_refl _)
  exact ⟨.ref s.heap.objs.size, _, I.laid (t' := s.toks) (fun b u e => Heap.get?_push_of_some _ e) (Nat.le_refl _) (DX.itemsO_ok (Heap.get?_push_size _ rfl)), rfl, q _ hf⟩
theorem pairs_at {P : Program} {w : World} : ∀ {es : List DictEntry} {vs : List (L2.Key × Value)}, Pairs (mixKind P w) es vs → ∀ (j : Nat), (∀ e, es[j]? = some e → ∃ kv, vs[j]? = some kv ∧ keyIs kv.1 e.key = true ∧ e.val = kv.2) ∧ es.length = vs.length
  | _, _, .nil, j => ⟨fun e h => by simp at h, rfl⟩
  | _, _, .cons h1 h2 h3, 0 => ⟨fun e h => by
      simp at h
      subst h
      exact ⟨_, rfl, h1, h2⟩, by simp [(pairs_at h3 0).2]⟩
  | _, _, .cons h1 h2 h3, j + 1 => ⟨fun e h => by
      obtain ⟨kv, a, b⟩ := (pairs_at h3 j).1 e (by simpa using h)
      exact ⟨kv, by simpa using a, b⟩, by simp [(pairs_at h3 0).2]⟩
abbrev rowK (r : Str × Int) : L2.Key × V := (Sum.inr r.1, .int r.2)
/-- sorted(d.items()), keys texts, values ints -/
def rSortSI : List V → Hp → VK → Prop := fun xs H Q => ∃ (p a : Addr) (rows : List (Str × Int)), xs = [.ref p] ∧ H p = some (DX.itemsO p a) ∧ H a = some (.dK (rows.map rowK)) ∧
  ∀ (H' : Hp) (l : Addr) (ps : List (Addr × Str × Int)), (∀ b o, H b = some o → H' b = some o) → H l = none → (ps.map (·.2)).Perm rows → (ps.map (·.2)).Pairwise (fun e f => e.1.cps.toList < f.1.cps.toList) → H' l = some (.lst (ps.map fun z => V.ref z.1)) →
    (∀ z ∈ ps, H' z.1 = some (.tup [.str z.2.1, .int z.2.2])) → Q (.ref l) H'
theorem cr_sortSI (hc : X.calm = true) : CallR X (.builtin "sorted") rSortSI := by
  intro pins s σ H xs us Q I r h
  obtain ⟨p, a, rows, rfl, hp, ha, q⟩ := h
  obtain rfl := Vals.ref1 r
  have view : s.heap.IsItemsView p a := (show ObjOk X.prog X.w H s.heap p (DX.itemsO p a) from I.hok p _ hp).1
  obtain ⟨z, hd, vs', kv, o, es, ep, ho, hx, hdat, _, hpr, hnd⟩ := dk_of I.hok ha
  have l1 : (rows.map rowK).length = vs'.length := Paired.length kv
  rw [List.length_map] at l1
  have l2 : es.size = vs'.length := by
    have := (pairs_at hpr 0).2
    simpa using this
  rw [List.length_map] at z
  have hh : X.A.handled = none := I.ok.hd hc
  refine DT.sortedI (es := es) (ep := ep) hh view ⟨o, ho, hx, hdat⟩ (by omega) fun h' tk as hk hlt hl hG => ?_
  have lak : as.length = rows.length := by omega
  have nd : as.Nodup := List.Pairwise.imp (fun h => Nat.ne_of_lt h) hG.rise
  have pr : ∀ (j : Nat) (b : Addr), as[j]? = some b → ∃ (e : Str × Int), rows[j]? = some e ∧ IsSI h' (.ref b) e.1 e.2 ∧ ∃ t u, h'.get? b = some { cls := .type "tuple", data := .seq #[.str e.1 t, .int e.2 u] } := by
    intro j b hj
    obtain ⟨en, he, hg⟩ := hG.pairs j b hj
    obtain ⟨kq, h1, h2, h3⟩ := (pairs_at hpr j).1 en (by rw [Array.getElem?_toList]; exact he)
    obtain ⟨x, hx1, hx2, hx3⟩ := DX.pget kv h1
    rw [List.getElem?_map] at hx1
    obtain ⟨e, e1, rfl⟩ := Option.map_eq_some_iff.mp hx1
    rw [← hx2] at h2
    obtain ⟨t, e2⟩ : ∃ t, en.key = Value.str e.1 t := by
      rcases keyIs_shape h2 with ⟨i, t, z, _⟩ | ⟨y, t, z1, z2⟩
      · cases z
      · cases z1
        exact ⟨t, z2⟩
    obtain ⟨u, e3⟩ : ∃ u, en.val = Value.int e.2 u := by
      rw [h3]
      obtain ⟨u, hu⟩ := (show ∃ u, kq.2 = Value.int e.2 u from hx3)
      exact ⟨u, hu⟩
    rw [e2, e3] at hg
    exact ⟨e, e1, ⟨b, _, t, u, 0, rfl, hg, rfl, rfl⟩, t, u, hg⟩
  have hob : (h'.push { cls := .type "list", data := .seq (as.map Value.ref).toArray }).get? h'.objs.size = some (seqObj "list" (as.map Value.ref).toArray 0) := Heap.get?_push_size _ rfl
  have ka : ∀ b o, h'.get? b = some o → (h'.push { cls := .type "list", data := .seq (as.map Value.ref).toArray }).get? b = some o := fun b o e => Heap.get?_push_of_some _ e
  have ne0 : ∀ b o, h'.get? b = some o → b ≠ h'.objs.size := fun b o e => Nat.ne_of_lt (Heap.lt_size e)
  generalize h'.push { cls := .type "list", data := .seq (as.map Value.ref).toArray } = h2 at hob ka ⊢
  have kb : ∀ b o, s.heap.get? b = some o → h2.get? b = some o := fun b o e => ka _ _ (hk b o e)
  -- the pair that a value is
  obtain ⟨k, hkv⟩ : ∃ k : Value → Str × Int, ∀ (j : Nat) (b : Addr), as[j]? = some b → some (k (.ref b)) = rows[j]? := by
    refine ⟨fun v => match v with | .ref b => (rows[as.idxOf b]?).getD ("", 0) | _ => ("", 0), fun j b hj => ?_⟩
    have hjl : j < as.length := (List.getElem?_eq_some_iff.mp hj).1
    have hjb : as[j] = b := (List.getElem?_eq_some_iff.mp hj).2
    have e : as.idxOf b = j := by
      rw [← hjb]
      exact List.Nodup.idxOf_getElem nd j hjl
    dsimp only
    rw [e, List.getElem?_eq_getElem (by omega : j < rows.length)]
    rfl
  have isS : ∀ v ∈ as.map Value.ref, IsSI h2 v (k v).1 (k v).2 := by
    intro v hv
    obtain ⟨b, hb, rfl⟩ := List.mem_map.mp hv
    obtain ⟨j, hj⟩ := List.mem_iff_getElem?.mp hb
    obtain ⟨e, he, ⟨b', o, t, u, n, eb, hg, hc', hd'⟩, _⟩ := pr j b hj
    have := hkv j b hj
    rw [he] at this
    rw [Option.some.inj this]
    exact ⟨b', o, t, u, n, eb, ka _ _ hg, hc', hd'⟩
  refine wpAny_call_entry PyProof.Rows.slot_list_sort ⟨_, hob, rfl⟩ PyProof.Rows.entry_list_sort
    (SrtO.list_sort_ord (s := { s with heap := h2, toks := tk }) (swo_SI k) hob (by rw [List.length_map]; omega) (fun h2l => si_sortable (by omega) isS fun o e => ?_) fun out o1 o2 => ⟨.none, rfl, ?_⟩) (PyProof.Rows.args_list_sort _)
  · have e' : h2.get? h'.objs.size = some o := e
    rw [hob] at e'
    cases e'
    exact fun z => absurd (Value.type.inj z) (by decide)
  · show EP X pins σ Q (.ref h'.objs.size) { s with heap := sortedHeap h2 h'.objs.size (as.map Value.ref) out.toArray, toks := tk }
    have hperm := o2.perm
    obtain ⟨bs, pb, eb⟩ := perm_lift Value.ref hperm as rfl
    subst eb
    have idx : ∀ b ∈ bs, ∃ j : Nat, as[j]? = some b ∧ rows[j]? = some (k (.ref b)) := by
      intro b hb
      obtain ⟨j, hj⟩ := List.mem_iff_getElem?.mp (pb.mem_iff.mp hb)
      exact ⟨j, hj, (hkv j b hj).symm⟩
    have e0 : as.map (fun b => k (.ref b)) = rows := by
      refine List.ext_getElem? fun j => ?_
      rw [List.getElem?_map]
      cases hj : as[j]? with
      | none =>
        have : rows.length ≤ j := by
          rw [← lak]
          exact List.getElem?_eq_none_iff.mp hj
        rw [List.getElem?_eq_none this]
        rfl
      | some b => exact hkv j b hj
    have pRows : ((bs.map fun b => (b, k (.ref b))).map (·.2)).Perm rows := by
      rw [List.map_map, ← e0]
      exact pb.map _
    have nodupK : (rows.map (·.1)).Nodup := by
      have e9 : vs'.map (·.1) = (rows.map (·.1)).map Sum.inr := by
        have : ∀ {l : List (L2.Key × V)} {m : List (L2.Key × Value)}, KV l m → m.map (·.1) = l.map (·.1) := by
          intro l m hK
          induction hK with
          | nil => rfl
          | cons h _ ih => rw [List.map_cons, List.map_cons, ih, h.1]
        rw [this kv, List.map_map, List.map_map]
        rfl
      rw [e9] at hnd
      exact (List.pairwise_map.mp hnd).imp fun h z => h (by rw [z])
    have sRows : ((bs.map fun b => (b, k (.ref b))).map (·.2)).Pairwise (fun e f => e.1.cps.toList < f.1.cps.toList) := by
      have n2 : ((bs.map fun b => (b, k (.ref b))).map (·.2)).Pairwise (fun e f => e.1 ≠ f.1) := by
        have := (pRows.map (·.1)).nodup_iff.mpr nodupK
        exact List.pairwise_map.mp this
      have n1 : ((bs.map fun b => (b, k (.ref b))).map (·.2)).Pairwise (fun e f => ltSI f e = false) := by
        rw [List.map_map, List.pairwise_map]
        exact List.pairwise_map.mp o1
      refine (n1.and n2).imp fun {e f} h => ?_
      rcases ltSI_no.mp h.1 with z | z
      · exact absurd z.1.symm h.2
      · exact z
    have kF : ∀ b o, b ≠ h'.objs.size → h2.get? b = some o → (sortedHeap h2 h'.objs.size (as.map Value.ref) (bs.map Value.ref).toArray).get? b = some o := fun b o hb e => (PyProof.Rows.sortedHeap_old hb (Heap.lt_size e)).trans e
    have kS : ∀ b o, s.heap.get? b = some o → (sortedHeap h2 h'.objs.size (as.map Value.ref) (bs.map Value.ref).toArray).get? b = some o := fun b o e => kF b o (ne0 _ _ (hk b o e)) (kb b o e)
    obtain ⟨eF, heF⟩ := PyProof.Rows.sortedHeap_at (vs := as.map Value.ref) (out := (bs.map Value.ref).toArray) hob
    have I1 : Inv X pins σ H { s with heap := sortedHeap h2 h'.objs.size (as.map Value.ref) (bs.map Value.ref).toArray, toks := tk } := I.kept (t' := tk) kS
    have hn0 : H h'.objs.size = none := I.hok.fresh (Nat.le_of_lt hlt)
    have hlen : (bs.map V.ref).length ≤ sizeLine := by
      rw [List.length_map, pb.length_eq]
      omega
    have rv : Vals (bs.map V.ref) (bs.map Value.ref) := vals_refs bs
    have I2 : Inv X pins σ (upd H h'.objs.size (.lst (bs.map V.ref))) { s with heap := sortedHeap h2 h'.objs.size (as.map Value.ref) (bs.map Value.ref).toArray, toks := tk } :=
      I1.take (h' := sortedHeap h2 h'.objs.size (as.map Value.ref) (bs.map Value.ref).toArray) (t' := tk) (fun b ob _ e => e) (I.fpOk (Nat.le_of_lt hlt) hn0) ⟨hlen, bs.map Value.ref, eF, rv, heF⟩
    obtain ⟨H2, I3, g, qt⟩ := DX.takeT (P := fun b vs => vs = [.str (k (.ref b)).1, .int (k (.ref b)).2]) I as _ I2 nd fun b hb => by
      obtain ⟨j, hj⟩ := List.mem_iff_getElem?.mp hb
      obtain ⟨e, he, _, t, u, hg⟩ := pr j b hj
      have ek : k (.ref b) = e := by
        have := hkv j b hj
        rw [he] at this
        exact Option.some.inj this
      have hbl : s.heap.objs.size ≤ b := Nat.le_of_lt (hG.above b hb)
      refine ⟨hbl, ?_, _, rfl, fun H3 => ⟨(by show 2 ≤ sizeLine; decide), [Value.str e.1 t, Value.int e.2 u], ?_, ⟨_, kF _ _ (ne0 _ _ hg) (ka _ _ hg), rfl, 0, rfl⟩⟩⟩
      · rw [upd_ne (ne0 _ _ hg)]
        exact I.hok.fresh hbl
      · rw [ek]
        exact .cons ⟨t, rfl⟩ (.cons ⟨u, rfl⟩ .nil)
    have gr : ∀ b o, H b = some o → H2 b = some o := fun b o e => g b o (by rw [upd_ne (ne_of_none e hn0)]; exact e)
    refine ⟨.ref h'.objs.size, H2, I3, rfl, q H2 h'.objs.size (bs.map fun b => (b, k (.ref b))) gr hn0 pRows sRows ?_ fun z' hz' => ?_⟩
    · rw [List.map_map]
      exact g _ _ upd_same
    · obtain ⟨b, hb, rfl⟩ := List.mem_map.mp hz'
      obtain ⟨vs, ev, hH⟩ := qt b (pb.mem_iff.mp hb)
      rw [hH, ev]
end
end Fm
/-! sorted(xs, key=f), f a def of the text -/
namespace Fm
open PySem PySem.Spec PyProof.Rows L2
/-- keys of one kind, and their order -/
structure KOrd (prog : Program) (w : World) (keys : List Value) (ltk : Value → Value → Bool) : Prop where
  swo : SrtO.Swo ltk
  kind : 2 ≤ keys.length → keyKind' keys.toArray = pure oneType'
  cmp : ∀ A s, SrtO.Cmp prog w A s oneType' (fun p => p.1 ∈ keys) (SrtO.lt2 ltk)
theorem kord_ints {prog : Program} {w : World} {keys : List Value} {ns : List Int} (h : IntsAre keys ns) : KOrd prog w keys SrtO.ltIv := by
  refine ⟨SrtO.swo_int, fun h2 => ?_, fun A s => SrtO.int_cmp h⟩
  match keys, h, h2 with
  | v1 :: v2 :: rest, h, _ => exact keyKind_ints h
  | [], _, h => exact absurd h (by decide)
  | [v], _, h => exact absurd h (by simp)
def sv : Value → List Nat
  | .str x _ => x.cps.toList
  | _ => []
def ltSv (v u : Value) : Bool := decide (sv v < sv u)
theorem swo_str : SrtO.Swo ltSv := by
  refine ⟨fun x y h => ?_, fun x y z h1 h2 => ?_⟩
  · have a := of_decide_eq_true (p := sv x < sv y) h
    exact decide_eq_false (p := sv y < sv x) (List.lt_asymm a)
  · have a := of_decide_eq_false (p := sv y < sv x) h1
    have b := of_decide_eq_false (p := sv z < sv y) h2
    exact decide_eq_false (p := sv z < sv x) (List.not_lt.mpr (List.le_trans (List.not_lt.mp a) (List.not_lt.mp b)))
theorem strs_mem : ∀ {vs : List Value} {ns : List Str}, StrsAre vs ns → ∀ v ∈ vs, ∃ i t, v = Value.str i t
  | _, _, .nil, v, h => absurd h (by simp)
  | _, _, .cons n t r, v, h => by
    rcases List.mem_cons.mp h with e | h
    · exact ⟨n, t, e⟩
    · exact strs_mem r v h
theorem kord_strs {prog : Program} {w : World} {keys : List Value} {ns : List Str} (h : StrsAre keys ns) : KOrd prog w keys ltSv := by
  refine ⟨swo_str, fun h2 => ?_, fun A s p q hm hm' => ?_⟩
  · match keys, h, h2 with
    | v1 :: v2 :: rest, h, _ => exact keyKind_strs h
    | [], _, h => exact absurd h (by decide)
    | [v], _, h => exact absurd h (by simp)
  · obtain ⟨a, t, e⟩ := strs_mem h _ hm
    obtain ⟨b, u, e'⟩ := strs_mem h _ hm'
    show wpAny (model prog w) A (keyLt' oneType' p.1 q.1) (fun r s' => s' = s ∧ r = ltSv p.1 q.1) (fun _ _ => False) s
    rw [e, e', keyLt'_oneType]
    exact oneLt_str ⟨rfl, rfl⟩
section
variable {prog : Program} {w : World} {A : Around} {E : Value → Shared → Prop} {s : Shared}
/-- the list written anew -/
theorem key_tail {a kS : Addr} {e e1 : Nat} {vs keys : List Value} {st : SortSt} {R : PySem.Fin → Shared → Prop} (hl : keys.length = vs.length) (hz : vs.length ≤ sizeLine) (hka : kS ≠ a)
    (hk : s.heap.get? kS = some (seqObj "list" keys.toArray e)) (ha : s.heap.get? a = some (seqObj "list" #[] e1)) (hp : (arrOf st).toList.Perm (keys.zip vs)) (hfl : failedOf st = none)
    (h : ∀ hm h' : Heap, (∀ b o, b ≠ kS → s.heap.get? b = some o → hm.get? b = some o) → (∃ n, hm.get? kS = some (seqObj "list" #[] n)) → (∀ b o, b ≠ a → hm.get? b = some o → h'.get? b = some o) → (∃ n, h'.get? a = some (seqObj "list" ((arrOf st).toList.map (·.2)).toArray n)) → R (.done (.ret .none)) { s with heap := h' }) :
    wpAny (model prog w) A (ksk_tail a false e1 (.ref kS) st) R E s := by
  have hsz2 : (arrOf st).size = vs.length := by
    rw [← Array.length_toList, hp.length_eq, List.length_zip]
    omega
  have s1 := Heap.SameBut.update s.heap kS (Obj.mapSeq fun _ => (#[] : Array Value))
  have ha1 : (s.heap.update kS (Obj.mapSeq fun _ => (#[] : Array Value))).get? a = some (seqObj "list" #[] e1) := (s1.2 a hka.symm).trans ha
  have s2 := Heap.SameBut.update (s.heap.update kS (Obj.mapSeq fun _ => (#[] : Array Value))) a (Obj.mapSeq fun _ => (arrOf st).map (·.2))
  obtain ⟨c2, hc2⟩ : ∃ c2, ((s.heap.update kS (Obj.mapSeq fun _ => (#[] : Array Value))).update a (Obj.mapSeq fun _ => (arrOf st).map (·.2))).get? a = some (seqObj "list" ((arrOf st).map (·.2)) c2) := ⟨_, get?_update_seq ha1 fun _ => (arrOf st).map (·.2)⟩
  unfold ksk_tail
  try dsimp only
  refine wpAny_bind (listUpdate_at hk rfl ?_ (by rw [List.size_toArray, hl]; exact hz) (Nat.zero_le _))
  refine wpAny_bind (wpAny_letGo ?_)
  refine wpAny_bind (seqEpoch_at ha1 rfl ?_)
  refine wpAny_bind (listUpdate_at ha1 rfl ?_ (Nat.zero_le _) (by simp only [Bool.false_eq_true, if_false, Array.size_map]; omega))
  rw [hfl]
  simp only [bne_self_eq_false, Bool.false_eq_true, if_false]
  refine wpAny_pure (h _ _ (fun b o hb2 z => (s1.2 b hb2).trans z) ⟨_, get?_update_seq hk fun _ => #[]⟩ (fun b o hb z => (s2.2 b hb).trans z) ⟨c2, ?_⟩)
  rw [hc2, ← Array.toList_map, Array.toArray_toList]
/-- behind the keys: the sort, and the list written anew -/
theorem key_end {a kS : Addr} {e e1 : Nat} {vs keys : List Value} {ltk : Value → Value → Bool} {R : PySem.Fin → Shared → Prop} (O : KOrd prog w keys ltk) (hl : keys.length = vs.length) (hz : vs.length ≤ sizeLine) (hka : kS ≠ a)
    (hk : s.heap.get? kS = some (seqObj "list" keys.toArray e)) (ha : s.heap.get? a = some (seqObj "list" #[] e1))
    (h : ∀ (hm h' : Heap) (out : List Keyed), SrtO.Srtd (SrtO.lt2 ltk) out → out.Perm (keys.zip vs) → (∀ b o, b ≠ kS → s.heap.get? b = some o → hm.get? b = some o) → (∃ n, hm.get? kS = some (seqObj "list" #[] n)) → (∀ b o, b ≠ a → hm.get? b = some o → h'.get? b = some o) → (∃ n, h'.get? a = some (seqObj "list" (out.map (·.2)).toArray n)) → R (.done (.ret .none)) { s with heap := h' }) :
    wpAny (model prog w) A (ksk_end a false vs.toArray e1 (.ref kS) keys.toArray) R E s := by
  have hzl : (keys.toArray.zip vs.toArray).toList = keys.zip vs := by simp
  unfold ksk_end
  try dsimp only
  simp only [Bool.false_eq_true, if_false]
  by_cases h2 : vs.toArray.size < 2
  · rw [if_pos h2, if_pos h2]
    refine wpAny_bind (wpAny_pure ?_)
    rw [StateT.run_pure]
    refine wpAny_bind (wpAny_pure ?_)
    try dsimp only
    refine key_tail (st := SortSt.mk' general' (keys.toArray.zip vs.toArray) #[] 7 none) hl hz hka hk ha (by show (keys.toArray.zip vs.toArray).toList.Perm _; rw [hzl]) rfl fun hm h' k1 k2 k3 k4 => h hm h' _ ?_ ?_ k1 k2 k3 k4
    · show List.Pairwise _ (keys.toArray.zip vs.toArray).toList
      rw [hzl]
      rw [List.size_toArray] at h2
      match keys, vs, hl, h2 with
      | [], [], _, _ => exact List.Pairwise.nil
      | [x], [y], _, _ => exact List.pairwise_singleton _ _
      | _ :: _ :: _, _ :: _ :: _, _, h2 => exact absurd h2 (by simp)
    · show (keys.toArray.zip vs.toArray).toList.Perm _
      rw [hzl]
  · rw [if_neg h2, if_neg h2]
    rw [List.size_toArray] at h2
    rw [O.kind (by omega)]
    refine wpAny_bind (wpAny_pure ?_)
    have hall : SrtO.AllL (fun p : Keyed => p.1 ∈ keys) (keys.toArray.zip vs.toArray).toList := fun p hm => by
      rw [hzl] at hm
      exact (List.of_mem_zip (show (p.1, p.2) ∈ keys.zip vs from hm)).1
    refine wpAny_bind (wpAny_mono (SrtO.wpS_sortO (st0 := SortSt.mk' oneType' (keys.toArray.zip vs.toArray) #[] 7 none)
      (Q := fun _ st' => SrtO.Srtd (SrtO.lt2 ltk) (arrOf st').toList ∧ SrtO.Stb (SrtO.lt2 ltk) (arrOf st').toList (keys.toArray.zip vs.toArray).toList ∧ failedOf st' = none) (SrtO.swo2 O.swo) (O.cmp A s) rfl hall rfl rfl fun st' a1 a2 a3 => ⟨a1, a2, a3⟩) ?_ fun _ _ e => e)
    rintro ⟨⟨⟩, st'⟩ s' ⟨rfl, hp1, hp2, hf⟩
    try dsimp only
    have hp3 := hp2.perm
    rw [hzl] at hp3
    exact key_tail hl hz hka hk ha hp3 hf fun hm h' k1 k2 k3 k4 => h hm h' _ hp1 hp3 k1 k2 k3 k4
end
/-- the order of keys -/
def ltV : V → V → Bool
  | .int i, .int j => decide (i < j)
  | .str x, .str y => decide (x.cps.toList < y.cps.toList)
  | _, _ => false
def KeysV (ks : List V) : Prop := (∃ ns : List Int, ks = ns.map V.int) ∨ (∃ xs : List Str, ks = xs.map V.str)
theorem strs_of_vals : ∀ {xs : List Str} {us : List Value}, Vals (xs.map V.str) us → StrsAre us xs
  | [], _, h => by
    cases h
    exact .nil
  | x :: xs, _, h => by
    cases h with
    | cons r t =>
      obtain ⟨k, rfl⟩ := (show ∃ k, _ = Value.str x k from r)
      exact .cons x k (strs_of_vals t)
theorem kord_of {prog : Program} {w : World} {ks : List V} {us : List Value} (h : KeysV ks) (r : Vals ks us) : ∃ ltk, KOrd prog w us ltk ∧ ∀ (i j : Nat) (k l : V) (u v : Value), ks[i]? = some k → ks[j]? = some l → RelV k u → RelV l v → ltk u v = ltV k l := by
  rcases h with ⟨ns, rfl⟩ | ⟨xs, rfl⟩
  · refine ⟨SrtO.ltIv, kord_ints r.ints, fun i j k l u v hk hl ru rv => ?_⟩
    rw [List.getElem?_map] at hk hl
    obtain ⟨n, _, rfl⟩ := Option.map_eq_some_iff.mp hk
    obtain ⟨m, _, rfl⟩ := Option.map_eq_some_iff.mp hl
    obtain ⟨t, rfl⟩ := (show ∃ t, u = Value.int n t from ru)
    obtain ⟨t', rfl⟩ := (show ∃ t, v = Value.int m t from rv)
    rfl
  · refine ⟨ltSv, kord_strs (strs_of_vals r), fun i j k l u v hk hl ru rv => ?_⟩
    rw [List.getElem?_map] at hk hl
    obtain ⟨n, _, rfl⟩ := Option.map_eq_some_iff.mp hk
    obtain ⟨m, _, rfl⟩ := Option.map_eq_some_iff.mp hl
    obtain ⟨t, rfl⟩ := (show ∃ t, u = Value.str n t from ru)
    obtain ⟨t', rfl⟩ := (show ∃ t, v = Value.str m t from rv)
    rfl
section
variable {X : Cx} {n : Nat} {f : Addr} {sp : Sp}
def rSortK (K : PySem.W.Frag) (f : Addr) (sp : Sp) : List V → List V → Hp → VK → Prop := fun vs zs H Q => ∃ (a : Addr) (xs ks : List V), vs = [.ref a] ∧ zs = [.ref f] ∧ (SqL K H a xs ∨ SqT K H a xs) ∧ ks.length = xs.length ∧ KeysV ks ∧
  (∀ (i : Nat) (x k : V), xs[i]? = some x → ks[i]? = some k → ∀ Q' : VK, Q' k H → sp [x] H Q' E0) ∧
  ∀ (ps : List (V × V)) (p : Addr) (H' : Hp), ps.Perm (ks.zip xs) → ps.Pairwise (fun p q => ltV q.1 p.1 = false) → H p = none → (∀ b o, H b = some o → H' b = some o) → H' p = some (.lst (ps.map (·.2))) → Q (.ref p) H'
/-- the keys, one by one -/
theorem key_loop {pins : List (Addr × Obj)} {s : Shared} {σ : L2.St} {H : Hp} {a kS : Addr} {e1 : Nat} {xs ks : List V} {us : List Value} {R : PySem.Fin → Shared → Prop} {A : Around} {E : Value → Shared → Prop}
    (F : FnR X.prog X.w X.K X.mg X.base CX0 n f sp) (hA : A = X.A.in1.in1) (hr : Room n A) (hx : Passes CX0 X E0) (hl : ks.length = xs.length) (hv : Vals xs us) (hz : xs.length ≤ sizeLine)
    (hsp : ∀ (i : Nat) (x k : V), xs[i]? = some x → ks[i]? = some k → ∀ Q' : VK, Q' k H → sp [x] H Q' E0) (hka : kS ≠ a) (fa : FpOk X pins H a) (fk : FpOk X pins H kS)
    (I : Inv X (pins ++ [(kS, seqObj "list" #[] 0), (a, seqObj "list" #[] e1)]) σ H s)
    (h : ∀ (s' : Shared) (keys : List Value) (e : Nat), Inv X (pins ++ [(kS, seqObj "list" keys.toArray e), (a, seqObj "list" #[] e1)]) σ H s' → Vals ks keys → wpAny (model X.prog X.w) A (ksk_end a false us.toArray e1 (.ref kS) keys.toArray) R E s') :
    wpAny (model X.prog X.w) A (ksk_rest a (.ref f) false us.toArray e1 (.ref kS)) R E s := by
  have hlu : us.length = xs.length := hv.length.symm
  unfold ksk_rest
  refine wpAny_bind (wpAny_rule ?_)
  rw [List.forIn_toArray]
  refine wpAny_bind (ksk_fold (fun i s' => ∃ (kA : List Value) (e : Nat), Inv X (pins ++ [(kS, seqObj "list" kA.toArray e), (a, seqObj "list" #[] e1)]) σ H s' ∧ Vals (ks.take i) kA) us 0 s ⟨[], 0, I, by simpa using Paired.nil⟩ ?step ?done)
  case step =>
    rintro j x s' hx' ⟨kA, e, I', hk⟩
    simp only [Nat.zero_add] at hk ⊢
    have hj : j < us.length := (List.getElem?_eq_some_iff.mp hx').1
    obtain ⟨k, hkj⟩ : ∃ k, ks[j]? = some k := ⟨_, List.getElem?_eq_getElem (by omega)⟩
    obtain ⟨xv, hxj, rx⟩ : ∃ xv, xs[j]? = some xv ∧ RelV xv x := by
      have hjx : j < xs.length := by omega
      obtain ⟨u, hu, ru⟩ := hv.get (List.getElem?_eq_getElem hjx)
      rw [hx'] at hu
      cases hu
      exact ⟨_, List.getElem?_eq_getElem hjx, ru⟩
    have e0 : Env0 X.prog X.w X.K X.mg X.base A X.stack s' H := by
      rw [hA]
      exact I'.env0.in1.in1
    have hc : codeAny (model X.prog X.w) A (.call (.ref f) ⟨[x], []⟩) (fun r s'' => match r with | .ok (.ret u) => EP X (pins ++ [(kS, seqObj "list" kA.toArray e), (a, seqObj "list" #[] e1)]) σ (fun v H' => v = k ∧ H' = H) u s'' | .ok _ => False | .error _ => False) s' := by
      refine codeAny_mono (F A X.stack s' H [x] [xv] (fun v H' => v = k ∧ H' = H) E0 hr e0 (.cons rx .nil) (hsp j xv k hxj hkj _ ⟨rfl, rfl⟩)) fun r s'' hq => ?_
      cases r with
      | error e => exact hq
      | ok fl =>
        cases fl with
        | ret u => exact I'.after hq
        | next => exact hq
        | brk => exact hq
        | cont => exact hq
    refine wpAny_bind (wpAny_attempt (wpAny_mono (wpAny_call (E := fun _ _ => False) hc) (fun u s'' he => ?_) fun _ _ hF => hF.elim))
    obtain ⟨v, H'', I2, ru, rfl, rfl⟩ := he
    obtain ⟨nk, hnk, k1, k2, k3⟩ := I2.pin (kS, seqObj "list" kA.toArray e) (by simp)
    obtain ⟨na, hna, a1, a2, a3⟩ := I2.pin (a, seqObj "list" #[] e1) (by simp)
    obtain ⟨g, gg, gd, gt, gos⟩ := s''
    have s1 := Heap.SameBut.update g kS (Obj.mapSeq (·.push u))
    obtain ⟨c2, hc2⟩ : ∃ c2, (g.update kS (Obj.mapSeq (·.push u))).get? kS = some (seqObj "list" (kA.toArray.push u) c2) := ⟨_, get?_update_seq nk (·.push u)⟩
    have hkl : kA.length ≤ xs.length := by
      have := hk.length
      rw [List.length_take] at this
      omega
    refine wpAny_bind (listUpdate_at nk rfl ?_ (by rw [List.size_toArray]; omega) (by rw [Array.size_push, List.size_toArray]; omega))
    have hpush : kA.toArray.push u = (kA ++ [u]).toArray := by simp
    refine wpAny_pure ⟨rfl, kA ++ [u], c2, ?_, ?_⟩
    · have I3 : Inv X pins σ H'' ⟨g, gg, gd, gt, gos⟩ := I2.unpinned
      obtain ⟨f0, f1, f2, f3, f4, f5⟩ := fk
      have I4 : Inv X pins σ H'' ⟨g.update kS (Obj.mapSeq (·.push u)), gg, gd, gt, gos⟩ := I3.turned (t' := gt) (fun b o hb z => (s1.2 b hb).trans z) f0 f1 f3 f4 f5
      refine I4.pins_of fun p hp => ?_
      rcases List.mem_append.mp hp with hp | hp
      · exact I4.pin p (List.mem_append_right _ hp)
      · rcases List.mem_cons.mp hp with rfl | hp
        · exact ⟨by rw [← hpush]; exact hc2, hnk, k1, k2, fun v z => nomatch z⟩
        · rw [List.mem_singleton.mp hp]
          exact ⟨(s1.2 a hka.symm).trans na, hna, a1, a2, fun v z => nomatch z⟩
    · rw [List.take_add_one, hkj]
      exact hk.append (.cons ru .nil)
  case done =>
    rintro s' ⟨kA, e, I', hk⟩
    have e3 : ks.take (0 + us.length) = ks := List.take_of_length_le (by omega)
    rw [e3] at hk
    obtain ⟨nk, _⟩ := I'.pin (kS, seqObj "list" kA.toArray e) (by simp)
    refine wpAny_bind (listItems_at nk rfl ?_)
    exact h s' kA e I' hk
/-- sorted(xs, key=f) -/
theorem cr_sortKey (F : FnR X.prog X.w X.K X.mg X.base CX0 n f sp) (hr : Room (n + 2) X.A) : CallRK X (.builtin "sorted") [Str.ofString "key"] (rSortK X.K f sp) := by
  intro pins s σ H vs zs us ws Q I r rz h
  obtain ⟨a, xs, ks, rfl, rfl, hS, hl, hK, hsp, q⟩ := h
  obtain rfl := Vals.ref1 r
  obtain rfl := Vals.ref1 rz
  obtain ⟨its, rv, hz, T, o, m, hT, ho, hc, hd⟩ : ∃ its : List Value, Vals xs its ∧ xs.length ≤ sizeLine ∧ ∃ (T : String) (o : Obj) (m : Nat), (T = "list" ∨ T = "tuple") ∧ s.heap.get? a = some o ∧ o.cls = .type T ∧ o.data = .seq its.toArray m := by
    rcases hS with hS | hS
    · obtain ⟨its, rv, p, hz⟩ := I.list hS
      obtain ⟨o, ho, hc, m, hd⟩ := p.isList
      exact ⟨its, rv, hz, "list", o, m, .inl rfl, ho, hc, hd⟩
    · obtain ⟨its, rv, ⟨o, ho, hc, m, hd⟩, hz⟩ := I.tuple hS
      exact ⟨its, rv, hz, "tuple", o, m, .inr rfl, ho, hc, hd⟩
  have hil : its.length = xs.length := rv.length.symm
  refine call_function_entry_kw kind_sorted plain_sorted entry_sorted (ksk_s1 _ _) ?_
  unfold Builtin.«sorted»
  refine wpAny_bind (m := checkCount "sorted" 1 1 _) (wpAny_pure ?_)
  refine wpAny_bind (wpAny_collect_seq a hT ho hc hd (fun h1 k1 => ?_) (by rw [List.size_toArray]; omega))
  refine wpAny_bind (wpAny_newList ?_ (by rw [List.toList_toArray]; omega))
  rw [List.toList_toArray]
  have I1 : Inv X pins σ H { s with heap := h1 } := I.kept (t' := s.toks) k1
  have fa : FpOk X pins H h1.objs.size := I1.fpOk (Nat.le_refl _) (I1.hok.fresh (Nat.le_refl _))
  have hoL : (h1.push (seqObj "list" its.toArray 0)).get? h1.objs.size = some (seqObj "list" its.toArray 0) := Heap.get?_push_size _ rfl
  show wpAny _ _ _ _ _ { s with heap := h1.push (seqObj "list" its.toArray 0) }
  refine wpAny_bind (wpAny_holding (wpAny_call_entry_kw slot_list_sort ⟨_, hoL, rfl⟩ entry_list_sort ?_ (ksk_l1 _ _)))
  show wpAny _ _ (ksk_tree h1.objs.size (.ref f) false) _ _ _
  unfold ksk_tree
  refine wpAny_bind (listItems_at hoL rfl ?_)
  refine wpAny_bind (listUpdate_at hoL rfl ?_ (by rw [List.size_toArray]; omega) (Nat.zero_le _))
  obtain ⟨e1, ho1⟩ : ∃ e1, ((h1.push (seqObj "list" its.toArray 0)).update h1.objs.size (Obj.mapSeq fun _ => #[])).get? h1.objs.size = some (seqObj "list" #[] e1) := ⟨_, get?_update_seq hoL (fun _ => #[])⟩
  refine wpAny_bind (seqEpoch_at ho1 rfl ?_)
  refine wpAny_bind (wpAny_newTuple ?_ (by rw [List.toList_toArray]; omega))
  refine wpAny_bind (wpAny_newList ?_ (Nat.zero_le _))
  refine wpAny_holding ?_
  have k2 : ∀ b o, h1.get? b = some o → ((h1.push (seqObj "list" its.toArray 0)).update h1.objs.size (Obj.mapSeq fun _ => #[])).get? b = some o := fun b o z => by
    rw [Heap.get?_update_ne _ _ _ _ (Nat.ne_of_lt (Heap.lt_size z))]
    exact Heap.get?_push_of_some _ z
  have z2 : ((h1.push (seqObj "list" its.toArray 0)).update h1.objs.size (Obj.mapSeq fun _ => #[])).objs.size = h1.objs.size + 1 := by
    rw [Heap.size_update, Heap.size_push]
  generalize (h1.push (seqObj "list" its.toArray 0)).update h1.objs.size (Obj.mapSeq fun _ => #[]) = h2 at ho1 k2 z2 ⊢
  have hkS : ((h2.push (seqObj "tuple" its.toArray 0)).push (seqObj "list" #[] 0)).get? (h2.objs.size + 1) = some (seqObj "list" #[] 0) := by
    rw [show h2.objs.size + 1 = (h2.push (seqObj "tuple" its.toArray 0)).objs.size by rw [Heap.size_push]]
    exact Heap.get?_push_size _ rfl
  have k3 : ∀ b o, h2.get? b = some o → ((h2.push (seqObj "tuple" its.toArray 0)).push (seqObj "list" #[] 0)).get? b = some o := fun b o z => Heap.get?_push_of_some _ (Heap.get?_push_of_some _ z)
  show wpAny (model X.prog X.w) X.A.in1.in1 (ksk_rest h1.objs.size (.ref f) false its.toArray e1 (.ref (h2.push (seqObj "tuple" its.toArray 0)).objs.size)) _ _ { s with heap := (h2.push (seqObj "tuple" its.toArray 0)).push (seqObj "list" #[] 0) }
  rw [Heap.size_push]
  generalize (h2.push (seqObj "tuple" its.toArray 0)).push (seqObj "list" #[] 0) = h3 at hkS k3 ⊢
  have fk : FpOk X pins H (h2.objs.size + 1) := I1.fpOk (show h1.objs.size ≤ h2.objs.size + 1 by omega) (I1.hok.fresh (show h1.objs.size ≤ h2.objs.size + 1 by omega))
  have I3 : Inv X pins σ H { s with heap := h3 } := I1.kept (t' := s.toks) fun b o z => k3 _ _ (k2 _ _ z)
  have hka : h2.objs.size + 1 ≠ h1.objs.size := by omega
  have I4 : Inv X (pins ++ [(h2.objs.size + 1, seqObj "list" #[] 0), (h1.objs.size, seqObj "list" #[] e1)]) σ H { s with heap := h3 } := by
    refine I3.pins_of fun p hp => ?_
    rcases List.mem_append.mp hp with hp | hp
    · exact I3.pin p (List.mem_append_right _ hp)
    · rcases List.mem_cons.mp hp with rfl | hp
      · exact ⟨hkS, fk.1, fk.2.1, fk.2.2.1, fun v z => nomatch z⟩
      · rw [List.mem_singleton.mp hp]
        exact ⟨k3 _ _ ho1, fa.1, fa.2.1, fa.2.2.1, fun v z => nomatch z⟩
  refine key_loop F rfl (show Room n X.A.in1.in1 from (show Room (n + 1) X.A.in1 from Room.in1 hr).in1) pass0 hl rv hz hsp hka fa fk I4 fun s' keys e I5 rk => ?_
  obtain ⟨ltk, O, hlt⟩ := kord_of (prog := X.prog) (w := X.w) hK rk
  obtain ⟨nk, _⟩ := I5.pin (h2.objs.size + 1, seqObj "list" keys.toArray e) (by simp)
  obtain ⟨na, _⟩ := I5.pin (h1.objs.size, seqObj "list" #[] e1) (by simp)
  refine key_end O (by rw [← rk.length]; omega) (by omega) hka nk na fun hm h' out o1 o2 m1 m2 m3 m4 => ⟨_, rfl, wpAny_pure ⟨_, rfl, ?_⟩⟩
  obtain ⟨n1, m2⟩ := m2
  obtain ⟨n2, m4⟩ := m4
  -- back to values
  obtain ⟨L, pL, eL⟩ := perm_lift (fun z : (V × V) × Keyed => z.2) o2 ((ks.zip xs).zip (keys.zip its)) (by rw [List.map_snd_zip]; simp only [List.length_zip]; have := rk.length; omega)
  have hrel : ∀ z ∈ L, RelV z.1.1 z.2.1 ∧ RelV z.1.2 z.2.2 ∧ ∃ i : Nat, ks[i]? = some z.1.1 := by
    intro z hz'
    obtain ⟨i, hi⟩ := List.mem_iff_getElem?.mp (pL.mem_iff.mp hz')
    obtain ⟨h1', h2'⟩ := List.getElem?_zip_eq_some.mp hi
    obtain ⟨a1, a2⟩ := List.getElem?_zip_eq_some.mp h1'
    obtain ⟨b1, b2⟩ := List.getElem?_zip_eq_some.mp h2'
    obtain ⟨u, c1, c2⟩ := rk.get a1
    rw [b1] at c1
    cases c1
    obtain ⟨u', d1, d2⟩ := rv.get a2
    rw [b2] at d1
    cases d1
    exact ⟨c2, d2, i, a1⟩
  have I6 : Inv X pins σ H s' := I5.unpinned
  have I7 : Inv X pins σ (upd H (h2.objs.size + 1) (.lst [])) { s' with heap := hm } := I6.take (h' := hm) (t' := s'.toks) (fun b o hb z => m1 b o hb z) fk ⟨Nat.zero_le _, [], n1, .nil, m2⟩
  have fa' : FpOk X pins (upd H (h2.objs.size + 1) (.lst [])) h1.objs.size := ⟨by rw [upd_ne hka.symm]; exact fa.1, fa.2⟩
  have rv' : Vals ((L.map (·.1)).map (·.2)) (out.map (·.2)) := by
    rw [← eL, List.map_map, List.map_map]
    clear eL pL o1 o2 m4
    induction L with
    | nil => exact .nil
    | cons z L ih => exact .cons (hrel z (by simp)).2.1 (ih fun y hy => hrel y (by simp [hy]))
  have hlen : ((L.map (·.1)).map (·.2)).length ≤ sizeLine := by
    rw [List.length_map, List.length_map, pL.length_eq, List.length_zip, List.length_zip]
    omega
  have I8 : Inv X pins σ (upd (upd H (h2.objs.size + 1) (.lst [])) h1.objs.size (.lst ((L.map (·.1)).map (·.2)))) { s' with heap := h' } :=
    I7.take (h' := h') (t' := s'.toks) (fun b o hb z => m3 b o hb z) fa' ⟨hlen, out.map (·.2), n2, rv', m4⟩
  refine ⟨.ref h1.objs.size, _, I8, rfl, q (L.map (·.1)) h1.objs.size _ ?_ ?_ fa.1 (fun b o z => ?_) upd_same⟩
  · have := pL.map (·.1)
    rwa [List.map_fst_zip (by simp only [List.length_zip]; have := rk.length; omega)] at this
  · rw [List.pairwise_map]
    have o1' := o1
    rw [← eL] at o1'
    have o3 := List.pairwise_map.mp o1'
    refine List.Pairwise.imp_of_mem (fun {x y} hx hy h => ?_) o3
    obtain ⟨x1, _, i, hi⟩ := hrel x hx
    obtain ⟨y1, _, j, hj⟩ := hrel y hy
    rw [← hlt j i _ _ _ _ hj hi y1 x1]
    exact h
  · rw [upd_ne (fun z' => by rw [z', fa.1] at z; cases z), upd_ne (fun z' => by rw [z', fk.1] at z; cases z)]
    exact z
end
end Fm
/-! enumerate of a tuple -/
namespace Fm
open PySem PySem.Spec PyProof.Rows L2
section
variable {prog : Program} {w : World} {A : Around} {E : Value → Shared → Prop} {s : Shared}
theorem nx_tup_item {it t : Addr} {i : Nat} {items : Array Value} {x : Value} {Q : Value → Shared → Prop} (hit : s.heap.IsTupleIter it t i) (ht : s.heap.IsTuple t items) (hx : items[i]? = some x)
    (hQ : ∀ h', h'.IsTupleIter it t (i + 1) → Heap.SameBut it s.heap h' → Q x { s with heap := h' }) : wpAny (model prog w) A (Builtin.SmallTypes.nextOf (.ref it)) Q E s := by
  obtain ⟨o, ho, hc, hd⟩ := id hit
  obtain ⟨ol, hol, _, nl, hdl⟩ := ht
  unfold Builtin.SmallTypes.nextOf
  refine wpAny_bind (wpAny_callSpecial?_slot (name := Str.ofString "__next__") hit.typeIs PySem.F.slot_tuple_iterator_next
    (wpAny_call_entry PySem.F.slot_tuple_iterator_next hit.typeIs PySem.F.entry_tuple_iterator_next ?_ (PySem.F.args_tuple_iterator_next_1 _)))
  show wpAny (model prog w) _ (field (.ref it) 0 >>= _) _ _ s
  refine wpAny_bind (wpAny_field ho hd (x := .ref t) rfl ?_)
  show wpAny (model prog w) _ (if (Value.ref t == Value.none) = true then _ else _) _ _ s
  rw [if_neg (show ¬ ((Value.ref t == Value.none) = true) from Bool.false_ne_true)]
  show wpAny (model prog w) _ (field (.ref it) 1 >>= _) _ _ s
  refine wpAny_bind (wpAny_field ho hd (x := .int i 0) rfl ?_)
  show wpAny (model prog w) _ (seqItems? (.ref t) >>= _) _ _ s
  refine wpAny_bind (wpAny_seqItems hol hdl ?_)
  simp only [Int.toNat_natCast, hx]
  refine wpAny_bind (wpAny_setField ho hd (by simp) (wpAny_pure ⟨x, rfl, wpAny_pure (hQ _ ?_ (Heap.SameBut.update ..))⟩))
  refine ⟨_, Heap.get?_update_self _ ho (Obj.isFreed_of_fields (Obj.data_mapFields hd _)), (Obj.cls_mapFields ..).trans hc, ?_⟩
  rw [Obj.data_mapFields hd]
  simp [rawInt]
theorem nx_tup_end {it t : Addr} {i : Nat} {items : Array Value} {Q : Value → Shared → Prop} (hh : A.handled = none) (hit : s.heap.IsTupleIter it t i) (ht : s.heap.IsTuple t items) (hx : items[i]? = none)
    (hE : ∀ h' e, Heap.ExtBut it s.heap h' → (∃ o, h'.get? e = some o ∧ o.cls = .type "StopIteration") → E (.ref e) { s with heap := h' }) : wpAny (model prog w) A (Builtin.SmallTypes.nextOf (.ref it)) Q E s := by
  obtain ⟨o, ho, hc, hd⟩ := id hit
  obtain ⟨ol, hol, _, nl, hdl⟩ := ht
  unfold Builtin.SmallTypes.nextOf
  refine wpAny_bind (wpAny_callSpecial?_slot (name := Str.ofString "__next__") hit.typeIs PySem.F.slot_tuple_iterator_next
    (wpAny_call_entry PySem.F.slot_tuple_iterator_next hit.typeIs PySem.F.entry_tuple_iterator_next ?_ (PySem.F.args_tuple_iterator_next_1 _)))
  show wpAny (model prog w) _ (field (.ref it) 0 >>= _) _ _ s
  refine wpAny_bind (wpAny_field ho hd (x := .ref t) rfl ?_)
  show wpAny (model prog w) _ (if (Value.ref t == Value.none) = true then _ else _) _ _ s
  rw [if_neg (show ¬ ((Value.ref t == Value.none) = true) from Bool.false_ne_true)]
  show wpAny (model prog w) _ (field (.ref it) 1 >>= _) _ _ s
  refine wpAny_bind (wpAny_field ho hd (x := .int i 0) rfl ?_)
  show wpAny (model prog w) _ (seqItems? (.ref t) >>= _) _ _ s
  refine wpAny_bind (wpAny_seqItems hol hdl ?_)
  simp only [Int.toNat_natCast, hx]
  refine wpAny_bind (wpAny_rule (wpAny_bind (wpAny_setField ho hd (by simp) ?_)))
  show wpAny (model prog w) _ (newExc (.type "StopIteration") [] >>= _) _ _ _
  refine wpAny_bind ?_
  simp only [newExc, newTuple]
  refine wpAny_bind (wpAny_newObj_type ?_ (by size_fits))
  refine wpAny_bind (m := firstArgMember _ _) (wpAny_of_eq (a := Value.none) (by first | rfl | (simp only [firstArgMember]; rfl)) ?_)
  refine wpAny_newObj_type ?_ (by size_fits)
  simp only [raiseNew]
  refine wpAny_bind (wpAny_handled ?_)
  first | rw [show A.in1.handled = none from hh] | rw [hh]
  refine wpAny_bind (wpAny_pure (wpAny_throw ?_))
  exact hE _ _ (((Heap.SameBut.update ..).extBut.push _).push _) ⟨_, Heap.get?_push_size _ rfl, rfl⟩
end
theorem draws_tup {prog : Program} {w : World} {A : Around} (hh : A.handled = none) (it t : Addr) (hne : t ≠ it) (items : Array Value) :
    Draws prog w A it [it, t] items.size (fun i v => items[i]? = some v) (fun i h => h.IsTupleIter it t i ∧ h.IsTuple t items) where
  live := fun _ _ st => let ⟨o, ho, _⟩ := st.1; ⟨o, ho⟩
  frame := fun _ _ _ st hk => ⟨st.1.at fun o e => hk it (by simp) o e, let ⟨o, ho, r⟩ := st.2; ⟨o, hk t (by simp) o ho, r⟩⟩
  item := fun i s Q E hi st hQ => by
    refine nx_tup_item st.1 st.2 (x := items[i]) (by simp [hi]) fun h' hit' hs' => ?_
    exact hQ _ h' s.toks (by simp [hi]) ⟨hit', let ⟨o, ho, r⟩ := st.2; ⟨o, (hs'.2 t hne).trans ho, r⟩⟩ hs'
  done := fun s Q E st hE => nx_tup_end hh st.1 st.2 (by simp) hE
theorem enum_newT (l : Addr) (items : Array Value) (n : Nat) (dct : Option Addr) (sl : Array (Option Value)) :
    Meets (Builtin.«enumerate.__new__» ⟨[.type "enumerate", .ref l], []⟩) (fun _ R s => s.heap.get? l = some { cls := .type "tuple", dict := dct, data := .seq items n, slots := sl } ∧
      R (.ok (.ret (.ref (s.heap.push { cls := .type "tuple_iterator", data := .fields #[.ref l, .int 0 0] }).objs.size)))
        { s with heap := (s.heap.push { cls := .type "tuple_iterator", data := .fields #[.ref l, .int 0 0] }).push { cls := .type "enumerate", data := .fields #[.none, .bool false, .ref s.heap.objs.size, rawInt 0, .none, .none] } }) :=
  .of_wp fun prog w A R s h => by
    obtain ⟨hp, g, d, tk, os⟩ := s
    obtain ⟨hl, h⟩ := h
    have hsub := sub_enumerate
    have hL : Heap.IsTuple (Shared.heap ⟨hp, g, d, tk, os⟩) l items := ⟨_, hl, rfl, n, rfl⟩
    wp_walk using AutoSeq1.wpAny_loadPart' hl
    refine wpAny_stack_any fun st => wpAny_pure ?_
    split
    · rename_i c _ _ _ _ _
      cases (c == Value.type "enumerate")
      · wp_walk using AutoSeq1.wpAny_loadPart' hl, wpAny_pyIter_tuple hL
        exact ⟨_, rfl, h⟩
      · wp_walk using AutoSeq1.wpAny_loadPart' hl, wpAny_pyIter_tuple hL
        exact ⟨_, rfl, h⟩
    · wp_walk using AutoSeq1.wpAny_loadPart' hl, wpAny_pyIter_tuple hL
      exact ⟨_, rfl, h⟩
theorem call_enumT {prog : Program} {w : World} {A : Around} {E : Value → Shared → Prop} {s : Shared} {l : Addr} {items : Array Value} {Q : Value → Shared → Prop} (hL : s.heap.IsTuple l items)
    (h : ∀ h', IsEnum h' (s.heap.objs.size + 1) s.heap.objs.size 0 .none → h'.IsTupleIter s.heap.objs.size l 0 → h'.objs.size = s.heap.objs.size + 2 →
      (∀ b o, s.heap.get? b = some o → h'.get? b = some o) → Q (.ref (s.heap.objs.size + 1)) { s with heap := h' }) :
    wpAny (model prog w) A (call (.type "enumerate") [.ref l]) Q E s := by
  obtain ⟨⟨c, dct, dt, sl⟩, hl, hc, n, hd⟩ := hL
  simp only at hc hd
  subst hc hd
  refine callType_new PySem.F.called_enumerate (by decide) (PySem.F.typeCall_enumerate_1 _) (PySem.F.newCall_enumerate_1 _) (fun obj => PySem.F.args_object_init_2 obj _) PySem.F.entry_enumerate_new (enum_newT l items n dct sl) ⟨hl, ?_⟩
  have hz : (s.heap.push { cls := .type "tuple_iterator", data := .fields #[.ref l, .int 0 0] }).objs.size = s.heap.objs.size + 1 := Heap.size_push ..
  show _ ∧ _
  rw [hz]
  have he : IsEnum ((s.heap.push { cls := .type "tuple_iterator", data := .fields #[.ref l, .int 0 0] }).push { cls := .type "enumerate", data := .fields #[.none, .bool false, .ref s.heap.objs.size, rawInt 0, .none, .none] }) (s.heap.objs.size + 1) s.heap.objs.size 0 .none := by
    have := Heap.get?_push_size (s.heap.push { cls := .type "tuple_iterator", data := .fields #[.ref l, .int 0 0] })
      (o := { cls := .type "enumerate", data := .fields #[.none, .bool false, .ref s.heap.objs.size, rawInt 0, .none, .none] }) rfl
    rw [hz] at this
    exact this
  refine ⟨⟨_, he, rfl⟩, h _ he ⟨_, Heap.get?_push_of_some _ (Heap.get?_push_size _ rfl), rfl, rfl⟩ (by rw [Heap.size_push, hz]) fun b o x => Heap.get?_push_of_some _ (Heap.get?_push_of_some _ x)⟩
theorem enum_endT {prog : Program} {w : World} {A : Around} {E : Value → Shared → Prop} {s : Shared} {e it l : Addr} {i : Nat} {items : Array Value} {old : Value} {Q : Option Value → Shared → Prop} (hh : A.handled = none)
    (he : IsEnum s.heap e it i old) (hit : s.heap.IsTupleIter it l i) (hl : s.heap.IsTuple l items) (hx : items[i]? = none) (hQ : ∀ h', Heap.ExtBut it s.heap h' → Q none { s with heap := h' }) : wpAny (model prog w) A (pyNext (.ref e)) Q E s := by
  have hT : s.TypeIs (.ref e) "enumerate" := ⟨_, he, rfl⟩
  unfold pyNext
  refine wpAny_bind (wpAny_attempt (wpAny_callSpecial?_slot (name := Str.ofString "__next__") hT PySem.F.slot_enumerate_next
    (wpAny_call_entry PySem.F.slot_enumerate_next hT PySem.F.entry_enumerate_next ?_ (PySem.F.args_enumerate_next_1 _))))
  show wpAny (model prog w) _ (field (.ref e) 2 >>= _) _ _ _
  refine wpAny_bind (wpAny_field he rfl (x := .ref it) rfl ?_)
  refine wpAny_bind (nx_tup_end hh hit hl hx fun h' x he' hx' => ?_)
  obtain ⟨o, ho, hc⟩ := hx'
  refine wpAny_bind (wpAny_isInstance (T := "StopIteration") (b := true) ⟨o, ho, hc⟩ isSubtype_stop ?_)
  exact wpAny_pure (hQ _ he')
/-- the tuple at a, its items in new pairs -/
def IteT (K : PySem.W.Frag) (a : Addr) : It :=
  ⟨fun i H => ∃ (xs : List V) (x : V), SqT K H a xs ∧ xs[i]? = some x, fun i H v H' => ∃ T x, v = .ref T ∧ H T = none ∧ H' = upd H T (.tup [.int (i : Nat), x]) ∧ ∀ xs, SqT K H a xs → xs[i]? = some x, fun i H => ∃ xs : List V, SqT K H a xs ∧ xs.length ≤ i⟩
theorem turn_enumT {P : Program} {w : World} {K : PySem.W.Frag} {elts : List Expr} {kk : Nat} {tpos : Pos} (a e it : Addr) (hai : a ≠ it) (hae : a ≠ e) :
    Turn P w K (.Tuple elts kk tpos) (IteT K a) [e, it] e (fun i h => (∃ old, IsEnum h e it ((i : Nat) : Int) old) ∧ h.IsTupleIter it a i ∧ e ≠ it) where
  mem := by simp
  obj := fun i h st b hb => by
    obtain ⟨⟨old, he⟩, ⟨o, ho, hc, hd⟩, _⟩ := st
    have e' : b = e ∨ b = it := by simpa using hb
    rcases e' with z | z
    · rw [z]; exact ⟨_, he, fun v q => nomatch q⟩
    · rw [z]; exact ⟨o, ho, fun v q => by rw [hd] at q; cases q⟩
  keep := fun i h h' st k => let ⟨⟨old, he⟩, hi, hne⟩ := st; ⟨⟨old, k e (by simp) _ he⟩, hi.at fun o q => k it (by simp) o q, hne⟩
  item := by
    intro X hP hw hK hc i pins s σ H E I hf st hg
    subst hP hw hK
    obtain ⟨⟨old, he⟩, hit, hne⟩ := st
    obtain ⟨xs, x, hq, hx⟩ := hg
    obtain ⟨its, rv, p, hz⟩ := I.tuple hq
    obtain ⟨u, hu, ru⟩ := rv.get hx
    have hT0 : s.heap.IsTuple a its.toArray := p
    have hel : e < s.heap.objs.size := Heap.lt_size he
    have hil : it < s.heap.objs.size := by obtain ⟨_, q, _⟩ := hit; exact Heap.lt_size q
    have hiz : i < its.toArray.size := by
      rw [List.size_toArray]
      exact (List.getElem?_eq_some_iff.mp hu).1
    refine wpAny_pyNext_enum_itemD (draws_tup (show X.A.in1.handled = none from I.ok.hd hc) it a hai its.toArray) he ⟨hit, hT0⟩ hiz hne (by simp [hne, hae.symm]) fun x' h' tk hP' ho hst' hT hsz hk => ?_
    have ex : x' = u := by
      have : its.toArray[i]? = some x' := hP'
      rw [List.getElem?_toArray, hu] at this
      exact (Option.some.inj this).symm
    subst ex
    refine ⟨_, rfl, wpAny_letOwnedTupleGo_enum (s := { s with heap := h', toks := tk + 1 }) ho fun h'' he' sb => ?_⟩
    have hT2 : h''.get? s.heap.objs.size = some { cls := .type "tuple", data := .seq #[.int i tk, x'] } := (sb.2 _ (Nat.ne_of_gt hel)).trans hT
    have new : ObjOk X.prog X.w (upd H s.heap.objs.size (.tup [.int (i : Nat), x])) h'' s.heap.objs.size (.tup [.int (i : Nat), x]) :=
      ⟨by show 2 ≤ sizeLine; decide, [.int i tk, x'], .cons ⟨_, rfl⟩ (.cons ru .nil), ⟨_, hT2, rfl, _, rfl⟩⟩
    have I1 : Inv X pins σ (upd H s.heap.objs.size (.tup [.int (i : Nat), x])) { s with heap := h'', toks := tk + 1 } :=
      I.turnedNew (ch := [e, it]) (fun b ob hb q => (sb.2 b (fun z => hb (by simp [z]))).trans (hk b ob (fun z => hb (by simp [z])) (fun z => hb (by simp [z])) q)) hf (Nat.le_refl _) new
    refine ⟨.ref s.heap.objs.size, _, I1, rfl, ⟨_, x, rfl, I.hok.fresh (Nat.le_refl _), rfl, fun ys hy => by rw [I.tuple_inj hy hq]; exact hx⟩, ⟨⟨x', ?_⟩, hst'.1.at fun o q => (sb.2 it (Ne.symm hne)).trans q, hne⟩, fun b hb => ?_⟩
    · have e1 : ((i + 1 : Nat) : Int) = (i : Int) + 1 := by omega
      rw [e1]
      exact he'
    · have hb' : b < s.heap.objs.size := by
        have e' : b = e ∨ b = it := by simpa using hb
        rcases e' with z | z
        · rw [z]; exact hel
        · rw [z]; exact hil
      rw [upd_ne (Nat.ne_of_lt hb')]
      exact (hf b hb).1
  done := by
    intro X hP hw hK hc i pins s σ H E I hf st hg
    subst hP hw hK
    obtain ⟨⟨old, he⟩, hit, hne⟩ := st
    obtain ⟨xs, hq, hx⟩ := hg
    obtain ⟨its, rv, p, hz⟩ := I.tuple hq
    obtain ⟨f0, f1, f2, f3, f4, f5⟩ := hf it (by simp)
    have hl := rv.length
    have hT0 : s.heap.IsTuple a its.toArray := p
    exact enum_endT (I.ok.hd hc) he hit hT0 (by simp; omega) fun h' eb => ⟨rfl, I.turned (t' := s.toks) (fun b o hb q => eb b o hb q) f0 f1 f3 f4 f5⟩
  self := fun A i s Q E st h => let ⟨⟨_, he⟩, _⟩ := st; wpAny_pyIter_enum he h
def iEnumG (K : PySem.W.Frag) (ta : TA) : TI := fun σ H R => ta σ H fun vs H1 => ∃ a xs, vs = [.ref a] ∧ ((SqL K H1 a xs ∧ R (Ite K a) H1) ∨ (SqT K H1 a xs ∧ R (IteT K a) H1))
theorem bt_enumerate : bootBuiltins "enumerate" = some (.type "enumerate") := by decide +kernel
theorem pi_enumG {X : Cx} {e : Expr} {ta : TA} {p pos tpos : Pos} {elts : List Expr} {kk : Nat} (hg : Gl X "enumerate") (hm : X.mg "enumerate" = none) (ha : PA X [e] ta) (hs : starEach [e] X.env = [(false, eval e X.env)] := by rfl) :
    PI X (.Tuple elts kk tpos) (.Call (.Name "enumerate" p) [e] [] pos) (iEnumG X.K ta) := by
  refine ⟨fun pins s σ H R I h => ?_⟩
  refine Call_ (ld_blt I hg hm bt_enumerate (PyProof.Rows.callWith_type1 (thn (ha.run pos pins s σ H _ I h) fun us s1 ⟨vs, H1, I1, r1, q1⟩ => ?_) hs rfl))
  obtain ⟨a, xs, rfl, q⟩ := q1
  obtain rfl := Vals.ref1 r1
  have fp : ∀ b ∈ [s1.heap.objs.size + 1, s1.heap.objs.size], FpOk X pins H1 b := fun b hb => by
    have hle : s1.heap.objs.size ≤ b := by
      rcases (show b = s1.heap.objs.size + 1 ∨ b = s1.heap.objs.size by simpa using hb) with z | z <;> omega
    exact I1.fpOk hle (I1.hok.fresh hle)
  rcases q with ⟨hq, q⟩ | ⟨hq, q⟩
  · obtain ⟨its, rv, p', hz⟩ := I1.list hq
    refine call_enumerate_list p'.isList fun h' he hit hsz hk => wpAny_pyIter_enum he ?_
    have I2 : Inv X pins σ H1 { s1 with heap := h' } := I1.kept (t' := s1.toks) hk
    exact ⟨s1.heap.objs.size + 1, [s1.heap.objs.size + 1, s1.heap.objs.size], _, _, H1, rfl, I2, turn_enum a (s1.heap.objs.size + 1) s1.heap.objs.size, ⟨⟨.none, he⟩, hit, Nat.succ_ne_self _⟩, fp, q⟩
  · obtain ⟨its, rv, p', hz⟩ := I1.tuple hq
    have hT0 : s1.heap.IsTuple a its.toArray := p'
    have hal : a < s1.heap.objs.size := by
      obtain ⟨o, ho, _⟩ := hT0
      exact Heap.lt_size ho
    refine call_enumT hT0 fun h' he hit hsz hk => wpAny_pyIter_enum he ?_
    have I2 : Inv X pins σ H1 { s1 with heap := h' } := I1.kept (t' := s1.toks) hk
    exact ⟨s1.heap.objs.size + 1, [s1.heap.objs.size + 1, s1.heap.objs.size], _, _, H1, rfl, I2, turn_enumT a (s1.heap.objs.size + 1) s1.heap.objs.size (Nat.ne_of_lt hal) (Nat.ne_of_lt (Nat.lt_succ_of_lt hal)), ⟨⟨.none, he⟩, hit, Nat.succ_ne_self _⟩, fp, q⟩
/-- a loop over enumerate of a list or tuple that stays -/
theorem for_enumG {K : PySem.W.Frag} {a : Addr} {xs : List V} {g : TG} {tb : TS} {D : Ends} {σ : L2.St} {H : Hp} {R : Prop} (hS : SqL K H a xs ∨ SqT K H a xs) (Pv : Nat → L2.St → Hp → Prop) (h0 : Pv 0 σ H) (hk : ∀ i σ' H', Pv i σ' H' → Mv [] H H')
    (hs : ∀ i x T σ' H', xs[i]? = some x → Pv i σ' H' → H' T = none → g (.ref T) σ' (upd H' T (.tup [.int (i : Nat), x])) fun σ2 H2 => tb { D with nx := Pv (i + 1), ct := Pv (i + 1), bk := D.nx } σ2 H2) (hd : ∀ σ' H', Pv xs.length σ' H' → D.nx σ' H') :
    (SqL K H a xs ∧ ∃ W : Nat → Nat → L2.St → Hp → Prop, (∃ m, W 0 m σ H) ∧ ∀ i m σ H, W i m σ H →
      ((Ite K a).stop i H ∧ D.nx σ H) ∨ ((Ite K a).go i H ∧ ∃ N : L2.St → Hp → Prop, (∀ σ' H', N σ' H' → ∃ m', m' < m ∧ W (i + 1) m' σ' H') ∧ ∀ x H', (Ite K a).yld i H x H' → g x σ H' fun σ2 H2 => tb { D with nx := N, ct := N, bk := D.nx } σ2 H2)) ∨
    (SqT K H a xs ∧ ∃ W : Nat → Nat → L2.St → Hp → Prop, (∃ m, W 0 m σ H) ∧ ∀ i m σ H, W i m σ H →
      ((IteT K a).stop i H ∧ D.nx σ H) ∨ ((IteT K a).go i H ∧ ∃ N : L2.St → Hp → Prop, (∀ σ' H', N σ' H' → ∃ m', m' < m ∧ W (i + 1) m' σ' H') ∧ ∀ x H', (IteT K a).yld i H x H' → g x σ H' fun σ2 H2 => tb { D with nx := N, ct := N, bk := D.nx } σ2 H2)) := by
  rcases hS with hS | hS
  · refine .inl ⟨hS, fun i m σ H => m = xs.length - i ∧ i ≤ xs.length ∧ Pv i σ H, ⟨xs.length, by simp, Nat.zero_le _, h0⟩, ?_⟩
    rintro i m σ H ⟨rfl, hi, p⟩
    have q := (hk i σ H p).same.seq hS
    by_cases hlt : i < xs.length
    · refine .inr ⟨⟨xs, xs[i], q, by simp [hlt]⟩, Pv (i + 1), fun σ' H' p' => ⟨xs.length - (i + 1), by omega, rfl, hlt, p'⟩, fun x H' y => ?_⟩
      obtain ⟨T, x', rfl, hT, rfl, y⟩ := y
      exact hs i x' T σ _ (y xs q) p hT
    · have e : i = xs.length := by omega
      subst e
      exact .inl ⟨⟨xs, q, Nat.le_refl _⟩, hd σ H p⟩
  · refine .inr ⟨hS, fun i m σ H => m = xs.length - i ∧ i ≤ xs.length ∧ Pv i σ H, ⟨xs.length, by simp, Nat.zero_le _, h0⟩, ?_⟩
    rintro i m σ H ⟨rfl, hi, p⟩
    have q := (hk i σ H p).sqT hS
    by_cases hlt : i < xs.length
    · refine .inr ⟨⟨xs, xs[i], q, by simp [hlt]⟩, Pv (i + 1), fun σ' H' p' => ⟨xs.length - (i + 1), by omega, rfl, hlt, p'⟩, fun x H' y => ?_⟩
      obtain ⟨T, x', rfl, hT, rfl, y⟩ := y
      exact hs i x' T σ _ (y xs q) p hT
    · have e : i = xs.length := by omega
      subst e
      exact .inl ⟨⟨xs, q, Nat.le_refl _⟩, hd σ H p⟩
end Fm
namespace Fm
open PySem PySem.Spec PyProof.Rows L2 SlX
section
variable {X : Cx}
/-- dict(d) -/
def rDictD : List V → Hp → VK → Prop := fun xs H Q => ∃ (a : Addr) (kvs : List (L2.Key × V)), xs = [.ref a] ∧ H a = some (.dK kvs) ∧ ∀ p, H p = none → Q (.ref p) (upd H p (.dK kvs))
theorem call_dictD : CallR X (.type "dict") rDictD := by
  intro pins s σ H xs us Q I r h
  obtain ⟨a, kvs, rfl, ha, q⟩ := h
  obtain rfl := Vals.ref1 r
  obtain ⟨z, hd, vs, kv, hD⟩ := dk_of I.hok ha
  refine PySem.kt_call_dict hd hD (by rw [← kv.length]; exact z) fun h' hm hs => ?_
  have hk : ∀ b o, s.heap.get? b = some o → h'.get? b = some o := fun b o e => (hs.2 b (Nat.ne_of_lt (Heap.lt_size e))).trans (Heap.get?_push_of_some _ e)
  have hm' : (s.heap.objs.size == sysModules) = false := beq_eq_false_iff_ne.mpr (Nat.ne_of_gt I.big)
  exact ⟨.ref s.heap.objs.size, _, I.laid (t' := s.toks) hk (Nat.le_refl _) (show ObjOk X.prog X.w _ _ _ (.dK kvs) from ⟨z, hm', vs, kv, hm⟩), rfl, q _ (I.hok.fresh (Nat.le_refl _))⟩
/-- len(set(x)), x a list or tuple of ints -/
def tLenSetG (K : PySem.W.Frag) (ta : TE) : TE := fun σ H Q => ta σ H fun x H1 => ∃ (l : Addr) (ns : List Int), x = .ref l ∧ (SqL K H1 l (ns.map V.int) ∨ SqT K H1 l (ns.map V.int)) ∧ ns.length ≤ 4000 ∧
  ∀ ks : List Int, ks.Nodup → (∀ k, k ∈ ks ↔ k ∈ ns) → Q (.int ks.length) H1
theorem pe_lenSetG {a : Expr} {ta : TE} {p p2 q pos : Pos} (hc : X.calm = true) (hg : Gl X "len") (hm : X.mg "len" = none) (hg2 : Gl X "set") (hm2 : X.mg "set" = none) (ha : PE X a ta)
    (na : starEach [a] X.env = (false, eval a X.env) :: starEach [] X.env := by rfl) : PE X (.Call (.Name "len" p) [.Call (.Name "set" p2) [a] [] q] [] pos) (tLenSetG X.K ta) := by
  refine ⟨fun pins s σ H Q I h => ?_⟩
  refine Call_ (ld_blt I hg hm PySem.boot_len ?_)
  refine PyProof.Rows.callWith_builtin1 (PyProof.Rows.args_cons ?_ rfl) rfl rfl
  refine Call_ (ld_blt I hg2 hm2 PyProof.Rows.boot_set ?_)
  refine PyProof.Rows.callWith_type1 (PyProof.Rows.args_cons (thn (ha.run pins s σ H _ I h) fun v s1 ⟨x, H1, I1, r1, q1⟩ => PyProof.Rows.args_nil ?_) na) na rfl
  obtain ⟨l, ns, rfl, hq, hl, q1⟩ := q1
  cases r1
  have hb : ns.length + 1 < scanBound := Nat.lt_of_le_of_lt (Nat.succ_le_succ hl) (by decide)
  have fin : ∀ (h' : Heap) (tk c : Nat), SetR X.w h' s1.heap.objs.size (fun j => decide (j ∈ ns)) c → (∀ b o, s1.heap.get? b = some o → h'.get? b = some o) →
      wpAny (model X.prog X.w) X.A (call (.builtin "len") [.ref s1.heap.objs.size]) (EP X pins σ Q) X.xe { s1 with heap := h', toks := tk } := by
    intro h' tk c R hk
    have I2 : Inv X pins σ H1 { s1 with heap := h', toks := tk } := I1.kept hk
    obtain ⟨o, es, ep, t, ho, hex, hd, h4, h5, h6, h7, h8, h9, h10⟩ := id R
    have hle : (es.toList.map keyOf).length = es.size := by rw [List.length_map, Array.length_toList]
    have hbd : (es.size : Int) < 2 ^ 63 := by
      have : scanBound < 2 ^ 62 := by decide
      omega
    refine PySem.call_len_set ho hex hd h8 hbd ⟨.int es.size, H1, I2.tok _, ⟨_, rfl⟩, ?_⟩
    have := q1 (es.toList.map keyOf) h5 fun k => by rw [← h6 k]; simp
    rw [hle] at this
    exact this
  rcases hq with hq | hq
  · obtain ⟨its, r, pl, hz⟩ := I1.list hq
    refine set_of_list ns (I1.ok.hd hc) pl.isList (by simpa using r.ints) hb fun h' tk c R hk => ?_
    exact PyProof.Rows.args_nil (fin h' tk c R hk)
  · obtain ⟨its, r, pl, hz⟩ := I1.tuple hq
    refine call_set_tupI ns (I1.ok.hd hc) (show s1.heap.IsTuple l its.toArray from pl) (by simpa using r.ints) hb fun h' tk c R _ hk => ?_
    exact PyProof.Rows.args_nil (fin h' tk c R hk)
/-- o.f = value as a target -/
def gSl (K : PySem.W.Frag) (to : TE) (f : Str) : TG := fun y σ H Q => to σ H fun x H2 => ∃ a C dx p vs i, x = .ref a ∧ Slt H2 a C dx vs ∧ SCls K C ∧ Slot1 K C f p i ∧ Q σ (slH H2 a C dx (putS i y vs))
theorem pg_sl {o : Expr} {to : TE} {f : Str} {pos : Pos} (ho : PE X o to) (ha : ∀ v, assign (.Attribute o f pos) X.env v = (do
      let ov ← holding [v] (eval o X.env)
      standAt pos.atName
      holding [v, ov] (setAttr ov f v)
      release [v, ov] []) := by intro _; rfl) : PG X (.Attribute o f pos) (gSl X.K to f) := by
  refine ⟨fun pins s σ H v u Q I r h => ?_⟩
  rw [ha]
  refine wpAny_bind (wpAny_holding (thn (ho.run pins s σ H _ I h) fun ov s1 ⟨x, H1, I1, r1, a, C, dx, p, vs, i, ex, hs, hc, ht, q1⟩ => ?_))
  subst ex
  obtain rfl : ov = Value.ref a := r1
  refine wpAny_bind (wpAny_standAt (wpAny_bind (wpAny_holding (setslot_ok I1 hs hc ht r fun s2 I2 => ?_))))
  exact wpAny_release ⟨σ, _, I2, q1⟩
end
theorem bt_ValueError : bootBuiltins "ValueError" = some (.type "ValueError") := by decide +kernel
theorem bt_min : bootBuiltins "min" = some (.builtin "min") := by decide +kernel
theorem fnR_of {P : Program} {w : World} {K : PySem.W.Frag} {mg : Str → Option Value} {base : Heap} {CX : CXT} {k : Nat} {f : Addr} {fd : FuncData} {ps : List Str} {sp : Sp} (F : FnOk P w K mg base CX k f fd ps sp) (b : Binds K fd ps []) : FnR P w K mg base CX k f sp := by
  intro A outer s H us vs Q E hr e0 r h
  have hl : us.length = ps.length := by rw [← r.length]; exact F.len _ _ _ _ h
  have kin : K.In s.heap := e0.mod.kin.keeps fun b o e => (e0.bs b o e).1
  have b' := b s us kin (by rw [List.append_nil]; exact hl)
  rw [List.append_nil] at b'
  exact F.run A outer s H ⟨us, []⟩ us vs Q E hr e0 b' r h
section
variable {X : Cx} {CX : CXT} {k : Nat} {C g : Addr} {fd : FuncData} {ps : List Str} {sp : Sp} {E : L2.St → XK} {m : Str} {pos apos : Pos} {e o : Expr} {es : List Expr} {ta : TE} {t : TA}
/-- o.m(..) where what is raised is wished for at the slots -/
def tMethSlS (C : Addr) (sp : Sp) (E : L2.St → XK) (ta : TE) (t : TA) : TE := fun σ H Q => ta σ H fun x H1 => ∃ a dx vs, x = .ref a ∧ Slt H1 a C dx vs ∧ t σ H1 fun ws H2 => sp (x :: ws) H2 Q (E σ)
theorem pe_methSlS {pl : Sem Bool} (he : PE X o ta) (c : SCls X.K C) (hm : Meth X.K C m g) (F : FnOk X.prog X.w X.K X.mg X.base CX k g fd ps sp) (hr : Room k X.A) (hb : Binds X.K fd ps []) (hx : ∀ σ, PassesAt CX X σ (E σ)) (ha : PA X (e :: es) t)
    (hst : starEach (e :: es) X.env = (false, eval e X.env) :: starEach es X.env := by rfl) (hpl : (backTo pos (starEach es X.env)).any (·.1) = false := by rfl)
    (ht : eval (.Call (.Attribute o m apos) (e :: es) [] pos) X.env = (do
      let ov ← eval o X.env
      standAt apos.atName
      let (f, first) ← holding [ov] (getMethod ov m pl)
      callWith pos f first (backTo pos (starEach (e :: es) X.env)) (backToKw pos (keywordEach [] X.env))) := by rfl) :
    PE X (.Call (.Attribute o m apos) (e :: es) [] pos) (tMethSlS C sp E ta t) := by
  refine ⟨fun pins s σ H Q I h => ?_⟩
  refine PySem.W.methodCall_KW (pl := pl) (thn (he.run pins s σ H _ I h) fun u s1 ⟨x, H1, I1, rx, a, dx, vs, ex, hsl, q⟩ => ?_) ht
  subst ex
  obtain rfl : u = Value.ref a := rx
  refine getmethsl_ok I1 hsl c hm ?_
  refine PySem.W.callWith_K (first := [.ref a]) (h₀ := X.base) I.ok.mod.kin hm.kp (thn (ha.run pos pins s1 σ H1 _ I1 q) fun us s2 ⟨ws, H2, I2, r, q2⟩ => ⟨I2.kIn, ?_⟩) hst hpl
  exact run_fnS (us := .ref a :: us) (vs := .ref a :: ws) F hr hb (hx σ) I2 (.cons rfl r) q2
end
section
variable {X : Cx}
/-- sorted: a dict's text keys, texts, ints -/
def rSortDk : List V → Hp → VK → Prop := fun xs H Q => ∃ (a : Addr) (kvs : List (L2.Key × V)) (ks : List Str), xs = [.ref a] ∧ Rd H a (.dK kvs) ∧ kvs.map (·.1) = ks.map Sum.inr ∧ ks.length < 64 ∧ ∀ ys p, ys.Perm ks → sortedS ys = true → H p = none → Q (.ref p) (upd H p (.lst (ys.map V.str)))
def rSortA (K : PySem.W.Frag) : List V → Hp → VK → Prop := fun xs H Q => rSortDk xs H Q ∨ (rSortedS K xs H Q ∨ rSorted K xs H Q)
theorem cr_sortA (hc : X.calm = true) : CallR X (.builtin "sorted") (rSortA X.K) := CallR.or (call_sortedD hc) (CallR.or cr_sortedS cr_sorted)
def rDictP (K : PySem.W.Frag) : List V → Hp → VK → Prop := fun xs H Q => ∃ (a : Addr) (ps : List Addr) (kvs : List (L2.Key × V)), xs = [.ref a] ∧ SqL K H a (ps.map V.ref) ∧ Paired (fun p kv => SqT K H p [kV kv.1, kv.2]) ps kvs ∧ ∀ p, H p = none → Q (.ref p) (upd H p (.dK (mergeK [] kvs)))
def rDictG (K : PySem.W.Frag) : List V → Hp → VK → Prop := fun xs H Q => rDictP K xs H Q ∨ rDictD xs H Q
theorem call_dictG (hc : X.calm = true) : CallR X (.type "dict") (rDictG X.K) := CallR.or (call_dictP hc) call_dictD
def rListG (K : PySem.W.Frag) : List V → Hp → VK → Prop := fun xs H Q => rListOf K xs H Q ∨ rListD xs H Q
theorem call_listA (hc : X.calm = true) : CallR X (.type "list") (rListG X.K) := CallR.or call_listG (call_list_dK hc)
end
theorem kitOne_self {K : PySem.W.Frag} (C : Addr) : PySem.W.kitOne K (.ref C) (.ref C) = some true := by
  unfold PySem.W.kitOne
  rw [if_pos (by simp)]
end Fm
namespace Fm
open PySem PySem.Spec PyProof.Rows L2
/-! the end: a law whose def asks for reprs -/
section
variable {P : Program} {w : World} {K : PySem.W.Frag} {mg mb : Str → Option Value} {k : Nat} {fa a : Addr} {fd : FuncData} {x : Str} {sp : Sp} {s : Shared} {vs : List Value} {ns : List Int}
/-- from a heap that knows nothing but, perhaps, the script -/
theorem from_heap (KX : K.In s.heap) (hg0 : s.heap.Ns mainGlobals mg) (hb : s.heap.Ns builtinsNs mb) (hbb : ∀ y : Str, y ≠ "__name__" → mb y = bootBuiltins y) (hlim : s.heap.NoLimit) (hg : s.gens = #[])
    (ha : s.heap.get? a = some { cls := .type "list", data := .seq vs.toArray }) (hr : Room k callerA) (F : ∀ base : Heap, K.In base → base.Ns mainGlobals mg → FnOkG P w K mg base CX0 k fa fd [x] sp)
    (hbind : ∀ (t : Shared) (u : Value), BindsTo t fd ⟨[u], []⟩ [(x, u)]) (H : Hp) (hO : Only H) (hok : HOk P w H s.heap) (hA : ∀ b, H b ≠ none → b = a) (hK : H a ≠ none → K.lookup a = none)
    (hsp : sp [.ref a] H (fun v _ => v = .bl true) fun _ _ _ => False) :
    codeAny (model P w) callerA (.call (.ref fa) ⟨[.ref a], []⟩) (fun r t => r = .ok (.ret (.bool true)) ∧ OldK s.heap t.heap ∧ t.os = s.os ∧ AllBare t.gens) s := by
  have free : ∀ {b : Addr} {o : Obj} {es : Array DictEntry} {ep : Nat}, s.heap.get? b = some o → o.data = .dict es ep → H b = none := by
    intro b o es ep e d
    cases q : H b with
    | none => rfl
    | some u =>
      have z := hA b (by rw [q]; exact Option.some_ne_none u)
      rw [z, ha] at e
      cases e
      exact nomatch d
  have ns : ∀ {b : Addr} {m : Str → Option Value}, s.heap.Ns b m → (hidT s.heap H).Ns b m := by
    rintro b m ⟨o, es, ep, e, d, r⟩
    exact ⟨o, es, ep, hidT_get e (free e d), d, r⟩
  have kin : K.In (hidT s.heap H) := by
    intro b o e
    refine hidT_get (KX b o e) ?_
    cases q : H b with
    | none => rfl
    | some u =>
      have z := hA b (by rw [q]; exact Option.some_ne_none u)
      rw [z] at q e
      rw [hK (by rw [q]; exact Option.some_ne_none u)] at e
      cases e
  have lim : (hidT s.heap H).NoLimit := by
    obtain ⟨mc, l1, l2⟩ := hlim
    exact ⟨mc, ns l1, l2⟩
  have env : Env0 P w K mg (hidT s.heap H) callerA [] s H :=
    ⟨rfl, ⟨kin, ns hg0, ⟨mb, ns hb, hbb⟩, lim⟩, fun b o e => of_hidT e, Nat.le_of_eq (hidT_size _ _), trivial, (fun b z => absurd (show b ∈ ([] : List Addr) from z) List.not_mem_nil), hok, .of_eq hg⟩
  have run := (F _ kin (ns hg0)).run callerA [] s H ⟨[.ref a], []⟩ [.ref a] [.ref a] _ _ rfl hr env (hbind s (.ref a)) (.cons rfl .nil) hsp
  refine codeAny_mono run fun r t h => ?_
  match r, h with
  | .error e, h => exact False.elim h
  | .ok (.ret u), h =>
    obtain ⟨v, H', os, bare, un, hok', r', q⟩ := h
    have q' : v = .bl true := q
    rw [q'] at r'
    obtain rfl : u = Value.bool true := r'
    refine ⟨rfl, OldK.of_keep fun b o e => ?_, os, bare⟩
    rcases hO b with z | ⟨ob, xs, z⟩
    · exact un.keep b o e z (fun y => absurd (show b ∈ ([] : List Addr) from y) List.not_mem_nil) (fun y => nomatch y)
    · obtain ⟨e1, _⟩ := hok b _ z
      obtain ⟨e2, _⟩ := hok' b _ (un.frzs b ob _ z)
      rw [e1] at e
      cases e
      exact e2
theorem law_callG (KX : K.In s.heap) (hg0 : s.heap.Ns mainGlobals mg) (hb : s.heap.Ns builtinsNs mb) (hbb : ∀ y : Str, y ≠ "__name__" → mb y = bootBuiltins y) (hlim : s.heap.NoLimit) (hg : s.gens = #[])
    (ha : s.heap.get? a = some { cls := .type "list", data := .seq vs.toArray }) (hi : IntsAre vs ns) (hl : ns.length ≤ sizeLine) (hr : Room k callerA)
    (F : ∀ base : Heap, K.In base → base.Ns mainGlobals mg → FnOkG P w K mg base CX0 k fa fd [x] sp) (hbind : ∀ (t : Shared) (u : Value), BindsTo t fd ⟨[u], []⟩ [(x, u)])
    (hsp : ∀ H : Hp, SqL K H a (ns.map V.int) → sp [.ref a] H (fun v _ => v = .bl true) fun _ _ _ => False) :
    codeAny (model P w) callerA (.call (.ref fa) ⟨[.ref a], []⟩) (fun r t => r = .ok (.ret (.bool true)) ∧ OldK s.heap t.heap ∧ t.os = s.os ∧ AllBare t.gens) s := by
  have rv := vals_ints hi
  have hlen : (ns.map V.int).length ≤ sizeLine := by
    rw [List.length_map]
    exact hl
  cases hk : K.lookup a with
  | some o =>
    have e := KX a o hk
    rw [ha] at e
    cases e
    refine from_heap KX hg0 hb hbb hlim hg ha hr F hbind (fun _ => none) (fun _ => .inl rfl) (fun b u z => nomatch z) (fun b z => absurd rfl z) (fun z => absurd rfl z) (hsp _ ?_)
    exact .inr ⟨_, vs.toArray, _, hk, rfl, rfl, rfl, by rw [List.size_toArray, hi.length]; exact hl, by simpa using rv⟩
  | none =>
    have at_ : ∀ b, (if b = a then some (HO.frz { cls := .type "list", data := .seq vs.toArray } (.lst (ns.map V.int))) else none) ≠ none → b = a := by
      intro b z
      by_cases e : b = a
      · exact e
      · rw [if_neg e] at z
        exact absurd rfl z
    refine from_heap KX hg0 hb hbb hlim hg ha hr F hbind (fun b => if b = a then some (.frz { cls := .type "list", data := .seq vs.toArray } (.lst (ns.map V.int))) else none) (fun b => ?_) (fun b u z => ?_) at_ (fun _ => hk)
      (hsp _ (.inl (.inr ⟨_, if_pos rfl⟩)))
    · by_cases e : b = a
      · exact .inr ⟨_, _, if_pos e⟩
      · exact .inl (if_neg e)
    · have e : b = a := at_ b (by
        have z' : (if b = a then some (HO.frz { cls := .type "list", data := .seq vs.toArray } (.lst (ns.map V.int))) else none) = some u := z
        rw [z']
        exact Option.some_ne_none u)
      subst e
      have z' := (if_pos rfl).symm.trans z
      cases z'
      exact ⟨ha, hlen, vs, _, rv, ha⟩
end
theorem walk_G {l : PySem.W.OpenLaw} {n k : Nat} {q : Program} {loose : List Str} {XP : (Str → Option Value) → Heap → Prop} {YP : World → Heap → Prop} {d : DefRec} {K : Params → PySem.W.Frag} {sp : PySem.W.Frag → Sp} {x : Str}
    (hn : l.most = some n) (hn2 : n ≤ sizeLine) (hdf : d.params.defaults = []) (hr : Room k callerA) (hY : ∀ (w : World) (h : Heap), YP w h → (K w.params).In h)
    (F : ∀ (w : World) (mg : Str → Option Value) (fa : Addr) (h : Heap), (K w.params).In h → h.Ns mainGlobals mg → mg d.name = some (.ref fa) →
      ∃ fd : FuncData, (∀ (t : Shared) (u : Value), BindsTo t fd ⟨[u], []⟩ [(x, u)]) ∧ ∀ base : Heap, (K w.params).In base → base.Ns mainGlobals mg → FnOkG l.prog w (K w.params) mg base CX0 k fa fd [x] (sp (K w.params)))
    (hsp : ∀ (K : PySem.W.Frag) (H : Hp) (a : Addr) (ns : List Int), ns.length ≤ n → SqL K H a (ns.map V.int) → sp K [.ref a] H (fun v _ => v = .bl true) fun _ _ _ => False) :
    PySem.W.WalkO q loose XP YP l.row.toRowW d [] (fun f vs => PySem.call f vs) := by
  refine Att.attach_call hn hdf fun w s₀ s₁ mg mb fa o pm cd doc a vs ns G Y ho hd hcd hmg hobj hints hlen hgens => ?_
  obtain ⟨fd, hb, hF⟩ := F w mg fa _ (hY w _ Y) G.T.g hmg
  exact law_callG (hY w _ Y) G.T.g G.T.b G.T.builtins G.T.nolimit hgens hobj hints (Nat.le_trans hlen hn2) hr hF hb fun H hS => hsp _ H a ns hlen hS
end Fm
namespace Fm
open PySem PySem.Spec PyProof.Rows L2 SlX
/-! a built-in's method within a comprehension, d.items() -/
section
variable {X : Cx} {K : PySem.W.Frag} {o e : Expr} {es : List Expr} {to : TE} {t : TA} {apos cpos : Pos} {T id : String} {name f : Str} {r : V → List V → Hp → VK → Prop}
theorem pe_bm0C (hK : X.K = K) (pa : PlainAttrs T) (slot : Slot T name id) (hty : typeOf (.builtin id) = pure (.type "method_descriptor")) (hm : MtR X id r) (ho : PE X o to)
    (hbase : attributeBase o name X.env (eval o X.env) = eval o X.env := by rfl) (hline : (apos.endLine == cpos.line) = true := by rfl) : PE X (.Call (.Attribute o name apos) [] [] cpos) (tBM0 K T r to) := by
  subst hK
  exact pe_bm0 pa slot hty hm ho hbase hline
theorem pe_slC (hK : X.K = K) (he : PE X e to) (hb : attributeBase e f X.env (eval e X.env) = eval e X.env := by rfl) : PE X (.Attribute e f apos) (SlX.tSl K to f) := by
  subst hK
  exact pe_sl he hb
end
/-- a dict comprehension over what is walked -/
theorem dc_it {J : It} {n : Nat} {G : Hp → Prop} {Y : Nat → Hp → V → Hp → Prop} (w : Walk J n G Y) {g : TG} {tt : TT} {tk tv : TE} {vs : List Nat} {σ : L2.St} {H1 : Hp} {D : Addr} {Qd : Hp → Prop} (Pv : Nat → Hp → Prop) (h0 : Pv 0 (upd H1 D (.dK []))) (hG : ∀ i H, i ≤ n → Pv i H → G H)
    (hs : ∀ i x H H', i < n → Pv i H → Y i H x H' → g x (wipe σ vs) H' fun σ2 H2 => wipe σ2 vs = wipe σ vs ∧ tt σ2 H2 fun b H3 =>
      if b = true then tk σ2 H3 fun y H4 => tv σ2 H4 fun z H5 => ∃ kvs k, y = kV k ∧ H5 D = some (.dK kvs) ∧ kvs.length < sizeLine ∧ Pv (i + 1) (upd H5 D (.dK (putK kvs k z))) else Pv (i + 1) H3) (hd : ∀ H, Pv n H → Qd H) :
    ∃ W : Nat → Nat → Hp → Prop, (∃ m, W 0 m (upd H1 D (.dK []))) ∧ ∀ i m H, W i m H →
      (J.stop i H ∧ Qd H) ∨ (J.go i H ∧ ∃ Nx : Hp → Prop, (∀ H', Nx H' → ∃ m', m' < m ∧ W (i + 1) m' H') ∧ ∀ x H', J.yld i H x H' → g x (wipe σ vs) H' fun σ2 H2 => wipe σ2 vs = wipe σ vs ∧ tt σ2 H2 fun b H3 =>
        if b = true then tk σ2 H3 fun y H4 => tv σ2 H4 fun z H5 => ∃ kvs k, y = kV k ∧ H5 D = some (.dK kvs) ∧ kvs.length < sizeLine ∧ Nx (upd H5 D (.dK (putK kvs k z))) else Nx H3) := by
  refine ⟨fun i m H => m = n - i ∧ i ≤ n ∧ Pv i H, ⟨n, by simp, Nat.zero_le _, h0⟩, ?_⟩
  rintro i m H ⟨rfl, hi, p⟩
  have q := hG i H hi p
  by_cases hlt : i < n
  · exact .inr ⟨w.goes i H hlt q, Pv (i + 1), fun H' p' => ⟨n - (i + 1), by omega, rfl, hlt, p'⟩, fun x H' y => hs i x H H' hlt p (w.yields i H x H' hlt q y)⟩
  · have e : i = n := by omega
    subst e
    exact .inl ⟨w.stops H q, hd H p⟩
/-! orders -/
structure TotO {κ : Type} (le : κ → κ → Bool) : Prop where
  tr : ∀ a b c, le a b = true → le b c = true → le a c = true
  to : ∀ a b, (le a b || le b a) = true
  an : ∀ a b, le a b = true → le b a = true → a = b
def leS (x y : Str) : Bool := !decide (y.cps.toList < x.cps.toList)
def leZ (i j : Int) : Bool := decide (i ≤ j)
theorem leS_iff {x y : Str} : leS x y = true ↔ x.cps.toList ≤ y.cps.toList := by
  unfold leS
  rw [Bool.not_eq_true', decide_eq_false_iff_not, List.not_lt]
theorem totS : TotO leS where
  tr a b c h k := leS_iff.mpr (List.le_trans (leS_iff.mp h) (leS_iff.mp k))
  to a b := by
    rcases List.le_total a.cps.toList b.cps.toList with h | h
    · rw [leS_iff.mpr h]; rfl
    · rw [leS_iff.mpr h, Bool.or_true]
  an a b h k := str_ext (List.le_antisymm (leS_iff.mp h) (leS_iff.mp k))
theorem totZ : TotO leZ where
  tr a b c h k := by
    have := of_decide_eq_true h
    have := of_decide_eq_true k
    exact decide_eq_true (by omega)
  to a b := by
    unfold leZ
    rw [← Bool.decide_or]
    exact decide_eq_true (by omega)
  an a b h k := by
    have := of_decide_eq_true h
    have := of_decide_eq_true k
    omega
theorem inj_of_nd {α κ : Type} {k : α → κ} : ∀ {xs : List α}, (xs.map k).Nodup → ∀ {a b}, a ∈ xs → b ∈ xs → k a = k b → a = b
  | [], _, _, _, h, _, _ => absurd h List.not_mem_nil
  | x :: xs, n, a, b, ha, hb, e => by
    rw [List.map_cons, List.nodup_cons] at n
    rcases List.mem_cons.mp ha with h1 | h1
    · rcases List.mem_cons.mp hb with h2 | h2
      · rw [h1, h2]
      · exact absurd (List.mem_map.mpr ⟨b, h2, by rw [← e, h1]⟩) n.1
    · rcases List.mem_cons.mp hb with h2 | h2
      · exact absurd (List.mem_map.mpr ⟨a, h1, by rw [e, h2]⟩) n.1
      · exact inj_of_nd n.2 h1 h2 e
section
variable {α κ : Type} {le : κ → κ → Bool} {k : α → κ}
/-- xs by the key k -/
def srt (le : κ → κ → Bool) (k : α → κ) (xs : List α) : List α := xs.mergeSort fun a b => le (k a) (k b)
theorem srt_perm (xs : List α) : (srt le k xs).Perm xs := List.mergeSort_perm _ _
theorem srt_pw (t : TotO le) (xs : List α) : (srt le k xs).Pairwise fun a b => le (k a) (k b) = true :=
  List.pairwise_mergeSort (le := fun a b => le (k a) (k b)) (fun a b c h h' => t.tr (k a) (k b) (k c) h h') (fun a b => t.to (k a) (k b)) xs
theorem srt_mem {xs : List α} {a : α} : a ∈ srt le k xs ↔ a ∈ xs := (srt_perm xs).mem_iff
theorem srt_len (xs : List α) : (srt le k xs).length = xs.length := (srt_perm xs).length_eq
theorem srt_one (t : TotO le) {xs ys : List α} (n : (xs.map k).Nodup) (p : ys.Perm xs) (s : ys.Pairwise fun a b => le (k a) (k b) = true) : ys = srt le k xs :=
  List.Perm.eq_of_pairwise (le := fun a b => le (k a) (k b) = true) (fun a b ha hb h h' => inj_of_nd n (p.mem_iff.mp ha) (srt_mem.mp hb) (t.an _ _ h h')) s (srt_pw t xs) (p.trans (srt_perm xs).symm)
theorem srt_keys (t : TotO le) {xs : List α} (n : (xs.map k).Nodup) {ys : List κ} (p : ys.Perm (xs.map k)) (s : ys.Pairwise fun a b => le a b = true) : ys = (srt le k xs).map k :=
  List.Perm.eq_of_pairwise (le := fun a b => le a b = true) (fun a b _ _ h h' => t.an _ _ h h') s (List.pairwise_map.mpr (srt_pw t xs)) (p.trans ((srt_perm xs).map k).symm)
theorem srt_nd {xs : List α} (n : (xs.map k).Nodup) : ((srt le k xs).map k).Nodup := ((srt_perm xs).map k).nodup_iff.mpr n
theorem srt_idem (t : TotO le) {xs : List α} (n : (xs.map k).Nodup) : srt le k (srt le k xs) = srt le k xs := (srt_one t (srt_nd n) (.refl _) (srt_pw t xs)).symm
theorem srt_of_perm (t : TotO le) {xs ys : List α} (n : (xs.map k).Nodup) (p : ys.Perm xs) : srt le k ys = srt le k xs := srt_one t n ((srt_perm ys).trans p) (srt_pw t ys)
end
theorem srt_map {α β κ : Type} {le : κ → κ → Bool} {k : α → κ} {l : β → κ} (t : TotO le) {f : α → β} (hk : ∀ a, l (f a) = k a) {xs : List α} (n : (xs.map k).Nodup) : srt le l (xs.map f) = (srt le k xs).map f := by
  have e : (xs.map f).map l = xs.map k := by
    rw [List.map_map]
    exact List.map_congr_left fun a _ => hk a
  refine (srt_one t (by rw [e]; exact n) ((srt_perm xs).map f) ?_).symm
  rw [List.pairwise_map]
  refine (srt_pw t xs).imp fun {a b} h => ?_
  rw [hk, hk]
  exact h
theorem risingS_pw : ∀ (p : Str) (l : List Str), risingS p l = true → (p :: l).Pairwise fun a b => leS a b = true
  | p, [], _ => List.pairwise_singleton _ _
  | p, x :: r, h => by
    have h' : (!ltCps x.cps.toList p.cps.toList) = true ∧ risingS x r = true := by simpa [risingS] using h
    have h1 : leS p x = true := by
      have := h'.1
      rw [ltCps_eq] at this
      exact this
    have ih := risingS_pw x r h'.2
    refine .cons (fun c hc => ?_) ih
    rcases List.mem_cons.mp hc with rfl | hc
    · exact h1
    · exact totS.tr _ _ _ h1 ((List.pairwise_cons.mp ih).1 c hc)
theorem sortedS_pw : ∀ (l : List Str), sortedS l = true → l.Pairwise fun a b => leS a b = true
  | [], _ => .nil
  | x :: r, h => risingS_pw x r h
/-! dicts -/
section
variable {κ : Type} [DecidableEq κ]
theorem valV_mem {kvs : List (κ × V)} {k : κ} {v : V} (n : (kvs.map (·.1)).Nodup) (h : (k, v) ∈ kvs) : valV kvs k = some v := by
  induction kvs with
  | nil => exact absurd h List.not_mem_nil
  | cons p r ih =>
    rw [List.map_cons, List.nodup_cons] at n
    rcases List.mem_cons.mp h with rfl | h
    · exact valV_pos rfl
    · rw [valV_neg (fun e => n.1 (by rw [e]; exact List.mem_map.mpr ⟨_, h, rfl⟩))]
      exact ih n.2 h
theorem valV_none {kvs : List (κ × V)} {k : κ} (h : k ∉ kvs.map (·.1)) : valV kvs k = none := by
  induction kvs with
  | nil => rfl
  | cons p r ih =>
    rw [List.map_cons, List.mem_cons, not_or] at h
    rw [valV_neg (fun e => h.1 e.symm)]
    exact ih h.2
theorem putK_new {kvs : List (κ × V)} {k : κ} {v : V} (h : k ∉ kvs.map (·.1)) : putK kvs k v = kvs ++ [(k, v)] := by
  unfold putK
  rw [valV_any, valV_none h]
  rfl
theorem putK_keys {kvs : List (κ × V)} {k : κ} {v : V} : (putK kvs k v).map (·.1) = if k ∈ kvs.map (·.1) then kvs.map (·.1) else kvs.map (·.1) ++ [k] := by
  by_cases h : k ∈ kvs.map (·.1)
  · rw [if_pos h]
    unfold putK
    have : (kvs.any fun kv => decide (kv.1 = k)) = true := by
      obtain ⟨p, hp, e⟩ := List.mem_map.mp h
      exact List.any_eq_true.mpr ⟨p, hp, by simpa using e⟩
    rw [if_pos this, List.map_map]
    refine List.map_congr_left fun p _ => ?_
    simp only [Function.comp]
    split <;> rfl
  · rw [if_neg h, putK_new h]
    simp
theorem nd_snoc {α : Type} {xs : List α} {x : α} (n : xs.Nodup) (h : x ∉ xs) : (xs ++ [x]).Nodup := by
  rw [List.nodup_append]
  refine ⟨n, by simp, fun a ha b hb => ?_⟩
  rw [List.mem_singleton] at hb
  subst hb
  exact fun e => h (by rw [← e]; exact ha)
theorem putK_nd {kvs : List (κ × V)} {k : κ} {v : V} (n : (kvs.map (·.1)).Nodup) : ((putK kvs k v).map (·.1)).Nodup := by
  rw [putK_keys]
  split
  · exact n
  · exact nd_snoc n ‹_›
theorem putK_mem {kvs : List (κ × V)} {k : κ} {v : V} {p : κ × V} (h : p ∈ putK kvs k v) : p ∈ kvs ∨ p = (k, v) := by
  unfold putK at h
  split at h
  · obtain ⟨q, hq, rfl⟩ := List.mem_map.mp h
    split
    · rename_i e
      exact .inr (by rw [e])
    · exact .inl hq
  · rcases List.mem_append.mp h with h | h
    · exact .inl h
    · exact .inr (List.mem_singleton.mp h)
theorem putK_len {kvs : List (κ × V)} {k : κ} {v : V} : kvs.length ≤ (putK kvs k v).length ∧ (putK kvs k v).length ≤ kvs.length + 1 ∧ 1 ≤ (putK kvs k v).length := by
  have e : (putK kvs k v).length = ((putK kvs k v).map (·.1)).length := by simp
  have h := putK_keys (kvs := kvs) (k := k) (v := v)
  rw [e, h]
  split
  · rename_i hk
    have : 0 < (kvs.map (·.1)).length := List.length_pos_of_mem hk
    rw [List.length_map] at this ⊢
    omega
  · simp
end
theorem mergeK_nd : ∀ (more kvs : List (L2.Key × V)), ((kvs ++ more).map (·.1)).Nodup → mergeK kvs more = kvs ++ more
  | [], kvs, _ => by simp [mergeK]
  | p :: r, kvs, n => by
    have h : p.1 ∉ kvs.map (·.1) := by
      rw [List.map_append, List.nodup_append] at n
      intro h
      exact n.2.2 _ h p.1 (by simp) rfl
    show mergeK (putK kvs p.1 p.2) r = _
    rw [putK_new h, mergeK_nd r (kvs ++ [(p.1, p.2)]) (by simpa using n)]
    simp
/-! lists of texts -/
section
variable {K : PySem.W.Frag} {H : Hp}
theorem dp_strs : ∀ o : List Str, DpAll K H (o.map V.str) (o.map PyData.str)
  | [] => .nil
  | x :: o => .cons (.str x) (dp_strs o)
theorem strs_shaped {o : List Str} (h : ∀ s ∈ o, PyData.strOk s = true) : SeqAt.shaped (.list (o.map PyData.str)) = true := by
  have h1 : ∀ o : List Str, (∀ s ∈ o, PyData.strOk s = true) → PyData.canLayAll0 (o.map PyData.str) = true := fun o => by
    induction o with
    | nil => intro _; rfl
    | cons x o ih =>
      intro h
      simp [PyData.canLayAll0, PyData.canLay0, ih fun s hs => h s (by simp [hs]), h x (by simp)]
  have h2 : ∀ o : List Str, PyData.depthAll (o.map PyData.str) = 0 := fun o => by
    induction o with
    | nil => rfl
    | cons x o ih => simp [PyData.depthAll, PyData.depth, ih]
  show (PyData.canLay0 (.list (o.map PyData.str)) && decide (PyData.depth (.list (o.map PyData.str)) ≤ 64)) = true
  simp only [PyData.canLay0, PyData.depth, h1 o h, h2]
  rfl
theorem shaped_lay {d : PyData} (h : SeqAt.shaped d = true) : d.canLay0 = true := by
  have h' : (d.canLay0 && decide (d.depth ≤ 64)) = true := h
  rw [Bool.and_eq_true] at h'
  exact h'.1
/-- list of texts == list of texts, the same -/
theorem rd_eqS {a b : Addr} {xs : List Str} {Q : VK} (ha : H a = some (.lst (xs.map V.str))) (hb : H b = some (.lst (xs.map V.str))) (hx : ∀ s ∈ xs, PyData.strOk s = true) (q : Q (.bl true) H) : rEqG K (.ref a) (.ref b) H Q := by
  refine Or.inr ⟨_, _, .lst (.inl (.inl ha)) (dp_strs xs), .lst (.inl (.inl hb)) (dp_strs xs), strs_shaped hx, strs_shaped hx, ?_⟩
  rw [SeqAt.eqv_refl _ (shaped_lay (strs_shaped hx))]
  exact q
theorem inV_strs (x : Str) : ∀ xs : List Str, inV (.str x) (xs.map V.str) = decide (x ∈ xs)
  | [] => rfl
  | y :: ys => by
    have ih := inV_strs x ys
    unfold inV at ih ⊢
    rw [List.map_cons, List.any_cons, ih]
    simp only [eqV, List.mem_cons, Bool.decide_or]
    congr 1
    rw [Bool.eq_iff_iff, beq_iff_eq, decide_eq_true_iff]
    exact eq_comm
theorem flat_strs (xs : List Str) : (xs.map V.str).all flatV = true := by
  rw [List.all_map, List.all_eq_true]
  intro _ _
  rfl
/-- x not in a list of texts -/
theorem rd_notS {a : Addr} {xs : List Str} {x : Str} {Q : VK} (ha : H a = some (.lst (xs.map V.str))) (q : Q (.bl (!decide (x ∈ xs))) H) : rIn K true (.str x) (.ref a) H Q := by
  refine ⟨a, _, rfl, .inl (.inl (.inl ha)), rfl, flat_strs xs, ?_⟩
  rw [inV_strs]
  exact q
end
/-! d != {}, d == {} -/
section
variable {X : Cx}
def rNeE : R2 := fun x y H Q => ∃ (a b : Addr) (kvs : List (L2.Key × V)), x = .ref a ∧ y = .ref b ∧ H a = some (.dK kvs) ∧ H b = some (.dK []) ∧ Q (.bl (!kvs.isEmpty)) H
def rEqE : R2 := fun x y H Q => ∃ (a b : Addr) (kvs : List (L2.Key × V)), x = .ref a ∧ y = .ref b ∧ H a = some (.dK kvs) ∧ H b = some (.dK []) ∧ Q (.bl kvs.isEmpty) H
theorem op_neE (hu : X.A.units < cLine) : OpR X (compareOp .NotEq) rNeE := by
  intro pins s σ H x y v u Q I rx ry h
  obtain ⟨a, b, kvs, rfl, rfl, ea, eb, q⟩ := h
  cases kvs with
  | nil => exact op_ne_dictA hu pins s σ H _ _ v u Q I rx ry ⟨a, b, [], [], rfl, rfl, ea, eb, rfl, fun p hp => absurd hp List.not_mem_nil, q⟩
  | cons kv kvs =>
    obtain rfl : v = Value.ref a := rx
    obtain rfl : u = Value.ref b := ry
    obtain ⟨_, ya, va, ra, da⟩ := (show ObjOk X.prog X.w H s.heap a (.dK (kv :: kvs)) from I.hok a _ ea)
    obtain ⟨_, yb, vb, rb, db⟩ := (show ObjOk X.prog X.w H s.heap b (.dK []) from I.hok b _ eb)
    have hl : va.length ≠ vb.length := by rw [← ra.length, ← rb.length]; simp
    exact PySem.W.keq_ne (knd := mixKind X.prog X.w) (r := true) ya yb da db hu (fun h => absurd h hl) (fin_bl I q (by simp [hl]))
theorem op_eqE (hu : X.A.units < cLine) : OpR X (compareOp .Eq) rEqE := by
  intro pins s σ H x y v u Q I rx ry h
  obtain ⟨a, b, kvs, rfl, rfl, ea, eb, q⟩ := h
  cases kvs with
  | nil => exact op_eq_dictA hu pins s σ H _ _ v u Q I rx ry ⟨a, b, [], [], rfl, rfl, ea, eb, rfl, fun p hp => absurd hp List.not_mem_nil, q⟩
  | cons kv kvs =>
    obtain rfl : v = Value.ref a := rx
    obtain rfl : u = Value.ref b := ry
    obtain ⟨_, ya, va, ra, da⟩ := (show ObjOk X.prog X.w H s.heap a (.dK (kv :: kvs)) from I.hok a _ ea)
    obtain ⟨_, yb, vb, rb, db⟩ := (show ObjOk X.prog X.w H s.heap b (.dK []) from I.hok b _ eb)
    have hl : va.length ≠ vb.length := by rw [← ra.length, ← rb.length]; simp
    exact PySem.W.keq_eq (knd := mixKind X.prog X.w) (r := true) ya yb da db hu (fun h => absurd h hl) (fin_bl I q (by simp [hl]))
end
/-! heaps -/
section
variable {b p : Addr} {H H' : Hp} {o : HO}
theorem Dr.getK (d : Dr b H H') (hB : Bag H b) (h : H p = some o) (ho : ∀ xs, o ≠ .lst xs) : H' p = some o := by
  refine d.get ?_ h
  rintro rfl
  obtain ⟨xs, e⟩ := hB.lst
  rw [e] at h
  exact ho xs (Option.some.inj h).symm
theorem Mv.unlock {d : Addr} {u : HO} {od : Obj} (h : H d = some u) (hu : ∀ xs, u ≠ .tup xs) (hv : ∀ o xs, u ≠ .frz o (.tup xs)) (m : Mv [] (upd H d (.frz od u)) H') : Mv [] H (upd H' d u) := by
  refine ⟨fun a xs r => ?_, fun a o _ e => ?_⟩
  · have hd : a ≠ d := by
      rintro rfl
      rcases r with r | ⟨o, r⟩
      · rw [h] at r
        exact hu xs (Option.some.inj r)
      · rw [h] at r
        exact hv o xs (Option.some.inj r)
    have r' : Rd (upd H d (.frz od u)) a (.tup xs) := r.imp (fun r => by rw [upd_ne hd]; exact r) fun ⟨o, r⟩ => ⟨o, by rw [upd_ne hd]; exact r⟩
    exact (m.tk a xs r').imp (fun r => by rw [upd_ne hd]; exact r) fun ⟨o, r⟩ => ⟨o, by rw [upd_ne hd]; exact r⟩
  · by_cases hd : a = d
    · subst hd
      rw [upd_same, ← e, h]
    · rw [upd_ne hd]
      exact m.keep a o (by simp) (by rw [upd_ne hd]; exact e)
theorem Mv.put {d : Addr} {u o : HO} (h : H d = some u) (hu : ∀ xs, u ≠ .tup xs) (hv : ∀ o xs, u ≠ .frz o (.tup xs)) : Mv [d] H (upd H d o) := by
  refine ⟨fun a xs r => ?_, fun a o n e => ?_⟩
  · have hd : a ≠ d := by
      rintro rfl
      rcases r with r | ⟨o, r⟩
      · rw [h] at r
        exact hu xs (Option.some.inj r)
      · rw [h] at r
        exact hv o xs (Option.some.inj r)
    exact r.imp (fun r => by rw [upd_ne hd]; exact r) fun ⟨o, r⟩ => ⟨o, by rw [upd_ne hd]; exact r⟩
  · rw [upd_ne (fun z => n (by rw [z]; exact List.mem_singleton.mpr rfl))]
    exact e
theorem Mv.putD {d : Addr} {kvs : List (L2.Key × V)} {o : HO} (h : H d = some (.dK kvs)) : Mv [d] H (upd H d o) := .put h (fun _ z => by cases z) (fun _ _ z => by cases z)
theorem Mv.lock {d : Addr} {u : HO} {od : Obj} (h : H d = some u) (hu : ∀ xs, u ≠ .tup xs) (hv : ∀ o xs, u ≠ .frz o (.tup xs)) : Mv [d] H (upd H d (.frz od u)) := .put h hu hv
theorem slO_nolst {a C dx : Addr} {vs : List (Option V)} (xs : List V) : SlO a C dx vs ≠ .lst xs := fun z => by
  unfold SlO at z
  cases z
theorem Slt.mv {a C dx : Addr} {vs : List (Option V)} (h : Slt H a C dx vs) (m : Mv [] H H') : Slt H' a C dx vs := h.imp (fun h => ⟨m.same _ _ h.1, h.2⟩) fun h => ⟨m.same _ _ h.1, m.same _ _ h.2⟩
theorem Slt.dr {a C dx : Addr} {vs : List (Option V)} (h : Slt H a C dx vs) (d : Dr b H H') (hB : Bag H b) : Slt H' a C dx vs :=
  h.imp (fun h => ⟨d.getK hB h.1 (fun _ z => by cases z), h.2⟩) fun h => ⟨d.getK hB h.1 slO_nolst, d.getK hB h.2 (fun _ z => by cases z)⟩
end
/-! acts -/
structure ActR where
  nm : Str
  ar : Int
  outs : List (Str × Int)
/-- an act in a dict: its tuple at a, its outcomes at o -/
structure ActA where
  r : ActR
  a : Addr
  o : Addr
def ActA.kv (z : ActA) : L2.Key × V := (.inr z.r.nm, .ref z.a)
structure ActsAt (K : PySem.W.Frag) (H : Hp) (d : Addr) (zs : List ActA) : Prop where
  at_ : H d = some (.dK (zs.map ActA.kv))
  nd : (zs.map (·.r.nm)).Nodup
  tup : ∀ z ∈ zs, SqT K H z.a [.int z.r.ar, .ref z.o]
  out : ∀ z ∈ zs, H z.o = some (.dK (z.r.outs.map rowK))
  ond : ∀ z ∈ zs, (z.r.outs.map (·.1)).Nodup
section
variable {K : PySem.W.Frag} {H H' : Hp} {b d : Addr} {zs : List ActA}
theorem ActsAt.mv (h : ActsAt K H d zs) (m : Mv [] H H') : ActsAt K H' d zs := ⟨m.same _ _ h.at_, h.nd, fun z hz => m.sqT (h.tup z hz), fun z hz => m.same _ _ (h.out z hz), h.ond⟩
theorem ActsAt.dr (h : ActsAt K H d zs) (m : Dr b H H') (hB : Bag H b) : ActsAt K H' d zs :=
  ⟨m.getK hB h.at_ (fun _ z => by cases z), h.nd, fun z hz => m.mv.sqT (h.tup z hz), fun z hz => m.getK hB (h.out z hz) (fun _ z => by cases z), h.ond⟩
theorem kv_keys (zs : List ActA) : (zs.map ActA.kv).map (·.1) = (zs.map (·.r.nm)).map Sum.inr := by
  rw [List.map_map, List.map_map]
  rfl
theorem nd_inr {xs : List Str} (n : xs.Nodup) : (xs.map (Sum.inr : Str → L2.Key)).Nodup := by
  refine List.Pairwise.map _ (fun a b h => ?_) n
  exact fun e => h (Sum.inr.inj e)
theorem ActsAt.nk (h : ActsAt K H d zs) : ((zs.map ActA.kv).map (·.1)).Nodup := by
  rw [kv_keys]
  exact nd_inr h.nd
theorem ActsAt.val (h : ActsAt K H d zs) {z : ActA} (hz : z ∈ zs) : valV (zs.map ActA.kv) (.inr z.r.nm) = some (.ref z.a) := valV_mem h.nk (List.mem_map.mpr ⟨z, hz, rfl⟩)
theorem row_keys (rs : List (Str × Int)) : (rs.map rowK).map (·.1) = (rs.map (·.1)).map Sum.inr := by
  rw [List.map_map, List.map_map]
  rfl
theorem row_val {rs : List (Str × Int)} (n : (rs.map (·.1)).Nodup) {x : Str} {i : Int} (h : (x, i) ∈ rs) : valV (rs.map rowK) (.inr x) = some (.int i) :=
  valV_mem (by rw [row_keys]; exact nd_inr n) (List.mem_map.mpr ⟨(x, i), h, rfl⟩)
/-- behind a lock on d itself, or on another dict -/
theorem Dr.lst_ne {l : Addr} {xs : List V} (hB : Bag H b) (h : H l = some (.lst xs)) (hx : ∀ i, xs.getLast? ≠ some (.ref i)) : l ≠ b := by
  rintro rfl
  obtain ⟨c, s, m, k, ns, h1, _⟩ := hB
  rw [h1] at h
  have := Option.some.inj h
  injection this with this
  exact hx c (by rw [← this]; rfl)
end
def ActR.norm (r : ActR) : ActR := { r with outs := srt leS (·.1) r.outs }
def normW (rs : List ActR) : List ActR := srt leS (·.nm) (rs.map ActR.norm)
theorem paired_rows {K : PySem.W.Frag} {H : Hp} : ∀ (ps : List (Addr × Str × Int)), (∀ z ∈ ps, H z.1 = some (.tup [.str z.2.1, .int z.2.2])) → Paired (fun p (kv : L2.Key × V) => SqT K H p [kV kv.1, kv.2]) (ps.map (·.1)) ((ps.map (·.2)).map rowK)
  | [], _ => .nil
  | z :: ps, h => .cons (.inl (.inl (h z (by simp)))) (paired_rows ps fun y hy => h y (by simp [hy]))
/-- dict of the pairs of a list, in order by their texts -/
theorem srt_outs {rows qs : List (Str × Int)} (n : (rows.map (·.1)).Nodup) (p : qs.Perm rows) (s : qs.Pairwise fun e f => e.1.cps.toList < f.1.cps.toList) : qs = srt leS (·.1) rows :=
  srt_one totS n p (s.imp fun {a b} h => leS_iff.mpr (List.le_of_lt h))
/-- a World at x -/
def WldAt (K : PySem.W.Frag) (H : Hp) (C x : Addr) (rs : List ActR) : Prop := ∃ dx d zs, Slt H x C dx [some (.ref d)] ∧ ActsAt K H d zs ∧ zs.map (·.r) = rs
section
variable {K : PySem.W.Frag} {H H' : Hp} {b C x : Addr} {rs : List ActR}
theorem WldAt.mv (h : WldAt K H C x rs) (m : Mv [] H H') : WldAt K H' C x rs := by
  obtain ⟨dx, d, zs, h1, h2, h3⟩ := h
  exact ⟨dx, d, zs, Slt.mv h1 m, h2.mv m, h3⟩
theorem WldAt.dr (h : WldAt K H C x rs) (m : Dr b H H') (hB : Bag H b) : WldAt K H' C x rs := by
  obtain ⟨dx, d, zs, h1, h2, h3⟩ := h
  exact ⟨dx, d, zs, Slt.dr h1 m hB, h2.dr m hB, h3⟩
end
end Fm
/-! == of tuples and dicts, their parts compared in this very program and world -/
namespace Fm
open PySem PySem.Spec PyProof.Rows L2
open AutoSeq1 (wpAny_loadPart')
open PySem.MeetsSeq PySem.MeetsSeq2 PySem.MeetsSeq3 PySem.SeqRoads2
def EqW (prog : Program) (w : PySem.World) (A : Around) (s : Shared) (y x : Value) (b : Bool) : Prop := ∀ (E : Value → Shared → Prop) (Q : Bool → Shared → Prop), Q b s → wpAny (model prog w) A (eqBool y x) Q E s
section
variable {prog : Program} {w : PySem.World} {A : Around} {s : Shared} {E : Value → Shared → Prop}
theorem EqW.of_at {y x : Value} {b : Bool} (h : SeqAt.EqAt A s y x b) : EqW prog w A s y x b := fun E Q q => h prog w E Q q
theorem EqW.of_refs {p q : Addr} {b : Bool} (hne : p ≠ q) (h : ∀ (E : Value → Shared → Prop) (Q : Value → Shared → Prop), Q (.bool b) s → wpAny (model prog w) A (richCompare .Eq (.ref p) (.ref q)) Q E s) : EqW prog w A s (.ref p) (.ref q) b :=
  fun E Q hq => GQ.eqBool_refG hne (h E _ ⟨b, rfl, hq⟩)
/-- how two tuples compare, place by place -/
theorem tupW {p q : Addr} {xs ys : Array Value} {e : Nat → Bool} {Q : Value → Shared → Prop} (hp : s.heap.IsTuple p xs) (hq : s.heap.IsTuple q ys) (hu : A.units < cLine)
    (he : ∀ j (h1 : j < xs.size) (h2 : j < ys.size), EqW prog w A.in1 s xs[j] ys[j] (e j)) (h : Q (.bool ((List.range (min xs.size ys.size)).all e && xs.size == ys.size)) s) : wpAny (model prog w) A (richCompare .Eq (.ref p) (.ref q)) Q E s := by
  obtain ⟨⟨c1, d1, t1, l1⟩, o1, k1, n1, r1⟩ := id hp
  obtain ⟨⟨c2, d2, t2, l2⟩, o2, k2, n2, r2⟩ := id hq
  dsimp only at k1 r1 k2 r2
  subst k1 r1 k2 r2
  refine wpAny_richCompare_same_room (op := .Eq) ⟨_, o1, rfl⟩ ⟨_, o2, rfl⟩ PySem.F.slot_tuple_eq (GQ.call_here PySem.F.slot_tuple_eq ⟨_, o1, rfl⟩ PySem.F.entry_tuple_eq (PySem.F.args_tuple_eq_2 _ _) ?_) hu
  have sub := AutoSeq1.sub_tuple_tuple
  have len : (xs.toList.zip ys.toList).length = min xs.size ys.size := by simp
  obtain ⟨hh, gg, dd, tt, oo⟩ := s
  wp_walk using wpAny_loadPart' o1, wpAny_loadPart' o2, wpAny_forIn_list _ (fun rest acc s' => acc.1 = none ∧ s' = ⟨hh, gg, dd, tt, oo⟩ ∧ ∃ i, rest = (xs.toList.zip ys.toList).drop i ∧
    Q (.bool (((List.range (min xs.size ys.size)).drop i).all e && xs.size == ys.size)) ⟨hh, gg, dd, tt, oo⟩) _
  case turn =>
    rintro ⟨y, x⟩ rest acc s' ⟨ha, rfl, i, hz, hQ⟩
    have lt : i < (xs.toList.zip ys.toList).length := Nat.lt_of_not_le fun ge => by
      rw [List.drop_of_length_le ge] at hz
      cases hz
    have lm : i < min xs.size ys.size := len ▸ lt
    have lx : i < xs.size := by omega
    have ly : i < ys.size := by omega
    rw [List.drop_eq_getElem_cons lt] at hz
    injection hz with hyx hrest
    obtain rfl : y = xs[i] := by simpa using congrArg Prod.fst hyx
    obtain rfl : x = ys[i] := by simpa using congrArg Prod.snd hyx
    have dr : (List.range (min xs.size ys.size)).drop i = i :: (List.range (min xs.size ys.size)).drop (i + 1) := by simp [List.drop_eq_getElem_cons, lm]
    rw [dr, List.all_cons] at hQ
    refine wpAny_bind (he i lx ly _ _ ?_)
    cases ei : e i with
    | true =>
      rw [ei] at hQ
      wp_walk
      exact ⟨rfl, rfl, i + 1, hrest, by simpa using hQ⟩
    | false =>
      rw [ei] at hQ
      wp_walk
      exact ⟨(fun z => nomatch z), by simpa using hQ⟩
  case fin =>
    rintro ⟨a1, a2⟩ s' ⟨ha, rfl, i, hz, hQ⟩
    dsimp only at ha
    subst ha
    have ge : min xs.size ys.size ≤ i := Nat.le_of_not_lt fun lt => by
      rw [List.drop_eq_getElem_cons (len ▸ lt)] at hz
      cases hz
    rw [List.drop_of_length_le (by simpa using ge)] at hQ
    wp_walk
    exact ⟨(fun z => nomatch z), by simpa [Builtin.Tuple.tupleCompareSizes] using hQ⟩
  case h => exact ⟨rfl, rfl, 0, rfl, by simpa using h⟩
end
/-- the pairs of one dict looked up in another one -/
inductive HitsW (prog : Program) (w : PySem.World) (A : Around) (s : Shared) (kb : List (L2.Key × Value)) : List (L2.Key × Value) → Bool → Prop
  | done : HitsW prog w A s kb [] true
  | lacks {k : L2.Key} {v : Value} {r : List (L2.Key × Value)} : valueAt kb k = none → HitsW prog w A s kb ((k, v) :: r) false
  | meets {k : L2.Key} {v y : Value} {r : List (L2.Key × Value)} {e b : Bool} : valueAt kb k = some y → EqW prog w A s v y e → HitsW prog w A s kb r b → HitsW prog w A s kb ((k, v) :: r) (e && b)
section
variable {prog : Program} {w : PySem.World} {A : Around} {s : Shared} {E : Value → Shared → Prop}
theorem HitsW.inv {kb r : List (L2.Key × Value)} {k : L2.Key} {v : Value} {b : Bool} (h : HitsW prog w A s kb ((k, v) :: r) b) : (valueAt kb k = none ∧ b = false) ∨ ∃ y e b', valueAt kb k = some y ∧ EqW prog w A s v y e ∧ HitsW prog w A s kb r b' ∧ b = (e && b') := by
  cases h with
  | lacks h => exact .inl ⟨h, rfl⟩
  | meets h1 h2 h3 => exact .inr ⟨_, _, _, h1, h2, h3, rfl⟩
theorem pairsW {nm : String} {p q : Addr} {ka kb : List (L2.Key × Value)} {r : Bool} {Q : Bool → Shared → Prop} (hp : (p == sysModules) = false) (hq : (q == sysModules) = false)
    (dp : s.heap.DictOf (mixKind prog w) p ka) (dq : s.heap.DictOf (mixKind prog w) q kb) (hits : ka.length = kb.length → HitsW prog w A s kb ka r) (h : Q (ka.length == kb.length && r) s) :
    wpAny (model prog w) A (Builtin.Dict.samePairs nm p q) Q E s := by
  obtain ⟨op, ep, np, gp, _, tp, kp, pp, _⟩ := dp
  obtain ⟨oq, eq, nq, gq, _, tq, kq, pq, _⟩ := dq
  have lp : ka.length = ep.size := by rw [← pp.length]; exact Array.length_toList
  have lq : kb.length = eq.size := by rw [← pq.length]; exact Array.length_toList
  have fnd : ∀ k, findBy (mixKind prog w).is eq k = valueAt kb k := fun k => by
    rw [← pq.find k]
    clear lq pq kq tq gq
    obtain ⟨es⟩ := eq
    simp [findBy]
  rw [lp, lq] at h
  unfold Builtin.Dict.samePairs Builtin.Dict.showsAll
  rw [if_neg (by rw [hp]; exact Bool.false_ne_true), if_neg (by rw [hq]; exact Bool.false_ne_true)]
  refine wpAny_bind (wpAny_pure (wpAny_bind (wpAny_pure (wpAny_bind (wpAny_dictEntries gp tp ?_)))))
  dsimp only
  refine wpAny_bind (wpAny_dictEntries gq tq ?_)
  by_cases sz : ep.size = eq.size
  · have hQ : Q r s := by simpa [sz] using h
    have hits' := hits (by omega)
    rw [if_neg (by rw [sz]; simp)]
    refine wpAny_bind (wpAny_dictEpoch gp tp (wpAny_bind ?_))
    rw [Std.Legacy.Range.forIn_eq_forIn_range']
    simp only [Std.Legacy.Range.size, Nat.sub_zero, Nat.add_sub_cancel, Nat.div_one]
    refine wpAny_forIn_list _ (fun rest acc s' => s' = s ∧ acc = (none, ()) ∧ ∃ i, rest = List.range' i (ep.size - i) ∧ i ≤ ep.size ∧ HitsW prog w A s kb (ka.drop i) r) _ ?_ ?_ _ _ ⟨rfl, rfl, 0, by simp, Nat.zero_le _, hits'⟩
    · rintro x rest acc s' ⟨rfl, rfl, i, hr, hi, hd⟩
      have lt : i < ep.size := Nat.lt_of_not_le fun ge => by
        rw [Nat.sub_eq_zero_of_le ge] at hr
        simp at hr
      have e1 : ep.size - i = (ep.size - (i + 1)) + 1 := by omega
      rw [e1, List.range'_succ] at hr
      injection hr with hx hrest
      subst hx
      refine wpAny_bind (wpAny_dictEntries gp tp ?_)
      rw [Array.getElem?_eq_getElem lt]
      have lt' : x < ka.length := by omega
      obtain ⟨k, v, hkv⟩ : ∃ k v, ka[x] = (k, v) := ⟨_, _, rfl⟩
      have hdrop : ka.drop x = (k, v) :: ka.drop (x + 1) := by rw [← hkv]; exact List.drop_eq_getElem_cons lt'
      obtain ⟨hk, hv⟩ := pp.get? (i := x) (e := ep[x]) (k := k) (v := v) (by rw [Array.getElem?_toList]; exact Array.getElem?_eq_getElem lt) (by rw [List.getElem?_eq_getElem lt', hkv])
      obtain ⟨k', hk', hh⟩ := kp ep[x] (Array.getElem_mem lt)
      have ekk : k' = k := (mixKind prog w).inj _ _ _ hk' hk
      rw [ekk] at hh
      rw [hdrop] at hd
      show wpAny _ _ (holding [ep[x].key, ep[x].val] _ >>= _) _ _ _
      rw [hh]
      refine wpAny_bind (wpAny_holding (wpAny_bind (wpAny_dictFind_of hk gq tq kq ?_)))
      cases hj : eq.findIdx? fun e => (mixKind prog w).is k e.key with
      | none =>
        have hn : valueAt kb k = none := by rw [← fnd k, findBy_of_findIdx?, hj]
        rcases hd.inv with ⟨_, er⟩ | ⟨y, _, _, hy, _⟩
        · rw [er] at hQ
          refine wpAny_pure ?_
          show wpAny _ _ (if (!false) = true then _ else _) _ _ _
          rw [if_pos (by decide)]
          exact wpAny_pure (wpAny_pure hQ)
        · rw [hn] at hy
          cases hy
      | some j =>
        obtain ⟨jl, _, _⟩ := Array.findIdx?_eq_some_iff_getElem.mp hj
        have hy' : valueAt kb k = some eq[j].val := by
          rw [← fnd k, findBy_of_findIdx?, hj]
          simp [Array.getElem?_eq_getElem jl]
        refine wpAny_bind (wpAny_dictEntries gq tq ?_)
        rw [Array.getElem?_eq_getElem jl]
        rcases hd.inv with ⟨hn, _⟩ | ⟨y, e, b', hy, he, hrr, er⟩
        · rw [hy'] at hn
          cases hn
        · have ey : eq[j].val = y := Option.some.inj (hy'.symm.trans hy)
          rw [← ey, ← hv] at he
          refine wpAny_holding (he _ _ ?_)
          cases e with
          | false =>
            rw [er, Bool.false_and] at hQ
            show wpAny _ _ (if (!false) = true then _ else _) _ _ _
            rw [if_pos (by decide)]
            exact wpAny_pure (wpAny_pure hQ)
          | true =>
            rw [Bool.true_and] at er
            rw [← er] at hrr
            show wpAny _ _ (if (!true) = true then _ else _) _ _ _
            rw [if_neg (by decide)]
            refine wpAny_bind (wpAny_dictEpoch gp tp ?_)
            rw [if_neg (by simp)]
            exact wpAny_pure ⟨rfl, rfl, x + 1, hrest, lt, hrr⟩
    · rintro acc s' ⟨rfl, rfl, i, hr, hi, hd⟩
      have ei : i = ep.size := Nat.le_antisymm hi (Nat.le_of_not_lt fun lt => by
        have e1 : ep.size - i = (ep.size - (i + 1)) + 1 := by omega
        rw [e1, List.range'_succ] at hr
        cases hr)
      refine wpAny_pure ?_
      rw [ei, ← lp, List.drop_length] at hd
      cases hd
      exact hQ
  · rw [if_pos (by simpa using sz)]
    have bf : (ep.size == eq.size) = false := by simpa using sz
    rw [bf, Bool.false_and] at h
    exact wpAny_bind (wpAny_rule (wpAny_pure h))
/-- how two dicts compare -/
theorem dictW {p q : Addr} {ka kb : List (L2.Key × Value)} {r : Bool} {Q : Value → Shared → Prop} (hp : (p == sysModules) = false) (hq : (q == sysModules) = false) (dp : s.heap.DictOf (mixKind prog w) p ka) (dq : s.heap.DictOf (mixKind prog w) q kb)
    (hu : A.units < cLine) (hits : ka.length = kb.length → HitsW prog w A.in1 s kb ka r) (h : Q (.bool (ka.length == kb.length && r)) s) : wpAny (model prog w) A (richCompare .Eq (.ref p) (.ref q)) Q E s := by
  refine wpAny_richCompare_same_room (op := .Eq) dp.typeIs dq.typeIs PySem.F.slot_dict_eq (wpAny_call_entry PySem.F.slot_dict_eq dp.typeIs PySem.F.entry_dict_eq ?_ (PySem.F.args_dict_eq_2 _ _)) hu
  show wpAny _ _ (Builtin.Dict.dictSlotArgs "__eq__" ⟨[.ref p, .ref q], []⟩ >>= _) _ _ s
  refine wpAny_bind ?_
  unfold Builtin.Dict.dictSlotArgs
  refine wpAny_bind (wpAny_notOrdered_dict dp.typeIs ?_)
  show wpAny _ _ (pure (Value.ref p, Value.ref q)) _ _ s
  refine wpAny_pure (wpAny_bind (wpAny_isInstance (T := "dict") dq.typeIs PySem.F.sub_dict_dict ?_))
  simp only [Bool.not_true, Bool.false_eq_true, if_false]
  refine wpAny_bind (wpAny_pure (wpAny_bind (wpAny_pure (wpAny_bind (pairsW hp hq dp dq hits (wpAny_pure ⟨_, rfl, (fun z => nomatch z), ?_⟩))))))
  simpa using h
end
end Fm
/-! == of acts -/
namespace Fm
open PySem PySem.Spec PyProof.Rows L2
def lk (b : List (Str × Int)) (x : Str) : Option Int := (b.find? fun e => decide (e.1 = x)).map (·.2)
def hitO (b : List (Str × Int)) (e : Str × Int) : Bool := match lk b e.1 with
  | some j => e.2 == j
  | none => false
def outsEq (a b : List (Str × Int)) : Bool := a.length == b.length && a.all (hitO b)
def actEq (r q : ActR) : Bool := r.ar == q.ar && outsEq r.outs q.outs
def hitA (qs : List ActR) (r : ActR) : Bool := match qs.find? fun q => decide (q.nm = r.nm) with
  | some q => actEq r q
  | none => false
def rsEq (rs qs : List ActR) : Bool := rs.length == qs.length && rs.all (hitA qs)
theorem val_row (b : List (Str × Int)) (x : Str) : valV (b.map rowK) (.inr x) = (lk b x).map V.int := by
  unfold valV lk
  rw [List.find?_map, Option.map_map, Option.map_map]
  have : ((fun kv : L2.Key × V => decide (kv.1 = Sum.inr x)) ∘ rowK) = fun e : Str × Int => decide (e.1 = x) := by
    funext e
    show decide ((Sum.inr e.1 : L2.Key) = Sum.inr x) = _
    by_cases h : e.1 = x
    · rw [decide_eq_true h, decide_eq_true (by rw [h])]
    · rw [decide_eq_false h, decide_eq_false fun z => h (Sum.inr.inj z)]
  rw [this]
  rfl
theorem val_act (zs : List ActA) (x : Str) : valV (zs.map ActA.kv) (.inr x) = (zs.find? fun z => decide (z.r.nm = x)).map fun z => V.ref z.a := by
  unfold valV
  rw [List.find?_map, Option.map_map]
  have : ((fun kv : L2.Key × V => decide (kv.1 = Sum.inr x)) ∘ ActA.kv) = fun z : ActA => decide (z.r.nm = x) := by
    funext z
    show decide ((Sum.inr z.r.nm : L2.Key) = Sum.inr x) = _
    by_cases h : z.r.nm = x
    · rw [decide_eq_true h, decide_eq_true (by rw [h])]
    · rw [decide_eq_false h, decide_eq_false fun z => h (Sum.inr.inj z)]
  rw [this]
  rfl
theorem find_act (zs : List ActA) (x : Str) : ((zs.map (·.r)).find? fun q => decide (q.nm = x)) = (zs.find? fun z => decide (z.r.nm = x)).map (·.r) := by
  rw [List.find?_map]
  rfl
theorem lk_mem {b : List (Str × Int)} (n : (b.map (·.1)).Nodup) {e : Str × Int} (h : e ∈ b) : lk b e.1 = some e.2 := by
  have h1 := val_row b e.1
  rw [row_val n (x := e.1) (i := e.2) h] at h1
  cases h2 : lk b e.1 with
  | none => rw [h2] at h1; cases h1
  | some j =>
    rw [h2] at h1
    have : V.int e.2 = V.int j := Option.some.inj h1
    rw [V.int.inj this]
theorem outsEq_refl {a : List (Str × Int)} (n : (a.map (·.1)).Nodup) : outsEq a a = true := by
  unfold outsEq
  rw [beq_self_eq_true, Bool.true_and, List.all_eq_true]
  intro e he
  unfold hitO
  rw [lk_mem n he]
  exact beq_self_eq_true _
section
variable {X : Cx} {pins : List (Addr × Obj)} {σ : L2.St} {H : Hp} {s : Shared}
theorem hits_outs {A : Around} {b : List (Str × Int)} {vb : List (L2.Key × Value)} (rb : KV (b.map rowK) vb) : ∀ {a : List (Str × Int)} {va : List (L2.Key × Value)}, KV (a.map rowK) va → HitsW X.prog X.w A s vb va (a.all (hitO b))
  | [], _, .nil => .done
  | e :: a, _, .cons (b := kv) ⟨hk, hv⟩ t => by
    obtain ⟨k, v⟩ := kv
    cases hk
    have ih := hits_outs (A := A) rb t
    have hr := rb.val (Sum.inr e.1)
    rw [val_row] at hr
    rw [List.all_cons]
    obtain ⟨t1, rfl⟩ := (show ∃ t, v = Value.int e.2 t from hv)
    unfold hitO
    cases hl : lk b e.1 with
    | none =>
      rw [hl] at hr
      have hn : valueAt vb (Sum.inr e.1) = none := by
        cases hx : valueAt vb (Sum.inr e.1) with
        | none => rfl
        | some u => rw [hx] at hr; exact hr.elim
      rw [Bool.false_and]
      exact .lacks hn
    | some j =>
      rw [hl] at hr
      obtain ⟨u, hu, ru⟩ := RelO.some_of (v := V.int j) (o := valueAt vb (Sum.inr e.1)) hr
      obtain ⟨t2, rfl⟩ := (show ∃ t, u = Value.int j t from ru)
      exact .meets hu (.of_at (SeqAt.EqAt.int_int _ _ _ _)) ih
theorem rowK_inj {a b : List (Str × Int)} (h : a.map rowK = b.map rowK) : a = b := by
  refine (List.map_inj_right ?_).mp h
  intro e f he
  obtain ⟨x, i⟩ := e
  obtain ⟨y, j⟩ := f
  cases he
  rfl
theorem eqW_outs {A : Around} {p q : Addr} {a b : List (Str × Int)} (I : Inv X pins σ H s) (hp : H p = some (.dK (a.map rowK))) (hq : H q = some (.dK (b.map rowK))) (n : (a.map (·.1)).Nodup) (hu : A.units < cLine) : EqW X.prog X.w A s (.ref p) (.ref q) (outsEq a b) := by
  by_cases e : p = q
  · subst e
    rw [hp] at hq
    have hk : a.map rowK = b.map rowK := by
      have := Option.some.inj hq
      injection this
    cases rowK_inj hk
    rw [outsEq_refl n]
    exact .of_at (SeqAt.EqAt.same _)
  · obtain ⟨_, ya, va, ra, da⟩ := (show ObjOk X.prog X.w H s.heap p (.dK (a.map rowK)) from I.hok p _ hp)
    obtain ⟨_, yb, vb, rb, db⟩ := (show ObjOk X.prog X.w H s.heap q (.dK (b.map rowK)) from I.hok q _ hq)
    have la : va.length = a.length := by rw [← ra.length, List.length_map]
    have lb : vb.length = b.length := by rw [← rb.length, List.length_map]
    refine .of_refs e fun E Q hQ => dictW ya yb da db hu (fun _ => hits_outs rb ra) ?_
    rw [la, lb]
    exact hQ
theorem eqW_act {A : Around} {z y : ActA} (I : Inv X pins σ H s) (hz : SqT X.K H z.a [.int z.r.ar, .ref z.o]) (hy : SqT X.K H y.a [.int y.r.ar, .ref y.o]) (oz : H z.o = some (.dK (z.r.outs.map rowK))) (oy : H y.o = some (.dK (y.r.outs.map rowK)))
    (n : (z.r.outs.map (·.1)).Nodup) (hu : A.units + 1 < cLine) : EqW X.prog X.w A s (.ref z.a) (.ref y.a) (actEq z.r y.r) := by
  by_cases e : z.a = y.a
  · rw [e] at hz
    have he := I.tuple_inj hz hy
    have ho : z.o = y.o := by injection he with _ he; injection he with he _; injection he
    have har : z.r.ar = y.r.ar := by injection he with he _; injection he
    rw [ho, oy] at oz
    have hk : y.r.outs.map rowK = z.r.outs.map rowK := by
      have := Option.some.inj oz
      injection this
    have := rowK_inj hk
    unfold actEq
    rw [har, this, outsEq_refl n, beq_self_eq_true, e]
    exact .of_at (SeqAt.EqAt.same _)
  · obtain ⟨is, ri, ti, _⟩ := I.tuple hz
    obtain ⟨js, rj, tj, _⟩ := I.tuple hy
    obtain ⟨u1, u2, rfl, r1, r2⟩ := vals2 ri
    obtain ⟨v1, v2, rfl, q1, q2⟩ := vals2 rj
    obtain ⟨t1, rfl⟩ := (show ∃ t, u1 = Value.int z.r.ar t from r1)
    obtain ⟨t2, rfl⟩ := (show ∃ t, v1 = Value.int y.r.ar t from q1)
    cases (show u2 = Value.ref z.o from r2)
    cases (show v2 = Value.ref y.o from q2)
    have hin : A.in1.units < cLine := by show A.units + 1 < cLine; exact hu
    refine .of_refs e fun E Q hQ => tupW (e := fun j => if j = 0 then z.r.ar == y.r.ar else outsEq z.r.outs y.r.outs) ti tj (Nat.lt_of_succ_lt hu) (fun j h1 h2 => ?_) ?_
    · match j, h1, h2 with
      | 0, _, _ => exact .of_at (SeqAt.EqAt.int_int _ _ _ _)
      | 1, _, _ => exact eqW_outs I oz oy n hin
    · show Q (.bool (([0, 1] : List Nat).all _ && (2 : Nat) == 2)) s
      have : (([0, 1] : List Nat).all (fun j => if j = 0 then z.r.ar == y.r.ar else outsEq z.r.outs y.r.outs) && (2 : Nat) == 2) = actEq z.r y.r := by
        simp [actEq]
      rw [this]
      exact hQ
theorem hits_acts {A : Around} (I : Inv X pins σ H s) {ys : List ActA} {vb : List (L2.Key × Value)} (rb : KV (ys.map ActA.kv) vb) (hy : ∀ y ∈ ys, SqT X.K H y.a [.int y.r.ar, .ref y.o]) (oy : ∀ y ∈ ys, H y.o = some (.dK (y.r.outs.map rowK))) (hu : A.units + 1 < cLine) :
    ∀ {zs : List ActA} {va : List (L2.Key × Value)}, KV (zs.map ActA.kv) va → (∀ z ∈ zs, SqT X.K H z.a [.int z.r.ar, .ref z.o]) → (∀ z ∈ zs, H z.o = some (.dK (z.r.outs.map rowK))) → (∀ z ∈ zs, (z.r.outs.map (·.1)).Nodup) → HitsW X.prog X.w A s vb va ((zs.map (·.r)).all (hitA (ys.map (·.r))))
  | [], _, .nil, _, _, _ => .done
  | z :: zs, _, .cons (b := kv) ⟨hk, hv⟩ t, h1, h2, h3 => by
    obtain ⟨k, v⟩ := kv
    cases hk
    have ih := hits_acts (A := A) I rb hy oy hu t (fun z hz => h1 z (by simp [hz])) (fun z hz => h2 z (by simp [hz])) (fun z hz => h3 z (by simp [hz]))
    have hr := rb.val (Sum.inr z.r.nm)
    rw [val_act] at hr
    rw [List.map_cons, List.all_cons]
    cases (show v = Value.ref z.a from hv)
    have eh : hitA (ys.map (·.r)) z.r = match (ys.find? fun y => decide (y.r.nm = z.r.nm)) with | some y => actEq z.r y.r | none => false := by
      unfold hitA
      rw [find_act]
      cases ys.find? fun y => decide (y.r.nm = z.r.nm) <;> rfl
    rw [eh]
    cases hl : ys.find? fun y => decide (y.r.nm = z.r.nm) with
    | none =>
      rw [hl] at hr
      have hn : valueAt vb (Sum.inr z.r.nm) = none := by
        cases hx : valueAt vb (Sum.inr z.r.nm) with
        | none => rfl
        | some u => rw [hx] at hr; exact hr.elim
      rw [Bool.false_and]
      exact .lacks hn
    | some y =>
      rw [hl] at hr
      have hym := List.mem_of_find?_eq_some hl
      obtain ⟨u, hu', ru⟩ := RelO.some_of (v := V.ref y.a) (o := valueAt vb (Sum.inr z.r.nm)) hr
      cases (show u = Value.ref y.a from ru)
      exact .meets hu' (eqW_act I (h1 z (by simp)) (hy y hym) (h2 z (by simp)) (oy y hym) (h3 z (by simp)) hu) ih
def rEqA (K : PySem.W.Frag) : R2 := fun x y H Q => ∃ d e zs ys, x = .ref d ∧ y = .ref e ∧ ActsAt K H d zs ∧ ActsAt K H e ys ∧ Q (.bl (rsEq (zs.map (·.r)) (ys.map (·.r)))) H
theorem op_eqA (hu : X.A.units + 64 < cLine) : OpR X (compareOp .Eq) (rEqA X.K) := by
  intro pins s σ H x y v u Q I rx ry h
  obtain ⟨d, e, zs, ys, rfl, rfl, hz, hy, q⟩ := h
  cases (show v = Value.ref d from rx)
  cases (show u = Value.ref e from ry)
  obtain ⟨_, ya, va, ra, da⟩ := (show ObjOk X.prog X.w H s.heap d (.dK (zs.map ActA.kv)) from I.hok d _ hz.at_)
  obtain ⟨_, yb, vb, rb, db⟩ := (show ObjOk X.prog X.w H s.heap e (.dK (ys.map ActA.kv)) from I.hok e _ hy.at_)
  have la : va.length = zs.length := by rw [← ra.length, List.length_map]
  have lb : vb.length = ys.length := by rw [← rb.length, List.length_map]
  have hin : X.A.in1.units + 1 < cLine := by show X.A.units + 1 + 1 < cLine; omega
  refine dictW ya yb da db (by omega) (fun _ => hits_acts I rb hy.tup hy.out hin ra hz.tup hz.out hz.ond) (fin_bl I q ?_)
  rw [la, lb]
  unfold rsEq
  rw [List.length_map, List.length_map]
end
end Fm
/-! != of an instance whose class has an __eq__ of its own alone -/
namespace Fm
open PySem PySem.Spec PyProof.Rows L2 SlX
section
variable {prog : Program} {w : PySem.World} {A : Around} {E : Value → Shared → Prop} {s : Shared} {K : PySem.W.Frag} {x C f : Addr} {ox : Obj} {od : Option Obj} {b tb : Value}
theorem objNe (X : K.In s.heap) (I : PySem.W.InstAt s.heap x ox C od) (he : PySem.W.findIn K (.ref C) "__eq__" = some (some (.ref f))) (hf : PySem.W.isFn K (.ref f) = true) (hu : A.units < cLine) {Q : PySem.Fin → Shared → Prop}
    (hc : wpAny (model prog w) A (call (.ref f) [.ref x, b]) (fun v s' => ∃ k, v = .bool k ∧ Q (.done (.ret (.bool (!k)))) s') E s) : wpAny (model prog w) A (Builtin.«object.__ne__» ⟨[.ref x, b], []⟩) Q E s := by
  unfold Builtin.«object.__ne__»
  repeat (first
    | with_reducible refine wpAny_cRoomFor hu ?_
    | (refine wpAny_bind (m := callSpecialIfBound? (.ref x) (Str.ofString "__eq__") [b]) (PySem.W.ifBound_K X I he hf (wpAny_mono hc (fun r s' hr => by
          obtain ⟨k, rfl, q⟩ := hr
          repeat (first | exact q | exact wpAny_pure q | exact wpAny_truthy_bool q | (refine wpAny_bind (m := truthy (.bool _)) (wpAny_truthy_bool ?_)) | wp_step)) fun _ _ z => z)))
    | wp_step)
theorem ne_own {Q : Value → Shared → Prop} (hu : A.units + 1 < cLine) (X : K.In s.heap) (I : PySem.W.InstAt s.heap x ox C od) (hb : PySem.W.Looks (model prog w) s.heap (typeOf b) tb) (hn : PySem.W.notFirst K C tb = true)
    (hs : PySem.W.findIn K (.ref C) "__ne__" = some (some (.builtin "object.__ne__"))) (hm : PySem.W.mroIn K C (.type "object") = some true) (he : PySem.W.findIn K (.ref C) "__eq__" = some (some (.ref f))) (hf : PySem.W.isFn K (.ref f) = true)
    (h : wpAny (model prog w) A.in1 (call (.ref f) [.ref x, b]) (fun v s' => ∃ k, v = .bool k ∧ Q (.bool (!k)) s') E s) : wpAny (model prog w) A (richCompare .NotEq (.ref x) b) Q E s := by
  have sub : PySem.W.Looks (model prog w) s.heap (isInstance (.ref x) (.type "object")) true := I.type.andThen (PySem.W.looks_mroIn X hm)
  have body : wpAny (model prog w) A (call (.builtin "object.__ne__") [.ref x, b]) (fun v s' => v ≠ .notImplemented ∧ Q v s') E s := by
    refine wpAny_call (codeAny_call_builtin PySem.F.cmp_object.ne.plain PySem.F.cmpEntry_ne (@PySem.W.check_slot (model prog w) _ _ s "object.__ne__" "object" "__ne__" (.ref x) [b] [] _ PySem.F.cmpKind_ne PySem.F.cmpSplit_ne sub (PySem.F.cmpArgs_ne _ _) ?_))
    refine objNe (A := A.in1) X I he hf hu (wpAny_mono h (fun v s' hv => ?_) fun _ _ z => z)
    obtain ⟨k, rfl, q⟩ := hv
    exact ⟨k, rfl, (fun z => nomatch z), q⟩
  have one : wpAny (model prog w) A (tryCompare (.ref x) (cmpInfo .NotEq).2.1 b) (fun r s' => ∃ v, r = some v ∧ Q v s') E s := by
    unfold tryCompare
    refine wpAny_bind ?_
    simp only [callSpecialIfBound?, bindSpecialIfBound?]
    refine wpAny_holding (wpAny_bind (wpAny_bind (wpAny_bind (I.type.here ((PySem.W.looks_findIn X (show PySem.W.findIn K (.ref C) (cmpInfo .NotEq).2.1 = _ from hs)).here ?_)))))
    refine wpAny_bind (wpAny_askSetting (wpAny_ite ?_))
    split
    · rw [PySem.F.cmp_object.ne.bind]
      refine wpAny_bind (wpAny_pure (wpAny_pure ?_))
      show wpAny _ _ (call (.builtin "object.__ne__") [.ref x, b] >>= _) _ _ _
      refine wpAny_bind (wpAny_mono body (fun v s' hv => wpAny_pure ?_) fun _ _ z => z)
      obtain ⟨h1, h2⟩ := hv
      cases v <;> first | exact absurd rfl h1 | exact wpAny_pure ⟨_, rfl, h2⟩
    · rw [PySem.F.cmp_object.ne.bind]
      refine wpAny_tryCatch (wpAny_bind (wpAny_pure (wpAny_pure ?_)))
      show wpAny _ _ (call (.builtin "object.__ne__") [.ref x, b] >>= _) _ _ _
      refine wpAny_bind (wpAny_mono body (fun v s' hv => wpAny_pure ?_) fun _ _ z => z)
      obtain ⟨h1, h2⟩ := hv
      cases v <;> first | exact absurd rfl h1 | exact wpAny_pure ⟨_, rfl, h2⟩
  unfold richCompare
  simp only [oneThing_ref]
  refine wpAny_holding (wpAny_bind (wpAny_cRoomFor (Nat.lt_of_succ_lt hu) (wpAny_bind (I.type.here (wpAny_bind (hb.here ?_))))))
  split
  · rename_i q
    have e : PySem.W.subIn K tb (.ref C) = some false := by
      rcases Bool.or_eq_true_iff.mp hn with e | e
      · rw [beq_iff_eq.mp e] at q
        simp at q
      · exact beq_iff_eq.mp e
    refine wpAny_bind ((PySem.W.looks_subIn X e).here ?_)
    simp only [Bool.false_eq_true, if_false]
    refine wpAny_bind (wpAny_mono one (fun r s' z => ?_) fun _ _ z => z)
    obtain ⟨v, rfl, hq⟩ := z
    exact wpAny_pure hq
  · refine wpAny_bind (wpAny_pure ?_)
    simp only [Bool.false_eq_true, if_false]
    refine wpAny_bind (wpAny_mono one (fun r s' z => ?_) fun _ _ z => z)
    obtain ⟨v, rfl, hq⟩ := z
    exact wpAny_pure hq
end
section
variable {X : Cx} {CX : CXT} {pins : List (Addr × Obj)} {σ : L2.St} {H : Hp} {s : Shared} {C g : Addr} {n : Nat} {sp : Sp} {E : XK}
/-- what may stand at the other side -/
def Oth (K : PySem.W.Frag) (H : Hp) (C : Addr) (y : V) : Prop := (∃ b C' dy ws, y = .ref b ∧ Slt H b C' dy ws ∧ PySem.W.notFirst K C (.ref C') = true) ∨ ∃ tb, TyX K H y tb ∧ PySem.W.notFirst K C tb = true
theorem Oth.looks {y : V} {u : Value} (I : Inv X pins σ H s) (ry : RelV y u) (h : Oth X.K H C y) : ∃ tb, PySem.W.Looks (model X.prog X.w) s.heap (typeOf u) tb ∧ PySem.W.notFirst X.K C tb = true := by
  rcases h with ⟨b, C', dy, ws, rfl, hb, hn⟩ | ⟨tb, ht, hn⟩
  · cases (show u = Value.ref b from ry)
    obtain ⟨sl, od, _, J, _⟩ := slt_inst I hb
    exact ⟨_, J.type, hn⟩
  · obtain ⟨P, kx, hp, _⟩ := kit_of I ry ht
    exact ⟨tb, kx.ty _ _ I.kIn hp, hn⟩
def rOwnG (K : PySem.W.Frag) (C : Addr) (sp : Sp) (E : XK) : R2 := fun x y H Q => ∃ a dx vs, x = .ref a ∧ Slt H a C dx vs ∧ Oth K H C y ∧ sp [x, y] H Q E
theorem op_ownG (hs : PySem.W.findIn X.K (.ref C) "__eq__" = some (some (.ref g))) (hf : PySem.W.isFn X.K (.ref g) = true) (F : FnR X.prog X.w X.K X.mg X.base CX n g sp)
    (hr : Room n X.A) (hx : Passes CX X E) : OpR X (compareOp .Eq) (rOwnG X.K C sp E) := by
  intro pins s σ H x y v u Q I rx ry h
  obtain ⟨a, dx, vs, rfl, ha, ho, q⟩ := h
  cases (show v = Value.ref a from rx)
  obtain ⟨sl, od, _, J, _⟩ := slt_inst I ha
  obtain ⟨tb, L, hn⟩ := ho.looks I ry
  obtain ⟨m, hF⟩ := I.fr
  refine PySem.W.cmp_K (op := .Eq) (tb := tb) hr.units0 hF I.ok.mod.kin J L hn hs hf ?_
  refine wpAny_mono (wpAny_call (run_fnR (us := [.ref a, u]) (vs := [.ref a, y]) F hr hx I (.cons rfl (.cons ry .nil)) q)) (fun w s' z => ?_) fun _ _ x => x
  obtain ⟨z', H', I', rz, qz⟩ := z
  exact cmpback rz ⟨z', H', I', rz, qz⟩
def rNeOwn (K : PySem.W.Frag) (C : Addr) (sp : Sp) (E : XK) : R2 := fun x y H Q => ∃ a dx vs, x = .ref a ∧ Slt H a C dx vs ∧ Oth K H C y ∧ sp [x, y] H (fun z H' => ∃ k, z = .bl k ∧ Q (.bl (!k)) H') E
theorem op_neOwn (hne : PySem.W.findIn X.K (.ref C) "__ne__" = some (some (.builtin "object.__ne__"))) (hm : PySem.W.mroIn X.K C (.type "object") = some true) (hs : PySem.W.findIn X.K (.ref C) "__eq__" = some (some (.ref g))) (hf : PySem.W.isFn X.K (.ref g) = true)
    (F : FnR X.prog X.w X.K X.mg X.base CX n g sp) (hr : Room (n + 1) X.A) (hx : Passes CX X E) : OpR X (compareOp .NotEq) (rNeOwn X.K C sp E) := by
  intro pins s σ H x y v u Q I rx ry h
  obtain ⟨a, dx, vs, rfl, ha, ho, q⟩ := h
  cases (show v = Value.ref a from rx)
  obtain ⟨sl, od, _, J, _⟩ := slt_inst I ha
  obtain ⟨tb, L, hn⟩ := ho.looks I ry
  have hu : X.A.units + 1 < cLine := by have := hr.un; omega
  refine ne_own (tb := tb) hu I.kIn J L hn hne hm hs hf ?_
  refine wpAny_mono (wpAny_call (run_at (us := [.ref a, u]) (ws := [.ref a, y]) F (Room.in1 hr) I.env0.in1 hx I (.cons rfl (.cons ry .nil)) q)) (fun w s' z => ?_) fun _ _ x => x
  obtain ⟨z', H', I', rz, k, ek, qz⟩ := z
  subst ek
  cases (show w = Value.bool k from rz)
  exact ⟨k, rfl, .bl (!k), H', I', rfl, qz⟩
end
end Fm
namespace Fm
open PySem PySem.Spec PyProof.Rows L2 SlX
structure DefAt (K : PySem.W.Frag) (mg : Str → Option Value) (x : Str) (st : Stmt) (ps : List Str) where
  f : Addr
  fd : FuncData
  F : Fun K x x st f fd
  g : mg x = some (.ref f)
  b : Binds K fd ps []
def topS (i : Nat) : Stmt := PySem.Challenge.pw_framemoves_k20_worlds_made.main.body.getD i (.Pass ⟨0, 0, 0, 0⟩)
abbrev s_is_integer : Stmt := topS 7
abbrev N_is_integer : List Str := ["thing"]
abbrev P_is_integer : List Str := ["thing"]
theorem sc_is_integer : FnScope N_is_integer P_is_integer (defScope s_is_integer) := ⟨rfl, rfl, rfl, by decide +kernel, rfl, by decide +kernel, by decide +kernel⟩
abbrev s_is_name : Stmt := topS 8
abbrev N_is_name : List Str := ["thing", "sign"]
abbrev P_is_name : List Str := ["thing"]
theorem sc_is_name : FnScope N_is_name P_is_name (defScope s_is_name) := ⟨rfl, rfl, rfl, by decide +kernel, rfl, by decide +kernel, by decide +kernel⟩
abbrev s_is_outcome : Stmt := topS 9
abbrev N_is_outcome : List Str := ["thing"]
abbrev P_is_outcome : List Str := ["thing"]
theorem sc_is_outcome : FnScope N_is_outcome P_is_outcome (defScope s_is_outcome) := ⟨rfl, rfl, rfl, by decide +kernel, rfl, by decide +kernel, by decide +kernel⟩
abbrev s_is_within : Stmt := topS 14
abbrev N_is_within : List Str := ["thing", "most"]
abbrev P_is_within : List Str := ["thing", "most"]
theorem sc_is_within : FnScope N_is_within P_is_within (defScope s_is_within) := ⟨rfl, rfl, rfl, by decide +kernel, rfl, by decide +kernel, by decide +kernel⟩
abbrev s_are_outcomes : Stmt := topS 15
abbrev N_are_outcomes : List Str := ["thing", "outcome"]
abbrev P_are_outcomes : List Str := ["thing"]
theorem sc_are_outcomes : FnScope N_are_outcomes P_are_outcomes (defScope s_are_outcomes) := ⟨rfl, rfl, rfl, by decide +kernel, rfl, by decide +kernel, by decide +kernel⟩
abbrev s_is_act : Stmt := topS 16
abbrev N_is_act : List Str := ["thing"]
abbrev P_is_act : List Str := ["thing"]
theorem sc_is_act : FnScope N_is_act P_is_act (defScope s_is_act) := ⟨rfl, rfl, rfl, by decide +kernel, rfl, by decide +kernel, by decide +kernel⟩
abbrev s__law_bag : Stmt := topS 19
abbrev N__law_bag : List Str := ["_law_script", "_law_cell"]
abbrev P__law_bag : List Str := ["_law_script"]
theorem sc__law_bag : FnScope N__law_bag P__law_bag (defScope s__law_bag) := ⟨rfl, rfl, rfl, by decide +kernel, rfl, by decide +kernel, by decide +kernel⟩
abbrev s__law_take : Stmt := topS 20
abbrev N__law_take : List Str := ["_law_bag_here", "_law_many", "_law_cell", "_law_mixed_here", "_law_value", "_law_begin", "_law_second"]
abbrev P__law_take : List Str := ["_law_bag_here", "_law_many"]
theorem sc__law_take : FnScope N__law_take P__law_take (defScope s__law_take) := ⟨rfl, rfl, rfl, by decide +kernel, rfl, by decide +kernel, by decide +kernel⟩
abbrev s__law_alike : Stmt := topS 21
abbrev N__law_alike : List Str := ["_law_found", "_law_due"]
abbrev P__law_alike : List Str := ["_law_found", "_law_due"]
theorem sc__law_alike : FnScope N__law_alike P__law_alike (defScope s__law_alike) := ⟨rfl, rfl, rfl, by decide +kernel, rfl, by decide +kernel, by decide +kernel⟩
abbrev s__law_mixed : Stmt := topS 22
abbrev N__law_mixed : List Str := ["_law_bag_here", "_law_things", "_law_found", "_law_thing"]
abbrev P__law_mixed : List Str := ["_law_bag_here", "_law_things"]
theorem sc__law_mixed : FnScope N__law_mixed P__law_mixed (defScope s__law_mixed) := ⟨rfl, rfl, rfl, by decide +kernel, rfl, by decide +kernel, by decide +kernel⟩
abbrev s__law_names : Stmt := topS 23
abbrev N__law_names : List Str := ["_law_bag_here", "_law_many", "_law_letters", "_law_words", "_law_way", "_law_turn", "_law_base", "_law_at", "_law_k"]
abbrev P__law_names : List Str := ["_law_bag_here", "_law_many"]
theorem sc__law_names : FnScope N__law_names P__law_names (defScope s__law_names) := ⟨rfl, rfl, rfl, by decide +kernel, rfl, by decide +kernel, by decide +kernel⟩
abbrev s__law_acts : Stmt := topS 24
abbrev N__law_acts : List Str := ["_law_bag_here", "_law_many", "_law_names_here", "_law_words", "_law_acts_here", "_law_name", "_law_outcomes", "_law_word"]
abbrev P__law_acts : List Str := ["_law_bag_here", "_law_many"]
theorem sc__law_acts : FnScope N__law_acts P__law_acts (defScope s__law_acts) := ⟨rfl, rfl, rfl, by decide +kernel, rfl, by decide +kernel, by decide +kernel⟩
abbrev s__law_world_of : Stmt := topS 25
abbrev N__law_world_of : List Str := ["_law_bag_here", "_law_acts_here", "_law_rows", "_law_name"]
abbrev P__law_world_of : List Str := ["_law_bag_here", "_law_acts_here"]
theorem sc__law_world_of : FnScope N__law_world_of P__law_world_of (defScope s__law_world_of) := ⟨rfl, rfl, rfl, by decide +kernel, rfl, by decide +kernel, by decide +kernel⟩
abbrev s__law_more : Stmt := topS 26
abbrev N__law_more : List Str := ["_law_bag_here", "_law_acts_here", "_law_found", "_law_act", "_law_outcome"]
abbrev P__law_more : List Str := ["_law_bag_here", "_law_acts_here"]
theorem sc__law_more : FnScope N__law_more P__law_more (defScope s__law_more) := ⟨rfl, rfl, rfl, by decide +kernel, rfl, by decide +kernel, by decide +kernel⟩
abbrev s__law_fourth : Stmt := topS 27
abbrev N__law_fourth : List Str := ["_law_bag_here", "_law_acts_here", "_law_found", "_law_names_here", "_law_one"]
abbrev P__law_fourth : List Str := ["_law_bag_here", "_law_acts_here"]
theorem sc__law_fourth : FnScope N__law_fourth P__law_fourth (defScope s__law_fourth) := ⟨rfl, rfl, rfl, by decide +kernel, rfl, by decide +kernel, by decide +kernel⟩
abbrev s__law_near : Stmt := topS 28
abbrev N__law_near : List Str := ["_law_bag_here", "_law_acts_here", "_law_found", "_law_way", "_law_act", "_law_outcome", "_law_one"]
abbrev P__law_near : List Str := ["_law_bag_here", "_law_acts_here"]
theorem sc__law_near : FnScope N__law_near P__law_near (defScope s__law_near) := ⟨rfl, rfl, rfl, by decide +kernel, rfl, by decide +kernel, by decide +kernel⟩
abbrev s__law_right : Stmt := topS 29
abbrev N__law_right : List Str := ["_law_world", "_law_acts_here", "_law_found", "_law_act", "_law_told", "_law_one"]
abbrev P__law_right : List Str := ["_law_world", "_law_acts_here"]
theorem sc__law_right : FnScope N__law_right P__law_right (defScope s__law_right) := ⟨rfl, rfl, rfl, by decide +kernel, rfl, by decide +kernel, by decide +kernel⟩
abbrev s_law : Stmt := topS 30
abbrev N_law : List Str := ["_law_script", "_law_bag_here", "_law_turn", "_law_acts_here", "_law_sides", "_law_worlds", "_law_side", "_law_handed", "_law_act", "_law_at", "_law_due", "_law_again", "_law_truths", "_law_other"]
abbrev P_law : List Str := ["_law_script"]
theorem sc_law : FnScope N_law P_law (defScope s_law) := ⟨rfl, rfl, rfl, by decide +kernel, rfl, by decide +kernel, by decide +kernel⟩
abbrev s_World___init__ : Stmt := inClass (topS 17) 1
abbrev N_World___init__ : List Str := ["self", "acts", "name"]
abbrev P_World___init__ : List Str := ["self", "acts"]
theorem sc_World___init__ : FnScope N_World___init__ P_World___init__ (defScope s_World___init__) := ⟨rfl, rfl, rfl, by decide +kernel, rfl, by decide +kernel, by decide +kernel⟩
abbrev s_World_acts : Stmt := inClass (topS 17) 2
abbrev N_World_acts : List Str := ["self"]
abbrev P_World_acts : List Str := ["self"]
theorem sc_World_acts : FnScope N_World_acts P_World_acts (defScope s_World_acts) := ⟨rfl, rfl, rfl, by decide +kernel, rfl, by decide +kernel, by decide +kernel⟩
abbrev s_World_arguments : Stmt := inClass (topS 17) 3
abbrev N_World_arguments : List Str := ["self", "act"]
abbrev P_World_arguments : List Str := ["self", "act"]
theorem sc_World_arguments : FnScope N_World_arguments P_World_arguments (defScope s_World_arguments) := ⟨rfl, rfl, rfl, by decide +kernel, rfl, by decide +kernel, by decide +kernel⟩
abbrev s_World_outcomes : Stmt := inClass (topS 17) 4
abbrev N_World_outcomes : List Str := ["self", "act"]
abbrev P_World_outcomes : List Str := ["self", "act"]
theorem sc_World_outcomes : FnScope N_World_outcomes P_World_outcomes (defScope s_World_outcomes) := ⟨rfl, rfl, rfl, by decide +kernel, rfl, by decide +kernel, by decide +kernel⟩
abbrev s_World_brings : Stmt := inClass (topS 17) 5
abbrev N_World_brings : List Str := ["self", "act", "outcome"]
abbrev P_World_brings : List Str := ["self", "act", "outcome"]
theorem sc_World_brings : FnScope N_World_brings P_World_brings (defScope s_World_brings) := ⟨rfl, rfl, rfl, by decide +kernel, rfl, by decide +kernel, by decide +kernel⟩
abbrev s_World___eq__ : Stmt := inClass (topS 17) 6
abbrev N_World___eq__ : List Str := ["self", "other"]
abbrev P_World___eq__ : List Str := ["self", "other"]
theorem sc_World___eq__ : FnScope N_World___eq__ P_World___eq__ (defScope s_World___eq__) := ⟨rfl, rfl, rfl, by decide +kernel, rfl, by decide +kernel, by decide +kernel⟩
structure TX (K : PySem.W.Frag) (mg : Str → Option Value) where
  d_is_integer : DefAt K mg "is_integer" s_is_integer P_is_integer
  d_is_name : DefAt K mg "is_name" s_is_name P_is_name
  d_is_outcome : DefAt K mg "is_outcome" s_is_outcome P_is_outcome
  d_is_within : DefAt K mg "is_within" s_is_within P_is_within
  d_are_outcomes : DefAt K mg "are_outcomes" s_are_outcomes P_are_outcomes
  d_is_act : DefAt K mg "is_act" s_is_act P_is_act
  d__law_bag : DefAt K mg "_law_bag" s__law_bag P__law_bag
  d__law_take : DefAt K mg "_law_take" s__law_take P__law_take
  d__law_alike : DefAt K mg "_law_alike" s__law_alike P__law_alike
  d__law_mixed : DefAt K mg "_law_mixed" s__law_mixed P__law_mixed
  d__law_names : DefAt K mg "_law_names" s__law_names P__law_names
  d__law_acts : DefAt K mg "_law_acts" s__law_acts P__law_acts
  d__law_world_of : DefAt K mg "_law_world_of" s__law_world_of P__law_world_of
  d__law_more : DefAt K mg "_law_more" s__law_more P__law_more
  d__law_fourth : DefAt K mg "_law_fourth" s__law_fourth P__law_fourth
  d__law_near : DefAt K mg "_law_near" s__law_near P__law_near
  d__law_right : DefAt K mg "_law_right" s__law_right P__law_right
  d_law : DefAt K mg "law" s_law P_law
  C_World : Addr
  g_World : mg "World" = some (.ref C_World)
  k_World : PySem.W.keepIn K (.ref C_World) = true
  c_World : SCls K C_World
  mk_World : PySem.W.makesIn K C_World = true
  is_World : SIsi K C_World
  ne_World : PySem.W.findIn K (.ref C_World) "__ne__" = some (some (.builtin "object.__ne__"))
  ty_World : PySem.W.typeIn K (.ref C_World) = some (.type "type")
  p_World_its_acts : Addr
  sl_World_its_acts : Slot1 K C_World "its_acts" p_World_its_acts 0
  d_World___init__ : MethAt K C_World "__init__" "World.__init__" s_World___init__ P_World___init__
  d_World_acts : MethAt K C_World "acts" "World.acts" s_World_acts P_World_acts
  d_World_arguments : MethAt K C_World "arguments" "World.arguments" s_World_arguments P_World_arguments
  d_World_outcomes : MethAt K C_World "outcomes" "World.outcomes" s_World_outcomes P_World_outcomes
  d_World_brings : MethAt K C_World "brings" "World.brings" s_World_brings P_World_brings
  d_World___eq__ : MethAt K C_World "__eq__" "World.__eq__" s_World___eq__ P_World___eq__
  b_ValueError : mg "ValueError" = none
  b_abs : mg "abs" = none
  b_all : mg "all" = none
  b_bool : mg "bool" = none
  b_dict : mg "dict" = none
  b_int : mg "int" = none
  b_isinstance : mg "isinstance" = none
  b_len : mg "len" = none
  b_list : mg "list" = none
  b_min : mg "min" = none
  b_range : mg "range" = none
  b_repr : mg "repr" = none
  b_sorted : mg "sorted" = none
  b_str : mg "str" = none
  b_tuple : mg "tuple" = none
  v_LETTERS : Value
  c_LETTERS : mg "LETTERS" = some v_LETTERS
  r_LETTERS : RelV (.str "abcdefghijklmnopqrstuvwxyz") v_LETTERS
  v_MOST_LETTERS : Value
  c_MOST_LETTERS : mg "MOST_LETTERS" = some v_MOST_LETTERS
  r_MOST_LETTERS : RelV (.int 8) v_MOST_LETTERS
  v_MOST_ARGUMENTS : Value
  c_MOST_ARGUMENTS : mg "MOST_ARGUMENTS" = some v_MOST_ARGUMENTS
  r_MOST_ARGUMENTS : RelV (.int 2) v_MOST_ARGUMENTS
  v_MOST_OUTCOMES : Value
  c_MOST_OUTCOMES : mg "MOST_OUTCOMES" = some v_MOST_OUTCOMES
  r_MOST_OUTCOMES : RelV (.int 6) v_MOST_OUTCOMES
  v_MOST_BROUGHT : Value
  c_MOST_BROUGHT : mg "MOST_BROUGHT" = some v_MOST_BROUGHT
  r_MOST_BROUGHT : RelV (.int 2) v_MOST_BROUGHT
structure TY (P : Program) (K : PySem.W.Frag) (mg : Str → Option Value) where
  C_MoveError : Addr
  x_MoveError : ExN K mg "MoveError" C_MoveError
  C_Wrong : Addr
  x_Wrong : ExT P K mg "Wrong" "place" C_Wrong
  C_BadAct : Addr
  x_BadAct : ExT P K mg "BadAct" "name" C_BadAct
end Fm
namespace Fm
open PySem PySem.Spec PyProof.Rows L2
section
variable {P : Program} {w : World} {K : PySem.W.Frag} {mg : Str → Option Value} {base : Heap}
def sp_bag (K : PySem.W.Frag) : Sp := fun vs H Q _ => ∃ (a : Addr) (ns : List Int), vs = [.ref a] ∧ SqL K H a (ns.map V.int) ∧ ns.length ≤ 63 ∧ ∀ H' p, Mv [] H H' → H p = none → Bag H' p → Q (.ref p) H'
theorem cut63 (xs : List V) (h : xs.length ≤ 63) : cutV xs none (some 63) = xs := by
  unfold cutV
  rw [HT.sIx_none, show HT.sIx xs.length xs.length (some 63) = min 63 xs.length from HT.sIx_nat xs.length xs.length 63, List.drop_zero, List.take_of_length_le (by omega)]
theorem ok__law_bag (T : TX K mg) {k : Nat} : FnOk P w K mg base CX0 (k + 1) T.d__law_bag.f T.d__law_bag.fd P__law_bag (sp_bag K) := by
  refine T.d__law_bag.F.ok sc__law_bag (fun vs H Q E h => ?_) (fun cdv A outer s H vs Q E hr h => ?_)
  · obtain ⟨a, ns, rfl, _⟩ := h
    rfl
  · obtain ⟨a, ns, rfl, hS, hl, q⟩ := h
    refine ⟨_, (pss_one (ps_ret (pe_lst (pa_cons pe_int (pa_cons pe_int (pa_cons pe_int (pa_cons (pe_lc (own := [("_law_cell", 1)]) (g := gName 1) (by rfl) sc__law_bag.nd (pi_seq (pe_slice (r := rSlG K) sl_G (pv 0) po_none (po_some pe_int))) (blkOk_by (own := [("_law_cell", 1)]) (N := N__law_bag) (sc := defScope s__law_bag) (by decide +kernel)) (fun _ _ _ _ _ => pg_name (i := 1) sc__law_bag.nd rfl (Or.inl rfl)) (fun _ _ _ _ _ => pts_nil) (fun _ _ _ _ _ => (pe_callB call_abs (by rfl) T.b_abs bt_abs (pa_cons (pv 1) pa_nil)))) pa_nil))))))), ?_⟩
    refine ⟨.ref a, rfl, 63, rfl, Or.inl ⟨a, _, rfl, hS, fun c nc => ⟨c, rfl, Or.inl ⟨⟨_, .inl (.inl upd_same)⟩, fun D nD => ?_⟩⟩⟩⟩
    have hlen : (ns.map V.int).length ≤ 63 := by rw [List.length_map]; exact hl
    rw [cut63 _ hlen] at nD ⊢
    refine lc_list (K := K) (a := c) (xs := ns.map V.int) (fun i H3 => ∃ ms : List Int, H3 c = some (.lst (ns.map V.int)) ∧ H3 D = some (.lst (ms.map V.int)) ∧ ms.length = i ∧ (∀ n ∈ ms, 0 ≤ n) ∧ Mv [] H H3)
      ⟨[], ?_, upd_same, rfl, by simp, ?_⟩ (fun i H3 _ h3 => ?_) (fun i x H3 hx h3 => ?_) (fun H3 h3 => ?_)
    · rw [upd_ne (ne_of_none upd_same nD), upd_same]
    · exact (Mv.new nc).trans (.new nD)
    · obtain ⟨ms, h1, _⟩ := h3
      exact .inl (.inl h1)
    · obtain ⟨ms, h1, h2, h4, h5, h6⟩ := h3
      obtain ⟨n, hn, rfl⟩ : ∃ n ∈ ns, x = .int n := by
        have := List.mem_of_getElem? hx
        obtain ⟨n, hn, e⟩ := List.mem_map.mp this
        exact ⟨n, hn, e.symm⟩
      have hDc : c ≠ D := ne_of_none upd_same nD
      refine ⟨rfl, .int n, rfl, n, rfl, _, h2, ?_, ms ++ [if n < 0 then -n else n], ?_, ?_, ?_, ?_, ?_⟩
      · rw [List.length_map]
        have := (List.getElem?_eq_some_iff.mp hx).1
        rw [List.length_map] at this
        exact small1000 (by omega)
      · rw [upd_ne hDc]
        exact h1
      · rw [upd_same, List.map_append]
        rfl
      · simp [h4]
      · intro z hz
        rcases List.mem_append.mp hz with hz | hz
        · exact h5 z hz
        · rw [List.mem_singleton.mp hz]
          split <;> omega
      · exact h6.wr ((Mv.new nc).free nD)
    · obtain ⟨ms, h1, h2, h4, h5, h6⟩ := h3
      refine ⟨(by decide : 4 ≤ sizeLine), fun p np => q _ p (h6.trans (.new np)) (h6.free np) ⟨D, 0, 1234567891, 0, ms, upd_same, ?_, ?_, h5, by decide, by decide, by decide⟩⟩
      · rw [upd_ne (ne_of_none h2 np)]
        exact h2
      · rw [h4, List.length_map]
        exact hl

/-- a number from 0 to n - 1 is drawn -/
def sp_take : Sp := fun vs H Q _ => ∃ (b : Addr) (n : Int), vs = [.ref b, .int n] ∧ Bag H b ∧ 0 < n ∧ n ≤ 1000000 ∧ ∀ (i : Int) H', 0 ≤ i → i < n → Dr b H H' → Q (.int i) H'
theorem Bag.set {H : Hp} {b c : Addr} {ns : List Int} {s m k : Int} {xs : List V} (hb : H b = some (.lst xs)) (hc : H c = some (.lst (ns.map V.int))) (hcb : c ≠ b)
    (hl : ns.length ≤ 63) (hn : ∀ n ∈ ns, 0 ≤ n) (h1 : 0 ≤ s) (h2 : 0 ≤ k) (h3 : 0 ≤ m) : BagC (upd H b (.lst [.int s, .int m, .int k, .ref c])) b c :=
  ⟨s, m, k, ns, upd_same, by rw [upd_ne hcb]; exact hc, hl, hn, h1, h2, h3⟩
theorem rd_set {p : Addr} {xs ys : List V} {k : Int} {j : Nat} {v : V} {H : Hp} {Q : Hp → Prop} (hp : H p = some (.lst xs)) (hj : ixN xs.length k = some j) (hy : xs.set j v = ys)
    (h : ∀ H', H' p = some (.lst ys) → Mv [p] H H' → (∀ a, a ≠ p → H' a = H a) → Q H') : rSetL (.ref p) (.int k) v H Q := by
  refine ⟨p, xs, k, j, rfl, rfl, hp, hj, ?_⟩
  rw [hy]
  exact h _ upd_same (.set hp (by simp)) fun a ha => upd_ne ha
theorem ok__law_take (T : TX K mg) {k : Nat} : FnOk P w K mg base CX0 (k + 1) T.d__law_take.f T.d__law_take.fd P__law_take sp_take := by
  refine T.d__law_take.F.ok sc__law_take (fun vs H Q E h => ?_) (fun cdv A outer s H vs Q E hr h => ?_)
  · obtain ⟨a, ns, rfl, _⟩ := h
    rfl
  · obtain ⟨b, n, rfl, hB, h0, h1, q⟩ := h
    have hu64 := hr.units
    refine ⟨_, (Evl.pss_cut (ps_if (pt_cmpR (r := rEqG K) (op_eqG hu64) (pe_ix (r := rIx K) ix_seq (pv 0) pe_int (fun _ _ => rfl)) pe_int (nomark _)) (pss_cons (ps_set (i := 2) sc__law_take.nd rfl (Or.inl rfl) pe_int) (Evl.pss_cut (ps_if (pt_cmpR op_lt (pe_ix (r := rIx K) ix_seq (pv 0) pe_int (fun _ _ => rfl)) (pe_callB (r := rLenG K) call_lenG (by rfl) T.b_len bt_len (pa_cons (pe_ix (r := rIx K) ix_seq (pv 0) pe_int (fun _ _ => rfl)) pa_nil)) (nomark _)) (pss_one (ps_set (i := 2) sc__law_take.nd rfl (Or.inl rfl) (pe_ix (r := rIx K) ix_seq (pe_ix (r := rIx K) ix_seq (pv 0) pe_int (fun _ _ => rfl)) (pe_ix (r := rIx K) ix_seq (pv 0) pe_int (fun _ _ => rfl)) (fun _ _ => rfl)))) pss_nil) (pss_cons (ps_augS (pv 0) pe_int get_G pe_int ip_add set_list) (Evl.pss_cut (ps_if (pt_cmpR op_ge (pv 2) pe_int (nomark _)) (pss_one (ps_asg (pv 2) (pg_sub (pv 0) pe_int set_list))) pss_nil) (pss_cons (ps_set (i := 3) sc__law_take.nd rfl (Or.inl rfl) (pe_op (r := rAddG K) op_addG (pe_op (r := rAddG K) op_addG (pe_op op_mulG (pe_ix (r := rIx K) ix_seq (pv 0) pe_int (fun _ _ => rfl)) pe_int) (pe_op op_mod (pe_callTy call_int1 (by rfl) T.b_int bt_int (pa_cons (pv 2) pa_nil)) pe_int)) (pe_op op_mulG pe_int (pe_ix (r := rIx K) ix_seq (pv 0) pe_int (fun _ _ => rfl))))) (pss_one (ps_asg (pe_op op_mod (pe_callTy call_int1 (by rfl) T.b_int bt_int (pa_cons (pv 3) pa_nil)) pe_int) (pg_sub (pv 0) pe_int set_list)))))))) pss_nil) (pss_cons (ps_if (pt_cmpR op_gt (pe_ix (r := rIx K) ix_seq (pv 0) pe_int (fun _ _ => rfl)) pe_int (nomark _)) (pss_cons (ps_set (i := 4) sc__law_take.nd rfl (Or.inl rfl) (pe_op op_mod (pe_callTy call_int1 (by rfl) T.b_int bt_int (pa_cons (pe_ix (r := rIx K) ix_seq (pv 0) pe_int (fun _ _ => rfl)) pa_nil)) (pv 1))) (pss_cons (ps_asg (pe_op op_fdivW (pe_ix (r := rIx K) ix_seq (pv 0) pe_int (fun _ _ => rfl)) (pv 1)) (pg_sub (pv 0) pe_int set_list)) (pss_one (ps_ret (pv 4))))) pss_nil) (pss_cons (ps_set (i := 5) sc__law_take.nd rfl (Or.inl rfl) (pe_op op_mod (pe_callTy call_int1 (by rfl) T.b_int bt_int (pa_cons (pe_op op_mulG (pe_op (r := rAddG K) op_addG (pe_ix (r := rIx K) ix_seq (pv 0) pe_int (fun _ _ => rfl)) pe_int) pe_int) pa_nil)) pe_int)) (pss_cons (ps_set (i := 6) sc__law_take.nd rfl (Or.inl rfl) (pe_op op_mod (pe_callTy call_int1 (by rfl) T.b_int bt_int (pa_cons (pe_op op_mulG (pe_op op_mod (pe_callTy call_int1 (by rfl) T.b_int bt_int (pa_cons (pe_op op_mulG (pv 5) (pv 5)) pa_nil)) pe_int) pe_int) pa_nil)) pe_int)) (pss_cons (ps_if (pt_cmpR op_gt (pv 1) pe_int (nomark _)) (pss_one (ps_ret (pe_op op_mod (pe_callTy call_int1 (by rfl) T.b_int bt_int (pa_cons (pe_op (r := rAddG K) op_addG (pe_op op_mulG (pv 6) pe_int) (pv 5)) pa_nil)) (pv 1)))) pss_nil) (pss_one (ps_ret (pe_op op_mod (pe_callTy call_int1 (by rfl) T.b_int bt_int (pa_cons (pe_op op_fdivW (pv 6) pe_int) pa_nil)) (pv 1))))))))), ?_⟩
    obtain ⟨c, hB⟩ := hB
    have hBC := hB
    obtain ⟨z, m, j, ns, eb, ec, hl, hn, hz, hj, hm⟩ := hB
    have hcb : c ≠ b := Bag.ne (xs := [.int z, .int m, .int j]) eb ec
    have sq : ∀ {H : Hp} {xs : List V}, H b = some (.lst xs) → SqL K H b xs := fun h => .inl (.inl h)
    -- behind the first if
    refine ⟨fun σ H1 => ∃ y2 y3 y4 y5 y6, σ = [some (.ref b), some (.int n), y2, y3, y4, y5, y6] ∧ Dr b H H1 ∧ BagC H1 b c, ?_, fun σ H1 hM => ?_⟩
    · refine ⟨.ref b, rfl, Or.inl ⟨b, _, 0, .int z, rfl, rfl, sq eb, rfl, Or.inl ⟨rfl, _, rfl, ite2 (fun e => ?_) (fun e => ?_)⟩⟩⟩
      · -- cell = 0; the next cell
        refine ⟨fun σ H1 => ∃ x : Int, 0 ≤ x ∧ σ = [some (.ref b), some (.int n), some (.int x), none, none, none, none] ∧ H1 = H, ?_, fun σ H1 hM => ?_⟩
        · refine ⟨.ref b, rfl, Or.inl ⟨b, _, 2, .int j, rfl, rfl, sq eb, rfl, .ref b, rfl, Or.inl ⟨b, _, 3, .ref c, rfl, rfl, sq eb, rfl, Or.inl ⟨c, _, rfl, .inl (.inl (.inl ec)), j, _, rfl, rfl, _, rfl, ite2 (fun e => ?_) (fun e => ?_)⟩⟩⟩⟩
          · have e' : j < (ns.map V.int).length := of_decide_eq_true e
            obtain ⟨i, rfl⟩ := Int.eq_ofNat_of_zero_le hj
            have hi : i < ns.length := by
              rw [List.length_map] at e'
              omega
            have gi : (ns.map V.int)[i]? = some (.int ns[i]) := by
              rw [List.getElem?_map, List.getElem?_eq_getElem hi]
              rfl
            refine ⟨.ref b, rfl, Or.inl ⟨b, _, 3, .ref c, rfl, rfl, sq eb, rfl, .ref b, rfl, Or.inl ⟨b, _, 2, .int (i : Int), rfl, rfl, sq eb, rfl, Or.inl ⟨c, _, _, .int ns[i], rfl, rfl, .inl (.inl ec), atI_nat gi, ?_⟩⟩⟩⟩
            exact ⟨ns[i], hn _ (List.getElem_mem hi), rfl, rfl⟩
          · exact ⟨0, Int.le_refl _, rfl, rfl⟩
        · obtain ⟨x, hx, rfl, rfl⟩ := hM
          -- bag[2] += 1
          refine ⟨.ref b, rfl, b, _, 2, .int j, rfl, rfl, sq eb, rfl, j, 1, rfl, rfl, rd_set eb rfl rfl fun H2 eb2 m1 k1 => ?_⟩
          have ec2 : H2 c = some (.lst (ns.map V.int)) := by rw [k1 c hcb]; exact ec
          -- a great cell is kept
          refine ⟨fun σ H3 => ∃ z' : Int, 0 ≤ z' ∧ σ = [some (.ref b), some (.int n), some (.int x), none, none, none, none] ∧ H3 b = some (.lst [.int z', .int m, .int (j + 1), .ref c]) ∧ H3 c = some (.lst (ns.map V.int)) ∧ Mv [b] H2 H3, ?_, fun σ H3 hM => ?_⟩
          · refine ⟨.int x, rfl, x, _, rfl, rfl, _, rfl, ite2 (fun e => ?_) (fun e => ?_)⟩
            · refine ⟨.int x, rfl, .ref b, rfl, b, _, 0, 0, rfl, rfl, eb2, rfl, x, hx, rfl, upd_same, ?_, .set eb2 (by simp)⟩
              rw [upd_ne hcb]
              exact ec2
            · exact ⟨z, hz, rfl, eb2, ec2, .refl⟩
          · obtain ⟨z', hz', rfl, eb3, ec3, m3⟩ := hM
            refine ⟨.ref b, rfl, Or.inl ⟨b, _, 1, .int m, rfl, rfl, sq eb3, rfl, Or.inl ⟨m, 48271, rfl, rfl, .inr ⟨by decide, by decide⟩, .int x, rfl, Or.inl ⟨x, rfl, x, _, rfl, rfl, (by decide : (0 : Int) < _), ?_⟩⟩⟩⟩
            refine Or.inl ⟨_, _, rfl, rfl, .ref b, rfl, Or.inl ⟨b, _, 2, .int (j + 1), rfl, rfl, sq eb3, rfl, Or.inl ⟨7919, j + 1, rfl, rfl, .inl ⟨by decide, by decide⟩, Or.inl ⟨_, _, rfl, rfl, ?_⟩⟩⟩⟩
            refine ⟨_, rfl, Or.inl ⟨_, rfl, _, _, rfl, rfl, (by decide : (0 : Int) < _), .ref b, rfl, b, _, 1, 1, rfl, rfl, eb3, rfl, _, _, _, _, _, rfl, ?_, ?_⟩⟩
            · exact .mkc ((m1.trans m3).trans (.set eb3 (by simp))) hBC (Bag.set eb3 ec3 hcb hl hn hz' (by omega) (Int.emod_nonneg _ (by decide)))
            · exact Bag.set eb3 ec3 hcb hl hn hz' (by omega) (Int.emod_nonneg _ (by decide))
      · exact ⟨_, _, _, _, _, rfl, .refl, z, m, j, ns, eb, ec, hl, hn, hz, hj, hm⟩
    · obtain ⟨y2, y3, y4, y5, y6, rfl, hD, hB⟩ := hM
      have hBC1 := hB
      obtain ⟨z, m, j, ns, eb, ec, hl, hn, hz, hj, hm⟩ := hB
      have hcb : c ≠ b := Bag.ne (xs := [.int z, .int m, .int j]) eb ec
      refine ⟨.ref b, rfl, Or.inl ⟨b, _, 0, .int z, rfl, rfl, sq eb, rfl, z, 0, rfl, rfl, _, rfl, ite2 (fun e => ?_) (fun e => ?_)⟩⟩
      · -- value = int(bag[0]) % many; bag[0] = bag[0] // many; return value
        refine ⟨.ref b, rfl, Or.inl ⟨b, _, 0, .int z, rfl, rfl, sq eb, rfl, Or.inl ⟨z, rfl, .int n, rfl, z, n, rfl, rfl, h0, ?_⟩⟩⟩
        refine ⟨.ref b, rfl, Or.inl ⟨b, _, 0, .int z, rfl, rfl, sq eb, rfl, .int n, rfl, z, n, rfl, rfl, ?_, ?_⟩⟩
        · exact wide_div (b := 64) h0 (by omega) (by decide) (by decide)
        · refine ⟨.ref b, rfl, b, _, 0, 0, rfl, rfl, eb, rfl, ?_⟩
          refine ⟨.int (z % n), rfl, q _ _ (Int.emod_nonneg z (by omega)) (Int.emod_lt_of_pos z h0) (hD.trans (.mkc (.set eb (by simp)) hBC1 ?_))⟩
          exact Bag.set eb ec hcb hl hn (Int.ediv_nonneg hz (by omega)) hj hm
      · refine ⟨.ref b, rfl, Or.inl ⟨b, _, 1, .int m, rfl, rfl, sq eb, rfl, Or.inl ⟨m, 1, rfl, rfl, Or.inl ⟨_, _, rfl, rfl, .inr ⟨by decide, by decide⟩, Or.inl ⟨_, rfl, _, _, rfl, rfl, (by decide : (0 : Int) < _), ?_⟩⟩⟩⟩⟩
        have hx0 : 0 ≤ (m + 1) * 39373 % 1000000007 := Int.emod_nonneg _ (by decide)
        have hx1 : (m + 1) * 39373 % 1000000007 < 1000000007 := Int.emod_lt_of_pos _ (by decide)
        refine ⟨_, rfl, _, rfl, Or.inl ⟨(m + 1) * 39373 % 1000000007, (m + 1) * 39373 % 1000000007, rfl, rfl, .inl ⟨by omega, by omega⟩, Or.inl ⟨_, rfl, _, _, rfl, rfl, (by decide : (0 : Int) < _), Or.inl ⟨_, _, rfl, rfl, .inr ⟨by decide, by decide⟩, Or.inl ⟨_, rfl, _, _, rfl, rfl, (by decide : (0 : Int) < _), ?_⟩⟩⟩⟩⟩
        refine ⟨.int n, rfl, n, _, rfl, rfl, _, rfl, ite2 (fun e => ?_) (fun e => ?_)⟩
        · exact absurd (of_decide_eq_true e) (by omega)
        · refine ⟨_, rfl, _, 7, rfl, rfl, ⟨by decide, by decide⟩, Or.inl ⟨_, rfl, .int n, rfl, _, n, rfl, rfl, h0, ?_⟩⟩
          exact q _ _ (Int.emod_nonneg _ (by omega)) (Int.emod_lt_of_pos _ h0) hD
end
end Fm
namespace Fm
open PySem PySem.Spec PyProof.Rows L2
/-- a new list of names -/
def sp_names : Sp := fun vs H Q _ => ∃ (b : Addr) (n : Nat), vs = [.ref b, .int n] ∧ Bag H b ∧ 0 < n ∧ n ≤ 12 ∧
  ∀ (p : Addr) (xs : List Str) H', xs.length = n → (∀ x ∈ xs, Nm x) → H p = none → H' p = some (.lst (xs.map V.str)) → Dr b H H' → Q (.ref p) H'
theorem rd_split {X : Cx} {a b : Str} {H : Hp} {Q : VK} (P : List Str → Bool) (hP : P (Txt.split a b) = true)
    (h : ∀ p ws H', P ws = true → H p = none → H' p = some (.lst (ws.map V.str)) → Mv [] H H' → Q (.ref p) H') : rNewStrs (Txt.split a b) H Q :=
  fun p np => h p _ _ hP np upd_same (.new np)
theorem str_len_append (x y : Str) : (x ++ y).length = x.length + y.length := by first | exact strLen_append x y | (show (x.cps ++ y.cps).size = _; simp [Str.length])
theorem str_cps_append (x y : Str) : (x ++ y).cps.toList = x.cps.toList ++ y.cps.toList := by
  show (x.cps ++ y.cps).toList = _
  simp
theorem join_chars : ∀ l : List Nat, Txt.join "" (l.map fun c => (⟨#[c]⟩ : Str)) = ⟨l.toArray⟩
  | [] => by decide +kernel
  | [c] => by
    show Builtin.Str.glued _ _ = _
    rw [StrLaws.glued_eq_join]
    rfl
  | c :: d :: l => by
    have ih := join_chars (d :: l)
    show Builtin.Str.glued _ _ = _
    have ih' : Builtin.Str.glued "" ((d :: l).map fun c => (⟨#[c]⟩ : Str)) = ⟨(d :: l).toArray⟩ := ih
    rw [StrLaws.glued_eq_join] at ih' ⊢
    show (⟨#[c]⟩ : Str) ++ "" ++ Str.join "" ((d :: l).map fun c => (⟨#[c]⟩ : Str)) = _
    rw [ih']
    show (⟨(#[c] ++ #[]) ++ (d :: l).toArray⟩ : Str) = _
    simp
theorem cutS_to (z : Str) (i : Nat) (h : i ≤ z.length) : (cutS z none (some (i : Int))).cps.toList = z.cps.toList.take i := by
  unfold cutS
  rw [HT.sIx_none, HT.sIx_nat, Nat.min_eq_left h]
  simp
theorem cutS_from (z : Str) (i : Nat) (h : i ≤ z.length) : (cutS z (some (i : Int)) none).cps.toList = z.cps.toList.drop i := by
  unfold cutS
  rw [HT.sIx_none, HT.sIx_nat, Nat.min_eq_left h]
  have e : z.cps.toList.length = z.length := by simp [Str.length]
  show ((z.cps.toList.drop i).take (z.length - i)).toArray.toList = _
  rw [List.take_of_length_le (by rw [List.length_drop, e]; exact Nat.le_refl _)]
theorem len_cps (z : Str) : z.cps.toList.length = z.length := by simp [Str.length]
theorem sum_ones : ∀ cs : List Nat, ((cs.map fun c => (⟨#[c]⟩ : Str)).map (·.length)).sum = cs.length
  | [] => rfl
  | c :: cs => by
    have := sum_ones cs
    simp only [List.map_cons, List.sum_cons, List.length_cons, this]
    show 1 + cs.length = _
    omega
theorem cutV_from {xs : List V} {i : Int} (h0 : 0 ≤ i) (h : i ≤ xs.length) : cutV xs (some i) none = xs.drop i.toNat := by
  obtain ⟨j, rfl⟩ := Int.eq_ofNat_of_zero_le h0
  unfold cutV
  rw [HT.sIx_none, HT.sIx_nat, Nat.min_eq_left (by omega), List.take_of_length_le (by rw [List.length_drop]; exact Nat.le_refl _)]
  rfl
theorem cutV_to {xs : List V} {i : Int} (h0 : 0 ≤ i) : cutV xs none (some i) = xs.take i.toNat := by
  obtain ⟨j, rfl⟩ := Int.eq_ofNat_of_zero_le h0
  unfold cutV
  rw [HT.sIx_none, HT.sIx_nat, List.drop_zero]
  show xs.take (min j xs.length - 0) = xs.take j
  rw [Nat.sub_zero]
  by_cases e : j ≤ xs.length
  · rw [Nat.min_eq_left e]
  · rw [Nat.min_eq_right (by omega), List.take_of_length_le (Nat.le_refl _), List.take_of_length_le (by omega)]
theorem rd_letter {K : PySem.W.Frag} {z : Str} {j : Int} {H : Hp} {Q : VK} (hz : (decide (z.length = 26) && z.cps.toList.all fun c => decide (97 ≤ c) && decide (c ≤ 122)) = true) (h0 : 0 ≤ j) (h1 : j < 26)
    (h : ∀ c : Nat, 97 ≤ c → c ≤ 122 → z.cps.toList[j.toNat]? = some c → Q (.str ⟨#[c]⟩) H) : rIx K (.str z) (.int j) H Q := by
  simp only [Bool.and_eq_true, decide_eq_true_eq, List.all_eq_true] at hz
  obtain ⟨hl, ha⟩ := hz
  obtain ⟨i, rfl⟩ := Int.eq_ofNat_of_zero_le h0
  have hi : i < z.cps.toList.length := by rw [len_cps, hl]; omega
  have e := List.getElem?_eq_getElem hi
  have hc := ha _ (List.getElem_mem hi)
  exact Or.inr (Or.inr ⟨z, i, _, rfl, rfl, by rw [hl]; decide, atI_nat e, h _ hc.1 hc.2 e⟩)
section
variable {P : Program} {w : World} {K : PySem.W.Frag} {mg : Str → Option Value} {base : Heap}
theorem ok__law_names (T : TX K mg) {k : Nat} : FnOk P w K mg base CX0 (k + 2) T.d__law_names.f T.d__law_names.fd P__law_names sp_names := by
  have G__law_take : FnOk P w K mg base CX0 (k + 1) T.d__law_take.f T.d__law_take.fd P__law_take sp_take := ok__law_take T
  refine T.d__law_names.F.ok sc__law_names (fun vs H Q E h => ?_) (fun cdv A outer s H vs Q E hr h => ?_)
  · obtain ⟨b, n, rfl, _⟩ := h
    rfl
  · obtain ⟨b, n, rfl, hB, h0, h1, q⟩ := h
    have hu64 := hr.units
    refine ⟨_, (pss_cons (ps_set (i := 2) sc__law_names.nd rfl (Or.inr rfl) pe_str) (pss_cons (ps_set (i := 3) sc__law_names.nd rfl (Or.inl rfl) pe_str) (pss_cons (ps_set (i := 3) sc__law_names.nd rfl (Or.inl rfl) (pe_bm PySem.F.plainAttrs_str PySem.F.slot_str_split PySem.F.type_str_split mt_split (pe_op (r := rAddG K) op_addG (pv 3) pe_str) (pa_cons pe_str pa_nil))) (pss_cons (ps_asg (pe_tup (pa_cons (pe_call G__law_take (hr.mono (by omega)) rfl T.d__law_take.g T.d__law_take.F.kp T.d__law_take.b .nil pass0 (pa_cons (pv 0) (pa_cons pe_int pa_nil))) (pa_cons (pe_call G__law_take (hr.mono (by omega)) rfl T.d__law_take.g T.d__law_take.F.kp T.d__law_take.b .nil pass0 (pa_cons (pv 0) (pa_cons pe_int pa_nil))) pa_nil))) (pg_tup rfl (pgs_cons (pg_name (i := 4) sc__law_names.nd rfl (Or.inl rfl)) (pgs_cons (pg_name (i := 5) sc__law_names.nd rfl (Or.inr rfl)) pgs_nil)))) (pss_cons (ps_set (i := 6) sc__law_names.nd rfl (Or.inr rfl) (pe_bm PySem.F.plainAttrs_str PySem.F.slot_str_join PySem.F.type_str_join mt_join pe_str (pa_cons (pe_lc (own := [("_law_k", 8)]) (g := gName 8) (by rfl) sc__law_names.nd (pi_range1 (by rfl) T.b_range (pa_cons (pe_op (r := rAddG K) op_addG pe_int (pe_call G__law_take (hr.mono (by omega)) rfl T.d__law_take.g T.d__law_take.F.kp T.d__law_take.b .nil pass0 (pa_cons (pv 0) (pa_cons pe_int pa_nil)))) pa_nil)) (blkOk_by (own := [("_law_k", 8)]) (N := N__law_names) (sc := defScope s__law_names) (by decide +kernel)) (fun _ _ _ _ _ => pg_name (i := 8) sc__law_names.nd rfl (Or.inl rfl)) (fun _ _ _ _ _ => pts_nil) (fun _ _ _ _ _ => (pe_ix (r := rIx K) ix_seq (pv 2) (pe_call G__law_take (hr.mono (by omega)) rfl T.d__law_take.g T.d__law_take.F.kp T.d__law_take.b .nil pass0 (pa_cons (pv 0) (pa_cons pe_int pa_nil))) (fun _ _ => rfl)))) pa_nil))) (pss_cons (ps_set (i := 7) sc__law_names.nd rfl (Or.inr rfl) (pe_call G__law_take (hr.mono (by omega)) rfl T.d__law_take.g T.d__law_take.F.kp T.d__law_take.b .nil pass0 (pa_cons (pv 0) (pa_cons (pe_op (r := rAddG K) op_addG (pe_callB (r := rLenG K) call_lenG (by rfl) T.b_len bt_len (pa_cons (pv 6) pa_nil)) pe_int) pa_nil)))) (pss_cons (ps_if (pt_cmpR (r := rEqG K) (op_eqG hu64) (pv 4) pe_int (nomark _)) (pss_one (ps_ret (pe_slice (r := rSlG K) sl_G (pe_op (r := rAddG K) op_addG (pe_slice (r := rSlG K) sl_G (pv 3) (po_some (pv 5)) po_none) (pe_slice (r := rSlG K) sl_G (pv 3) po_none (po_some (pv 5)))) po_none (po_some (pv 1))))) pss_nil) (pss_cons (ps_if (pt_cmpR (r := rEqG K) (op_eqG hu64) (pv 4) pe_int (nomark _)) (pss_one (ps_ret (pe_lc (own := [("_law_k", 8)]) (g := gName 8) (by rfl) sc__law_names.nd (pi_range1 (by rfl) T.b_range (pa_cons (pv 1) pa_nil)) (blkOk_by (own := [("_law_k", 8)]) (N := N__law_names) (sc := defScope s__law_names) (by decide +kernel)) (fun _ _ _ _ _ => pg_name (i := 8) sc__law_names.nd rfl (Or.inl rfl)) (fun _ _ _ _ _ => pts_nil) (fun _ _ _ _ _ => (pe_ix (r := rIx K) ix_seq (pv 2) (pe_op op_mod (pe_callTy call_int1 (by rfl) T.b_int bt_int (pa_cons (pe_op (r := rAddG K) op_addG (pv 5) (pe_op op_mulG pe_int (pv 8))) pa_nil)) pe_int) (fun _ _ => rfl)))))) pss_nil) (pss_one (ps_ret (pe_lc (own := [("_law_k", 8)]) (g := gName 8) (by rfl) sc__law_names.nd (pi_range1 (by rfl) T.b_range (pa_cons (pv 1) pa_nil)) (blkOk_by (own := [("_law_k", 8)]) (N := N__law_names) (sc := defScope s__law_names) (by decide +kernel)) (fun _ _ _ _ _ => pg_name (i := 8) sc__law_names.nd rfl (Or.inl rfl)) (fun _ _ _ _ _ => pts_nil) (fun _ _ _ _ _ => (pe_op (r := rAddG K) op_addG (pe_op (r := rAddG K) op_addG (pe_slice (r := rSlG K) sl_G (pv 6) po_none (po_some (pv 7))) (pe_ix (r := rIx K) ix_seq (pv 2) (pe_op op_mod (pe_callTy call_int1 (by rfl) T.b_int bt_int (pa_cons (pe_op (r := rAddG K) op_addG (pv 5) (pe_op op_mulG pe_int (pv 8))) pa_nil)) pe_int) (fun _ _ => rfl))) (pe_slice (r := rSlG K) sl_G (pv 6) (po_some (pv 7)) po_none)))))))))))))), ?_⟩
    refine ⟨_, rfl, Or.inr (Or.inl ⟨_, _, rfl, rfl, by decide +kernel, rfl, _, _, rfl, rfl, by decide +kernel, by decide +kernel, ?_⟩)⟩
    refine rd_split (X := (cxOf CX0 P w K mg base N__law_names "_law_names" (defScope s__law_names) T.d__law_names.f cdv A outer s H E)) (fun ws => decide (ws.length = 20) && ws.all fun x => decide (Nm x)) (by decide +kernel) fun wp ws H1 hws nwp ewp m1 => ?_
    simp only [Bool.and_eq_true, decide_eq_true_eq, List.all_eq_true] at hws
    obtain ⟨hw20, hwN⟩ := hws
    -- way, turn
    refine ⟨.ref b, rfl, b, 4, rfl, hB.mv m1, by decide, by decide, fun way H2 hw0 hw1 d2 => ⟨.ref b, rfl, b, 20, rfl, d2.bag (hB.mv m1), by decide, by decide, fun turn H3 ht0 ht1 d3 => ?_⟩⟩
    refine ⟨(by decide : 2 ≤ sizeLine), fun p np => ⟨p, _, rfl, .inl (.inl upd_same), rfl, _, _, rfl, _, _, rfl, rfl, ?_⟩⟩
    have d14 := (d2.trans d3).trans (Dr.new (o := .tup [.int way, .int turn]) np)
    have hB4 := d14.bag (hB.mv m1)
    generalize upd H3 p (.tup [.int way, .int turn]) = H4 at d14 hB4 ⊢
    have hwb : wp ≠ b := (hB.fneq nwp)
    have ew4 : H4 wp = some (.lst (ws.map V.str)) := d14.get hwb ewp
    -- base = ''.join([..])
    refine ⟨rfl, .ref b, rfl, b, 7, rfl, hB4, by decide, by decide, fun l H5 hl0 hl1 d5 => Or.inl ⟨1, l, rfl, rfl, 1 + l, rfl, by omega, by omega, fun D nD => ?_⟩⟩
    have hB5 := d5.bag hB4
    refine lc_range (lo := 0) (n := (1 + l).toNat) (fun i H6 => ∃ cs : List Nat, H6 D = some (.lst (cs.map fun c => V.str ⟨#[c]⟩)) ∧ cs.length = i ∧ (∀ c ∈ cs, 97 ≤ c ∧ c ≤ 122) ∧ Dr b H5 H6)
      ⟨[], upd_same, rfl, by simp, Dr.new nD⟩ (fun i H6 hi h6 => ?_) (fun H6 h6 => ?_)
    · obtain ⟨cs, e6, l6, c6, d6⟩ := h6
      refine ⟨rfl, _, rfl, .ref b, rfl, b, 26, rfl, d6.bag hB5, by decide, by decide, fun j H7 hj0 hj1 d7 => rd_letter (by decide +kernel) hj0 hj1 fun c hc0 hc1 _ => ?_⟩
      refine ⟨_, d7.get (hB5.fneq nD) e6, ?_, cs ++ [c], ?_, by simp [l6], ?_, (d6.trans d7).wr nD⟩
      · rw [List.length_map, l6]
        exact small1000 (by omega)
      · rw [upd_same, List.map_append]
        rfl
      · intro z hz
        rcases List.mem_append.mp hz with hz | hz
        · exact c6 z hz
        · rw [List.mem_singleton.mp hz]
          exact ⟨hc0, hc1⟩
    · obtain ⟨cs, e6, l6, c6, d6⟩ := h6
      have hmap : cs.map (fun c => V.str ⟨#[c]⟩) = (cs.map fun c => (⟨#[c]⟩ : Str)).map V.str := by rw [List.map_map]; rfl
      refine ⟨_, D, _, rfl, rfl, .inl (.inl (.inl (by rw [← hmap]; exact e6))), ?_, ?_⟩
      · rw [sum_ones, List.length_map, l6, show ("" : Str).length = 0 from by decide]
        omega
      · rw [join_chars]
        obtain ⟨B, hB0, hBl, hBc⟩ : ∃ B : Str, B = ⟨cs.toArray⟩ ∧ B.length = (1 + l).toNat ∧ ∀ c ∈ B.cps.toList, 97 ≤ c ∧ c ≤ 122 := ⟨_, rfl, by rw [← l6]; rfl, by simpa using c6⟩
        rw [← hB0]
        have hB6 := d6.bag hB5
        -- at
        refine ⟨.ref b, rfl, .str B, rfl, Or.inr (Or.inl ⟨B, rfl, Nat.le_of_lt (small1000 (by omega)), Or.inl ⟨_, 1, rfl, rfl, b, _, rfl, hB6, by omega, by omega, fun pl H7 hp0 hp1 d7 => ?_⟩⟩)⟩
        have d17 := (d14.trans d5).trans (d6.trans d7)
        have ew7 : H7 wp = some (.lst (ws.map V.str)) := d17.get hwb ewp
        have dH7 : Dr b H H7 := (Dr.of m1).trans d17
        have hB7 : Bag H7 b := dH7.bag hB
        have lenL : ∀ c : Nat, (⟨#[c]⟩ : Str).length = 1 := fun _ => rfl
        have fresh : ∀ {p H'}, Mv [] H7 H' → H' p = none → H p = none := fun m e => dH7.free hB (m.free e)
        refine ⟨.int way, rfl, Or.inl ⟨rfl, _, rfl, ite2 (fun e => ?_) (fun e => ?_)⟩⟩
        · -- the words, turned
          refine ⟨.ref wp, rfl, .int turn, rfl, turn, rfl, Or.inl ⟨wp, _, rfl, .inl (.inl ew7), fun p1 np1 => ?_⟩⟩
          have n1 : wp ≠ p1 := ne_of_none ew7 np1
          refine ⟨.ref wp, rfl, .int turn, rfl, turn, rfl, Or.inl ⟨wp, _, rfl, .inl (.inl (by rw [upd_ne n1]; exact ew7)), fun p2 np2 => ?_⟩⟩
          have n2 : p1 ≠ p2 := ne_of_none upd_same np2
          rw [cutV_from ht0 (by rw [List.length_map]; omega), cutV_to ht0] at *
          refine Or.inr (Or.inr (Or.inr ⟨p1, p2, _, _, rfl, rfl, by rw [upd_ne n2, upd_same], upd_same, ?_, fun p3 np3 => ?_⟩))
          · rw [List.length_drop, List.length_take, List.length_map]
            exact Nat.le_of_lt (small1000 (by omega))
          · refine ⟨.int n, rfl, (n : Int), rfl, Or.inl ⟨p3, _, rfl, .inl (.inl upd_same), fun p4 np4 => ?_⟩⟩
            refine q p4 ((ws.drop turn.toNat ++ ws.take turn.toNat).take n) _ ?_ (fun x hx => ?_) (fresh (((Mv.new (S := []) np1).trans (Mv.new np2)).trans (Mv.new np3)) np4) ?_ (dH7.trans (Dr.of (((Mv.new np1).trans (Mv.new np2)).trans ((Mv.new np3).trans (Mv.new np4)))))
            · rw [List.length_take, List.length_append, List.length_drop, List.length_take]
              omega
            · have h := List.mem_of_mem_take hx
              rcases List.mem_append.mp h with h | h
              · exact hwN x (List.mem_of_mem_drop h)
              · exact hwN x (List.mem_of_mem_take h)
            · rw [upd_same, cutV_to (by omega), List.map_take, List.map_append, List.map_drop, List.map_take]
              rfl
        · refine ⟨.int way, rfl, Or.inl ⟨rfl, _, rfl, ite2 (fun e => ?_) (fun e => ?_)⟩⟩
          · refine ⟨.int n, rfl, (n : Int), rfl, by omega, by omega, fun D8 nD8 => ?_⟩
            refine lc_range (lo := 0) (n := (n : Int).toNat) (fun i H8 => ∃ xs : List Str, H8 D8 = some (.lst (xs.map V.str)) ∧ xs.length = i ∧ (∀ x ∈ xs, Nm x) ∧ Mv [] H7 H8)
              ⟨[], upd_same, rfl, by simp, .new nD8⟩ (fun i H8 hi h8 => ?_) (fun H8 h8 => ?_)
            · obtain ⟨xs, e8, l8, c8, m8⟩ := h8
              refine ⟨rfl, _, rfl, .int turn, rfl, _, rfl, Or.inl ⟨3, _, rfl, rfl, .inl ⟨by decide, by decide⟩, Or.inl ⟨turn, _, rfl, rfl, Or.inl ⟨_, rfl, _, _, rfl, rfl, (by decide : (0 : Int) < _), ?_⟩⟩⟩⟩
              refine rd_letter (by decide +kernel) (Int.emod_nonneg _ (by decide)) (Int.emod_lt_of_pos _ (by decide)) fun c hc0 hc1 _ => ?_
              refine ⟨_, e8, ?_, xs ++ [⟨#[c]⟩], ?_, by simp [l8], ?_, m8.wr nD8⟩
              · rw [List.length_map, l8]
                exact small1000 (by omega)
              · rw [upd_same, List.map_append]
                rfl
              · intro z hz
                rcases List.mem_append.mp hz with hz | hz
                · exact c8 z hz
                · rw [List.mem_singleton.mp hz]
                  exact ⟨by rw [lenL]; decide, by rw [lenL]; decide, by simpa using ⟨hc0, hc1⟩⟩
            · obtain ⟨xs, e8, l8, c8, m8⟩ := h8
              exact q D8 xs H8 (by omega) c8 (dH7.free hB nD8) e8 (dH7.trans (Dr.of m8))
          · refine ⟨.int n, rfl, (n : Int), rfl, by omega, by omega, fun D8 nD8 => ?_⟩
            obtain ⟨at', rfl⟩ := Int.eq_ofNat_of_zero_le hp0
            have hat : at' ≤ B.length := by omega
            refine lc_range (lo := 0) (n := (n : Int).toNat) (fun i H8 => ∃ xs : List Str, H8 D8 = some (.lst (xs.map V.str)) ∧ xs.length = i ∧ (∀ x ∈ xs, Nm x) ∧ Mv [] H7 H8)
              ⟨[], upd_same, rfl, by simp, .new nD8⟩ (fun i H8 hi h8 => ?_) (fun H8 h8 => ?_)
            · obtain ⟨xs, e8, l8, c8, m8⟩ := h8
              have hsz : B.length ≤ sizeLine := Nat.le_of_lt (small1000 (by omega))
              have l1 : (cutS B none (some (at' : Int))).length = at' := by rw [← len_cps, cutS_to B at' hat, List.length_take, len_cps]; omega
              have l2 : (cutS B (some (at' : Int)) none).length = B.length - at' := by rw [← len_cps, cutS_from B at' hat, List.length_drop, len_cps]
              refine ⟨rfl, .str B, rfl, _, rfl, _, rfl, Or.inr (Or.inr ⟨B, rfl, hsz, _, rfl, .int turn, rfl, _, rfl, Or.inl ⟨3, _, rfl, rfl, .inl ⟨by decide, by decide⟩, Or.inl ⟨turn, _, rfl, rfl, Or.inl ⟨_, rfl, _, _, rfl, rfl, (by decide : (0 : Int) < _), ?_⟩⟩⟩⟩)⟩
              refine rd_letter (by decide +kernel) (Int.emod_nonneg _ (by decide)) (Int.emod_lt_of_pos _ (by decide)) fun c hc0 hc1 _ => ?_
              refine Or.inr (Or.inl ⟨_, _, rfl, rfl, by rw [l1, lenL]; exact Nat.le_of_lt (small1000 (by omega)), .str B, rfl, _, rfl, _, rfl, Or.inr (Or.inr ⟨B, rfl, hsz, Or.inr (Or.inl ⟨_, _, rfl, rfl, ?_, ?_⟩)⟩)⟩)
              · rw [str_len_append, l1, l2, lenL]
                exact Nat.le_of_lt (small1000 (by omega))
              · refine ⟨_, e8, ?_, xs ++ [cutS B none (some (at' : Int)) ++ ⟨#[c]⟩ ++ cutS B (some (at' : Int)) none], ?_, by simp [l8], ?_, m8.wr nD8⟩
                · rw [List.length_map, l8]
                  exact small1000 (by omega)
                · rw [upd_same, List.map_append]
                  rfl
                · intro z hz
                  rcases List.mem_append.mp hz with hz | hz
                  · exact c8 z hz
                  · rw [List.mem_singleton.mp hz]
                    refine ⟨?_, ?_, fun d hd => ?_⟩
                    · rw [str_len_append, str_len_append, l1, l2, lenL]
                      omega
                    · rw [str_len_append, str_len_append, l1, l2, lenL]
                      omega
                    · rw [str_cps_append, str_cps_append, cutS_to B at' hat, cutS_from B at' hat] at hd
                      rcases List.mem_append.mp hd with hd | hd
                      · rcases List.mem_append.mp hd with hd | hd
                        · exact hBc d (List.mem_of_mem_take hd)
                        · have : d = c := by simpa using hd
                          rw [this]
                          exact ⟨hc0, hc1⟩
                      · exact hBc d (List.mem_of_mem_drop hd)
            · obtain ⟨xs, e8, l8, c8, m8⟩ := h8
              exact q D8 xs H8 (by omega) c8 (dH7.free hB nD8) e8 (dH7.trans (Dr.of m8))
end
end Fm
namespace Fm
open PySem PySem.Spec PyProof.Rows L2
def sp_term (K : PySem.W.Frag) (d : Nat) : Sp := fun vs H Q _ => ∃ (b nm : Addr) (xs : List Str) (many deep : Int), vs = [.ref b, .ref nm, .int many, .int deep] ∧ Bag H b ∧
  H nm = some (.lst (xs.map V.str)) ∧ nm ≠ b ∧ xs ≠ [] ∧ xs.length ≤ 1000 ∧ (∀ x ∈ xs, Nm x) ∧ 0 ≤ many ∧ many ≤ 1000000 ∧ deep.toNat < d ∧
  ∀ v (t : Tm) H', t.ok (fun i => 0 ≤ i ∧ i < many) → t.dep ≤ max deep.toNat 1 → (0 < many → t.dep ≤ deep.toNat) → Im K H' v t.d → Dr b H H' → Q v H'
local macro_rules | `(tactic| walk_at "nn") => `(tactic| dsimp only [tC, tNil, tCons, tCB, tCall, gName, tSeq, tAsg, tPar, tDrop, tRet])
section
variable {P : Program} {w : World} {K : PySem.W.Frag} {mg : Str → Option Value} {base : Heap}
end
end Fm
namespace Fm
open PySem PySem.Spec PyProof.Rows L2
local macro_rules | `(tactic| walk_at "nn") => `(tactic| dsimp only [tC, tNil, tCons, tCB, tCall, gName, tSeq, tAsg, tPar, tDrop, tRet])
local macro_rules | `(tactic| walk_at "nc") => `(tactic| dsimp only [tC, tNil, tCons, tCB])
theorem hu65_of {k : Nat} {A : Around} (h : Room k A) : A.units + 65 < cLine := by
  have := h.un
  omega
/-- a test of one thing -/
def sp_kind (K : PySem.W.Frag) (f : Th → Bool) : Sp := fun vs H Q _ => ∃ (v : V) (t : Th) (b : Addr), vs = [v] ∧ Is K b H v t ∧ ∀ H', Mv [] H H' → Q (.bl (f t)) H'
section
variable {P : Program} {w : World} {K : PySem.W.Frag} {mg : Str → Option Value} {base : Heap}
theorem ok_is_integer (T : TX K mg) {k : Nat} : FnOk P w K mg base CX0 (k + 1) T.d_is_integer.f T.d_is_integer.fd P_is_integer (sp_kind K isWhole) := by
  refine T.d_is_integer.F.ok sc_is_integer (fun vs H Q E h => ?_) (fun cdv A outer s H vs Q E hr h => ?_)
  · obtain ⟨_, _, _, rfl, _⟩ := h
    rfl
  · obtain ⟨v, t, b, rfl, hv, q⟩ := h
    refine ⟨_, (pss_one (ps_ret (pe_and (pe_callB (r := rIsi K) call_isi (by rfl) T.b_isinstance bt_isinstance (pa_cons (pv 0) (pa_cons (pe_ty T.b_int bt_int) pa_nil))) (pe_one (pe_not (pe_callB (r := rIsi K) call_isi (by rfl) T.b_isinstance bt_isinstance (pa_cons (pv 0) (pa_cons (pe_ty T.b_bool bt_bool) pa_nil)))))))), ?_⟩
    refine ⟨v, rfl, ?_⟩
    walk_at "nn"
    refine rd_isi hv (kit_int t) ?_
    refine ⟨_, rfl, ?_⟩
    cases t with
    | int j =>
      refine ⟨v, rfl, ?_⟩
      walk_at "nc"
      exact rd_isi hv (kit_bool (.int j)) ⟨_, rfl, q H .refl⟩
    | bl c =>
      refine ⟨v, rfl, ?_⟩
      walk_at "nc"
      exact rd_isi hv (kit_bool (.bl c)) ⟨_, rfl, q H .refl⟩
    | non => exact q H .refl
    | str x => exact q H .refl
    | tup ts => exact q H .refl
    | lst => exact q H .refl
    | dct => exact q H .refl
theorem ok_is_name (T : TX K mg) {k : Nat} : FnOk P w K mg base CX0 (k + 1) T.d_is_name.f T.d_is_name.fd P_is_name (sp_kind K isNamed) := by
  refine T.d_is_name.F.ok sc_is_name (fun vs H Q E h => ?_) (fun cdv A outer s H vs Q E hr h => ?_)
  · obtain ⟨_, _, _, rfl, _⟩ := h
    rfl
  · obtain ⟨v, t, b, rfl, hv, q⟩ := h
    have hu65 := hu65_of hr
    refine ⟨_, (pss_cons (ps_if (PW.pt (pw_or (pt_not (pt_val (pe_callB (r := rIsi K) call_isi (by rfl) T.b_isinstance bt_isinstance (pa_cons (pv 0) (pa_cons (pe_ty T.b_str bt_str) pa_nil))))) (pw_or1 (pt_not (pt_chain op_le op_le pe_int (pe_callB (r := rLenG K) call_lenG (by rfl) T.b_len bt_len (pa_cons (pv 0) pa_nil)) (pe_glob rfl T.c_MOST_LETTERS T.r_MOST_LETTERS)))))) (pss_one (ps_ret pe_bl)) pss_nil) (pss_one (ps_ret (pe_callB (r := rAll K) (cr_all rfl) (by rfl) T.b_all bt_all (pa_cons (pe_lc (own := [("sign", 1)]) (g := gName 1) (by rfl) sc_is_name.nd (pi_str (pv 0)) (blkOk_by (own := [("sign", 1)]) (N := N_is_name) (sc := defScope s_is_name) (by decide +kernel)) (fun _ _ _ _ _ => pg_name (i := 1) sc_is_name.nd rfl (Or.inl rfl)) (fun _ _ _ _ _ => pts_nil) (fun _ _ _ _ _ => (pe_cmpR (r := rInG K) (op_inG hu65) (pv 1) (pe_glob rfl T.c_LETTERS T.r_LETTERS) rfl))) pa_nil))))), ?_⟩
    refine ⟨v, rfl, ?_⟩
    walk_at "nn"
    refine rd_isi hv (kit_str t) ?_
    refine ⟨_, rfl, ?_⟩
    cases t with
    | int j => exact q H .refl
    | bl c => exact q H .refl
    | non => exact q H .refl
    | tup ts => exact q H .refl
    | lst => exact q H .refl
    | dct => exact q H .refl
    | str x =>
      obtain ⟨rfl, hlen⟩ := hv
      refine ⟨.str x, rfl, ?_⟩
      walk_at "nc"
      refine Or.inr (Or.inl ⟨x, rfl, Nat.le_of_lt (small1000 (by omega)), 1, _, rfl, rfl, _, rfl, ite2 (fun e1 => ?_) (fun e1 => ?_)⟩)
      · refine ⟨_, 8, rfl, rfl, _, rfl, ite2 (fun e2 => ?_) (fun e2 => ?_)⟩
        · have e : isNamed (.str x) = false := by
            simp only [isNamed, nmd]
            have : ¬ x.length ≤ 8 := by simp at e2; omega
            rw [decide_eq_false this]
            simp
          rw [e] at q
          exact q H .refl
        · have h1 : 1 ≤ x.length := by simp at e1; omega
          have h2 : x.length ≤ 8 := by simp at e2; omega
          refine ⟨.str x, rfl, x, rfl, fun D nD => ?_⟩
          have hsz : x.cps.toList.length = x.cps.size := by simp
          have hsl : x.cps.size = x.length := rfl
          refine lc_it walk_str (fun i H1 => H1 D = some (.lst (((x.cps.toList.take i).map fun c => decide (c ∈ lettersS.cps.toList)).map V.bl)) ∧ Mv [] H H1) ⟨upd_same, .new nD⟩ (fun _ _ _ _ => trivial) (fun i y H1 H2 hi h1 hy => ?_) (fun H1 h1 => ?_)
          · obtain ⟨e1, m1⟩ := h1
            obtain ⟨rfl, c, hc, rfl⟩ := hy
            have hc' : x.cps.toList[i]? = some c := by simpa using hc
            refine ⟨rfl, .str ⟨#[c]⟩, rfl, Or.inr ⟨c, _, rfl, rfl, _, e1, ?_, ?_, m1.wr nD⟩⟩
            · rw [List.length_map, List.length_map, List.length_take]
              exact small1000 (by omega)
            · rw [upd_same, List.take_add_one, hc']
              simp
              rfl
          · obtain ⟨e1, m1⟩ := h1
            rw [← hsz, List.take_length] at e1
            refine ⟨D, _, rfl, .inl (.inl e1), ?_⟩
            have e : isNamed (.str x) = ((x.cps.toList.map fun c => decide (c ∈ lettersS.cps.toList)).all id) := by
              simp only [isNamed, nmd]
              rw [decide_eq_true h1, decide_eq_true h2, List.all_map]
              rfl
            rw [← e]
            exact q H1 m1
      · have e : isNamed (.str x) = false := by
          simp only [isNamed, nmd]
          have : ¬ 1 ≤ x.length := by simp at e1; omega
          rw [decide_eq_false this]
          simp
        rw [e] at q
        exact ⟨_, rfl, q H .refl⟩
end
end Fm
namespace Fm
open PySem PySem.Spec PyProof.Rows L2
local macro_rules | `(tactic| walk_at "nn") => `(tactic| dsimp only [tC, tNil, tCons, tCB, tCall, gName, tSeq, tAsg, tPar, tDrop, tRet])
local macro_rules | `(tactic| walk_at "nc") => `(tactic| dsimp only [tC, tNil, tCons, tCB])
theorem isTerms_append (ts us : List Th) : isTerms (ts ++ us) = (isTerms ts && isTerms us) := by
  rw [isTerms_all, isTerms_all, isTerms_all, List.all_append]
theorem Th.cnt_pos (t : Th) : 1 ≤ t.cnt := by cases t <;> simp [Th.cnt]
theorem Th.cnts_len : ∀ ts : List Th, ts.length ≤ Th.cnts ts
  | [] => Nat.zero_le _
  | t :: ts => by
    have := Th.cnts_len ts
    have := t.cnt_pos
    simp only [Th.cnts, List.length_cons]
    omega
def sp_isTerm (K : PySem.W.Frag) : Sp := fun vs H Q _ => ∃ (v : V) (t : Th) (b : Addr), vs = [v] ∧ Is K b H v t ∧ t.cnt ≤ 90000 ∧ ∀ H', Mv [] H H' → Q (.bl (isTerm t)) H'
section
variable {P : Program} {w : World} {K : PySem.W.Frag} {mg : Str → Option Value} {base : Heap}
end
end Fm
namespace Fm
open PySem PySem.Spec PyProof.Rows L2
local macro_rules | `(tactic| walk_at "nn") => `(tactic| dsimp only [tC, tNil, tCons, tCB, tCall, gName, tSeq, tAsg, tPar, tDrop, tRet])
local macro_rules | `(tactic| walk_at "nc") => `(tactic| dsimp only [tC, tNil, tCons, tCB])
def initS (x : Str) : Str := ⟨(x.cps.toList.take (x.length - 1)).toArray⟩
def dashed (x : Str) : Bool := decide (x.cps.toList.drop (x.length - 1) = [45])
def isOutc : Th → Bool
  | .str x => if dashed x = true then nmd (initS x) else nmd x
  | _ => false
theorem toList_len (x : Str) : x.cps.toList.length = x.length := by simp; rfl
theorem sIx_m1 (n d : Nat) : HT.sIx n d (some (-1)) = n - 1 := by
  show (if (-1 : Int) < 0 then ((-1 : Int) + (n : Int)).toNat else min (-1 : Int).toNat n) = n - 1
  rw [if_pos (by decide)]
  omega
theorem cut_last (x : Str) : cutS x (some (-1)) none = ⟨(x.cps.toList.drop (x.length - 1)).toArray⟩ := by
  unfold cutS
  rw [sIx_m1, HT.sIx_none, List.take_of_length_le]
  rw [List.length_drop, toList_len]
  omega
theorem cut_init (x : Str) : cutS x none (some (-1)) = initS x := by
  unfold cutS initS
  rw [sIx_m1, HT.sIx_none, List.drop_zero, Nat.sub_zero]
theorem dash_eq (x : Str) : decide (V.str (cutS x (some (-1)) none) = V.str "-") = dashed x := by
  rw [cut_last]
  unfold dashed
  rw [Bool.eq_iff_iff, decide_eq_true_iff, decide_eq_true_iff]
  constructor
  · intro h
    injection h with h
    have h2 := congrArg (fun s : Str => s.cps.toList) h
    have e45 : (Str.ofString "-").cps.toList = [45] := by decide +kernel
    rw [← e45]
    simpa using h2
  · intro h
    rw [h]
    rfl
theorem initS_len (x : Str) : (initS x).length = x.length - 1 := by
  show (x.cps.toList.take (x.length - 1)).toArray.size = _
  rw [List.size_toArray, List.length_take, toList_len]
  omega
def sp_vals (K : PySem.W.Frag) : Sp := fun vs H Q _ => ∃ (n : Int) (v : V) (t : Th) (b : Addr), vs = [.int n, v] ∧ Is K b H v t ∧ t.cnt ≤ 90000 ∧ ∀ H', Mv [] H H' → Q (.bl (match t with | .tup ts => decide ((ts.length : Int) = n) && isTerms ts | _ => false)) H'
section
variable {P : Program} {w : World} {K : PySem.W.Frag} {mg : Str → Option Value} {base : Heap}
theorem ok_is_outcome (T : TX K mg) {k : Nat} : FnOk P w K mg base CX0 (k + 2) T.d_is_outcome.f T.d_is_outcome.fd P_is_outcome (sp_kind K isOutc) := by
  have G_is_name : FnOk P w K mg base CX0 1 T.d_is_name.f T.d_is_name.fd P_is_name (sp_kind K isNamed) := ok_is_name T
  refine T.d_is_outcome.F.ok sc_is_outcome (fun vs H Q E h => ?_) (fun cdv A outer s H vs Q E hr h => ?_)
  · obtain ⟨_, _, _, rfl, _⟩ := h
    rfl
  · obtain ⟨v, t, b, rfl, hv, q⟩ := h
    have hu64 := hr.units
    refine ⟨_, (pss_cons (ps_if (PW.pt (pw_and (pt_val (pe_callB (r := rIsi K) call_isi (by rfl) T.b_isinstance bt_isinstance (pa_cons (pv 0) (pa_cons (pe_ty T.b_str bt_str) pa_nil)))) (pw_and1 (pt_cmpR (r := rEqG K) (op_eqG hu64) (pe_slice (r := rSlG K) sl_G (pv 0) (po_some (pe_un un_neg pe_int)) po_none) pe_str (nomark _))))) (pss_one (ps_ret (pe_call G_is_name (hr.mono (by omega)) rfl T.d_is_name.g T.d_is_name.F.kp T.d_is_name.b .nil pass0 (pa_cons (pe_slice (r := rSlG K) sl_G (pv 0) po_none (po_some (pe_un un_neg pe_int))) pa_nil)))) pss_nil) (pss_one (ps_ret (pe_call G_is_name (hr.mono (by omega)) rfl T.d_is_name.g T.d_is_name.F.kp T.d_is_name.b .nil pass0 (pa_cons (pv 0) pa_nil))))), ?_⟩
    refine ⟨v, rfl, ?_⟩
    walk_at "nn"
    refine rd_isi hv (kit_str t) ⟨_, rfl, ?_⟩
    cases t with
    | int j => exact ⟨v, rfl, v, .int j, b, rfl, hv, q⟩
    | bl c => exact ⟨v, rfl, v, .bl c, b, rfl, hv, q⟩
    | non => exact ⟨v, rfl, v, .non, b, rfl, hv, q⟩
    | tup ts => exact ⟨v, rfl, v, .tup ts, b, rfl, hv, q⟩
    | lst => exact ⟨v, rfl, v, .lst, b, rfl, hv, q⟩
    | dct => exact ⟨v, rfl, v, .dct, b, rfl, hv, q⟩
    | str x =>
      obtain ⟨rfl, hlen⟩ := hv
      have hsz : x.length ≤ sizeLine := Nat.le_of_lt (small1000 (by omega))
      refine ⟨.str x, rfl, 1, rfl, -1, rfl, Or.inr (Or.inr ⟨x, rfl, hsz, Or.inl ⟨rfl, ?_⟩⟩)⟩
      have ed := dash_eq x
      rw [show (("-" : String) : Str) = Str.ofString "-" from rfl] at ed
      rw [ed]
      refine ⟨_, rfl, ite2 (fun e => ?_) (fun e => ?_)⟩
      · refine ⟨.str x, rfl, 1, rfl, -1, rfl, Or.inr (Or.inr ⟨x, rfl, hsz, ?_⟩)⟩
        rw [cut_init]
        refine ⟨_, .str (initS x), b, rfl, ⟨rfl, by rw [initS_len]; omega⟩, fun H' m => ?_⟩
        have := q H' m
        simp only [isOutc] at this
        rw [if_pos e] at this
        exact this
      · refine ⟨.str x, rfl, _, .str x, b, rfl, ⟨rfl, hlen⟩, fun H' m => ?_⟩
        have := q H' m
        simp only [isOutc] at this
        rw [if_neg e] at this
        exact this
end
end Fm
namespace Fm
open PySem PySem.Spec PyProof.Rows L2
local macro_rules | `(tactic| walk_at "nn") => `(tactic| dsimp only [tC, tNil, tCons, tCB, tCall, gName, tSeq, tAsg, tPar, tDrop, tRet])
/-- values by numbers: in a list, a tuple, a dict -/
def Look1 (K : PySem.W.Frag) (H : Hp) (vals : V) (P : Int → Prop) (f : Int → Tm) : Prop := ∃ a, vals = .ref a ∧
  ((∃ xs, SqL K H a xs ∧ ∀ i, P i → 0 ≤ i ∧ ∃ v, xs[i.toNat]? = some v ∧ Im K H v (f i).d) ∨
   (∃ xs, SqT K H a xs ∧ ∀ i, P i → 0 ≤ i ∧ ∃ v, xs[i.toNat]? = some v ∧ Im K H v (f i).d) ∨
   (∃ kvs, H a = some (.dK kvs) ∧ ∀ i, P i → ∃ v, valV kvs (.inl i) = some v ∧ Im K H v (f i).d))
theorem Look1.mv {K : PySem.W.Frag} {H H' : Hp} {vals : V} {P : Int → Prop} {f : Int → Tm} (h : Look1 K H vals P f) (m : Mv [] H H') : Look1 K H' vals P f := by
  obtain ⟨a, rfl, h⟩ := h
  refine ⟨a, rfl, ?_⟩
  rcases h with ⟨xs, h1, h2⟩ | ⟨xs, h1, h2⟩ | ⟨xs, h1, h2⟩
  · refine .inl ⟨xs, m.same.seq h1, fun i hi => ?_⟩
    obtain ⟨h0, v, hv, hm⟩ := h2 i hi
    exact ⟨h0, v, hv, hm.mv m⟩
  · refine .inr (.inl ⟨xs, m.sqT h1, fun i hi => ?_⟩)
    obtain ⟨h0, v, hv, hm⟩ := h2 i hi
    exact ⟨h0, v, hv, hm.mv m⟩
  · refine .inr (.inr ⟨xs, m.same _ _ h1, fun i hi => ?_⟩)
    obtain ⟨v, hv, hm⟩ := h2 i hi
    exact ⟨v, hv, hm.mv m⟩
def sp_put (K : PySem.W.Frag) (d : Nat) : Sp := fun vs H Q _ => ∃ (v vals : V) (t : Tm) (P : Int → Prop) (f : Int → Tm), vs = [v, vals] ∧ Im K H v t.d ∧ t.ok P ∧ t.dep < d ∧ Look1 K H vals P f ∧
  ∀ v' H', Mv [] H H' → Im K H' v' (t.put f).d → Q v' H'
section
variable {P : Program} {w : World} {K : PySem.W.Frag} {mg : Str → Option Value} {base : Heap}

end
end Fm
namespace Fm
open PySem PySem.Spec PyProof.Rows L2
local macro_rules | `(tactic| walk_at "nn") => `(tactic| dsimp only [tC, tNil, tCons, tCB, tCall, gName, tSeq, tAsg, tPar, tDrop, tRet])
theorem line5 {n : Nat} (h : n ≤ 100000) : n ≤ sizeLine := Nat.le_trans h (by decide)
theorem line5lt {n : Nat} (h : n ≤ 100000) : n < sizeLine := Nat.lt_of_le_of_lt h (by decide)
theorem Tm.mem_parts {x : Str} {us ts : List Tm} (h : Tm.op x us ∈ ts) : Tm.deps us < Tm.deps ts := by
  have := Tm.deps_le.mp (show Tm.deps ts ≤ Tm.deps ts from Nat.le_refl _) _ h
  simp only [Tm.dep] at this
  omega
theorem Tm.lv_mem : ∀ {t : Tm} {ts : List Tm}, t ∈ ts → t.lv ≤ Tm.lvs ts
  | t, u :: ts, h => by
    rcases List.mem_cons.mp h with rfl | h
    · simp only [Tm.lvs]; omega
    · have := Tm.lv_mem h
      simp only [Tm.lvs]; omega
theorem Tm.lvs_take : ∀ (i : Nat) (ts : List Tm), Tm.lvs (ts.take i) ≤ Tm.lvs ts
  | 0, ts => by simp [Tm.lvs]
  | i + 1, [] => by simp [Tm.lvs]
  | i + 1, t :: ts => by
    have := Tm.lvs_take i ts
    simp only [List.take_succ_cons, Tm.lvs]
    omega
def sp_leavesR (K : PySem.W.Frag) (d : Nat) : Sp := fun vs H Q _ => ∃ (a : Addr) (xs : List V) (ts : List Tm), vs = [.ref a] ∧ (SqL K H a xs ∨ SqT K H a xs) ∧ Ims K H xs (Tm.ds ts) ∧ Tm.deps ts < d ∧ Tm.lvs ts ≤ 100000 ∧
  ∀ p H', H p = none → Mv [] H H' → H' p = some (.lst ((Tm.leavesL ts).map V.int)) → Q (.ref p) H'
def sp_sizeR (K : PySem.W.Frag) (d : Nat) : Sp := fun vs H Q _ => ∃ (a : Addr) (xs : List V) (ts : List Tm), vs = [.ref a] ∧ (SqL K H a xs ∨ SqT K H a xs) ∧ Ims K H xs (Tm.ds ts) ∧ Tm.deps ts < d ∧ ts.length ≤ 100000 ∧ Tm.oks (fun _ => True) ts ∧
  ∀ H', Mv [] H H' → Q (.int (Tm.sizes ts)) H'
section
variable {P : Program} {w : World} {K : PySem.W.Frag} {mg : Str → Option Value} {base : Heap}
end
end Fm
namespace Fm
open PySem PySem.Spec PyProof.Rows L2
local macro_rules | `(tactic| walk_at "nn") => `(tactic| dsimp only [tC, tNil, tCons, tCB, tCall, gName, tSeq, tAsg, tPar, tDrop, tRet])
local macro_rules | `(tactic| walk_at "nc") => `(tactic| dsimp only [tC, tNil, tCons, tCB])
/-- names at hand -/
structure Nms (H : Hp) (b nm : Addr) (xs : List Str) : Prop where
  at_ : H nm = some (.lst (xs.map V.str))
  ne : nm ≠ b
  some_ : xs ≠ []
  few : xs.length ≤ 1000
  ok : ∀ x ∈ xs, Nm x
theorem Nms.dr {H H' : Hp} {b nm : Addr} {xs : List Str} (h : Nms H b nm xs) (d : Dr b H H') : Nms H' b nm xs := ⟨d.get h.ne h.at_, h.ne, h.some_, h.few, h.ok⟩
def sp_alike (K : PySem.W.Frag) : Sp := fun vs H Q _ => ∃ (x y : V) (d : PyData), vs = [x, y] ∧ Dp K H x d ∧ Dp K H y d ∧ Shw d ∧ Q (.bl true) H
section
variable {P : Program} {w : World} {K : PySem.W.Frag} {mg : Str → Option Value} {base : Heap}
theorem ok__law_alike (T : TX K mg) {k : Nat} : FnOkG P w K mg base CX0 (k + 1) T.d__law_alike.f T.d__law_alike.fd P__law_alike (sp_alike K) := by
  refine okG T.d__law_alike.F sc__law_alike (fun vs H Q E h => ?_) (fun cdv A outer s H vs Q E hgd hr h => ?_)
  · obtain ⟨_, _, _, rfl, _⟩ := h
    rfl
  · obtain ⟨x, y, d, rfl, hx, hy, hs, q⟩ := h
    have hu64 := hr.units
    refine ⟨_, (pss_one (ps_ret (pe_and (pe_cmpR (r := rEqG K) (op_eqG hu64) (pv 0) (pv 1) (nomark _)) (pe_one (pe_cmpR (r := rEqG K) (op_eqG hu64) (pe_callB (r := rReprG K) (call_reprG hgd hu64) (by rfl) T.b_repr bt_repr (pa_cons (pv 0) pa_nil)) (pe_callB (r := rReprG K) (call_reprG hgd hu64) (by rfl) T.b_repr bt_repr (pa_cons (pv 1) pa_nil)) (nomark _)))))), ?_⟩
    have hf := fine_lay d hs.fi
    refine ⟨x, rfl, y, rfl, Or.inr ⟨d, d, hx, hy, hs.shaped, hs.shaped, _, rfl, ?_⟩⟩
    rw [hs.eqv]
    refine ⟨x, rfl, ?_⟩
    walk_at "nc"
    refine ⟨x, d, rfl, hx, hf.2.1, hf.2.2, hs.dp, hs.len, y, rfl, ?_⟩
    refine ⟨y, d, rfl, hy, hf.2.1, hf.2.2, hs.dp, hs.len, Or.inl ⟨rfl, ?_⟩⟩
    rw [decide_eq_true rfl]
    exact q
theorem ints_shaped : ∀ o : List Int, SeqAt.shaped (.list (o.map PyData.int)) = true := fun o => by
  have h1 : ∀ o : List Int, PyData.canLayAll0 (o.map PyData.int) = true := fun o => by
    induction o with
    | nil => rfl
    | cons x o ih => simp [PyData.canLayAll0, PyData.canLay0, ih]
  have h2 : ∀ o : List Int, PyData.depthAll (o.map PyData.int) = 0 := fun o => by
    induction o with
    | nil => rfl
    | cons x o ih => simp [PyData.depthAll, PyData.depth, ih]
  show (PyData.canLay0 (.list (o.map PyData.int)) && decide (PyData.depth (.list (o.map PyData.int)) ≤ 64)) = true
  simp only [PyData.canLay0, PyData.depth, h1, h2]
  rfl
theorem dp_ints {H : Hp} : ∀ o : List Int, DpAll K H (o.map V.int) (o.map PyData.int)
  | [] => .nil
  | x :: o => .cons (.int x) (dp_ints o)
theorem ints_any (o : List Int) (u : Int) : ((o.map PyData.int).any fun z => PyData.eqv z (.int u)) = decide (u ∈ o) := by
  rw [List.any_map]
  have e : ((fun z => PyData.eqv z (.int u)) ∘ PyData.int) = fun z => z == u := by
    funext z
    simp [PyData.eqv]
  rw [e, Bool.eq_iff_iff]
  simp
end
end Fm
namespace Fm
open PySem PySem.Spec PyProof.Rows L2
local macro_rules | `(tactic| walk_at "nn") => `(tactic| dsimp only [tC, tNil, tCons, tCB, tCall, gName, tSeq, tAsg, tPar, tDrop, tRet])
/-- a list or tuple in some other order -/
def sp_mixG (K : PySem.W.Frag) : Sp := fun vs H Q _ => ∃ (b l : Addr) (xs : List V), vs = [.ref b, .ref l] ∧ Bag H b ∧ ((H l = some (.lst xs) ∧ l ≠ b) ∨ SqT K H l xs) ∧ xs.length ≤ 1000 ∧
  ∀ (p : Addr) (ys : List V) H', ys.Perm xs → H p = none → H' p = some (.lst ys) → Dr b H H' → Q (.ref p) H'
theorem perm_ins {α : Type} (ms : List α) (j : Nat) (u : α) : (ms.take j ++ [u] ++ ms.drop j).Perm (ms ++ [u]) := by
  have h1 : (ms.take j ++ [u] ++ ms.drop j).Perm (ms.take j ++ (ms.drop j ++ [u])) := by
    rw [List.append_assoc]
    exact List.Perm.append_left _ List.perm_append_comm
  rw [← List.append_assoc, List.take_append_drop] at h1
  exact h1
section
variable {P : Program} {w : World} {K : PySem.W.Frag} {mg : Str → Option Value} {base : Heap}
theorem ok__law_mixed (T : TX K mg) {k : Nat} : FnOk P w K mg base CX0 (k + 2) T.d__law_mixed.f T.d__law_mixed.fd P__law_mixed (sp_mixG K) := by
  have G__law_take : FnOk P w K mg base CX0 1 T.d__law_take.f T.d__law_take.fd P__law_take sp_take := ok__law_take T
  refine T.d__law_mixed.F.ok sc__law_mixed (fun vs H Q E h => ?_) (fun cdv A outer s H vs Q E hr h => ?_)
  · obtain ⟨_, _, _, rfl, _⟩ := h
    rfl
  · obtain ⟨b, l, xs, rfl, hB, hl, hln, q⟩ := h
    refine ⟨_, (pss_cons (ps_set (i := 2) sc__law_mixed.nd rfl (Or.inl rfl) (pe_lst pa_nil)) (pss_cons (ps_for PassesOwn.never rfl (pi_seq (pv 1)) (pg_name (i := 3) sc__law_mixed.nd rfl (Or.inl rfl)) (pss_one (ps_expr (pe_bm PySem.F.plainAttrs_list PySem.F.slot_list_insert PySem.F.type_list_insert mt_insert (pv 2) (pa_cons (pe_call G__law_take (hr.mono (by omega)) rfl T.d__law_take.g T.d__law_take.F.kp T.d__law_take.b .nil pass0 (pa_cons (pv 0) (pa_cons (pe_op (r := rAddG K) op_addG (pe_callB (r := rLenG K) call_lenG (by rfl) T.b_len bt_len (pa_cons (pv 2) pa_nil)) pe_int) pa_nil))) (pa_cons (pv 3) pa_nil)))))) (pss_one (ps_ret (pv 2))))), ?_⟩
    refine ⟨Nat.zero_le _, fun p np => ⟨.ref l, rfl, l, rfl, ?_⟩⟩
    have hpb : p ≠ b := hB.fneq np
    rcases hl with ⟨hl, hlb⟩ | hl
    · refine Or.inl ⟨⟨_, .inl (.inl (same_new np _ _ hl))⟩, ?_⟩
      refine for_list (K := K) (a := l) (xs := xs) (fun i σ H2 => ∃ (ms : List V) (y : Option V), σ = [some (.ref b), some (.ref l), some (.ref p), y] ∧ H2 p = some (.lst ms) ∧ ms.Perm (xs.take i) ∧ Dr b H H2)
        ⟨[], none, rfl, upd_same, by simp, Dr.new np⟩ (fun i σ H2 _ h2 => ?_) (fun i x σ H2 hx h2 => ?_) (fun σ H2 h2 => ?_)
      · obtain ⟨_, _, _, _, _, d⟩ := h2
        exact .inl (.inl (d.get hlb hl))
      · obtain ⟨ms, y, rfl, e2, s2, d2⟩ := h2
        have hi := (List.getElem?_eq_some_iff.mp hx).1
        have l2 : ms.length = i := by rw [s2.length_eq, List.length_take]; omega
        refine ⟨.ref p, rfl, .inl ⟨rfl, _, .inl (.inl e2)⟩, .ref b, rfl, .ref p, rfl, ?_⟩
        walk_at "nn"
        refine rd_len (.inl (.inl (.inl e2))) ?_
        refine Or.inl ⟨_, 1, rfl, rfl, b, _, rfl, d2.bag hB, by omega, by omega, fun j H3 hj0 hj1 d3 => ?_⟩
        have e3 := d3.get hpb e2
        refine ⟨x, rfl, p, _, j, x, rfl, rfl, e3, small1000 (by omega), hj0, by omega, ?_⟩
        refine ⟨ms.take j.toNat ++ [x] ++ ms.drop j.toNat, _, rfl, ?_, ?_, (d2.trans d3).wr np⟩
        · rw [upd_same]
          first | done | simp
        · rw [List.take_add_one, hx]
          exact (perm_ins ms j.toNat x).trans (s2.append_right _)
      · obtain ⟨ms, y, rfl, e2, s2, d2⟩ := h2
        rw [List.take_length] at s2
        exact ⟨.ref p, rfl, q p ms H2 s2 np e2 d2⟩
    · refine Or.inr ⟨⟨_, (Mv.new (S := []) np).sqT hl⟩, ?_⟩
      refine for_tup (K := K) (a := l) (xs := xs) (fun i σ H2 => ∃ (ms : List V) (y : Option V), σ = [some (.ref b), some (.ref l), some (.ref p), y] ∧ H2 p = some (.lst ms) ∧ ms.Perm (xs.take i) ∧ Dr b H H2)
        ⟨[], none, rfl, upd_same, by simp, Dr.new np⟩ (fun i σ H2 _ h2 => ?_) (fun i x σ H2 hx h2 => ?_) (fun σ H2 h2 => ?_)
      · obtain ⟨_, _, _, _, _, d⟩ := h2
        exact d.mv.sqT hl
      · obtain ⟨ms, y, rfl, e2, s2, d2⟩ := h2
        have hi := (List.getElem?_eq_some_iff.mp hx).1
        have l2 : ms.length = i := by rw [s2.length_eq, List.length_take]; omega
        refine ⟨.ref p, rfl, .inl ⟨rfl, _, .inl (.inl e2)⟩, .ref b, rfl, .ref p, rfl, ?_⟩
        walk_at "nn"
        refine rd_len (.inl (.inl (.inl e2))) ?_
        refine Or.inl ⟨_, 1, rfl, rfl, b, _, rfl, d2.bag hB, by omega, by omega, fun j H3 hj0 hj1 d3 => ?_⟩
        have e3 := d3.get hpb e2
        refine ⟨x, rfl, p, _, j, x, rfl, rfl, e3, small1000 (by omega), hj0, by omega, ?_⟩
        refine ⟨ms.take j.toNat ++ [x] ++ ms.drop j.toNat, _, rfl, ?_, ?_, (d2.trans d3).wr np⟩
        · rw [upd_same]
          first | done | simp
        · rw [List.take_add_one, hx]
          exact (perm_ins ms j.toNat x).trans (s2.append_right _)
      · obtain ⟨ms, y, rfl, e2, s2, d2⟩ := h2
        rw [List.take_length] at s2
        exact ⟨.ref p, rfl, q p ms H2 s2 np e2 d2⟩
end
end Fm
namespace Fm
open PySem PySem.Spec PyProof.Rows L2
local macro_rules | `(tactic| walk_at "nn") => `(tactic| dsimp only [tC, tNil, tCons, tCB, tCall, gName, tSeq, tAsg, tPar, tDrop, tRet])
local macro_rules | `(tactic| walk_at "nc") => `(tactic| dsimp only [tC, tNil, tCons, tCB, tCall])
/-! terms over some variables -/
mutual
def under (many : Int) : Th → Bool
  | .int i => decide (i < many)
  | .tup (_ :: ts) => unders many ts
  | _ => true
def unders (many : Int) : List Th → Bool
  | [] => true
  | t :: ts => under many t && unders many ts
end
theorem unders_append (many : Int) (ts us : List Th) : unders many (ts ++ us) = (unders many ts && unders many us) := by
  induction ts with
  | nil => simp [unders]
  | cons t ts ih => simp [unders, ih, Bool.and_assoc]
def sp_termOver (K : PySem.W.Frag) : Sp := fun vs H Q _ => ∃ (many : Int) (v : V) (t : Th) (b : Addr), vs = [.int many, v] ∧ Is K b H v t ∧ t.cnt ≤ 90000 ∧ ∀ H', Mv [] H H' → Q (.bl (isTerm t && under many t)) H'
section
variable {P : Program} {w : World} {K : PySem.W.Frag} {mg : Str → Option Value} {base : Heap}
end
end Fm
namespace Fm
open PySem PySem.Spec PyProof.Rows L2 SlX
local macro_rules | `(tactic| walk_at "nn") => `(tactic| dsimp only [tC, tNil, tCons, tCB, tCall, gName, tSeq, tAsg, tPar, tDrop, tRet])
local macro_rules | `(tactic| walk_at "nc") => `(tactic| dsimp only [tC, tNil, tCons, tCB, tCall])
/-- a name of an outcome -/
def On (x : Str) : Prop := isOutc (.str x) = true ∧ x.length ≤ 9
theorem on_nm {x : Str} (h : Nm x) : On x := by
  refine ⟨?_, by have := h.2.1; omega⟩
  have hd : dashed x = false := by
    unfold dashed
    refine decide_eq_false fun e => ?_
    have h1 : 45 ∈ x.cps.toList := List.mem_of_mem_drop (i := x.length - 1) (by rw [e]; simp)
    have := h.2.2 45 h1
    omega
  simp only [isOutc]
  rw [hd]
  exact nmd_nm h
theorem on_ok {x : Str} (h : On x) : PyData.strOk x = true := by
  show x.cps.all (· < 0x110000) = true
  rw [Array.all_eq_true_iff_forall_mem]
  have low : ∀ z : Str, nmd z = true → ∀ c ∈ z.cps.toList, c < 0x110000 := fun z hz c hc => by
    unfold nmd at hz
    rw [Bool.and_eq_true, List.all_eq_true] at hz
    have := hz.2 c hc
    have k : ∀ c ∈ lettersS.cps.toList, c < 0x110000 := by decide +kernel
    exact k c (of_decide_eq_true this)
  intro c hc
  have hc' : c ∈ x.cps.toList := by simpa using hc
  have h1 := h.1
  simp only [isOutc] at h1
  simp only [decide_eq_true_eq]
  split at h1
  · rename_i hd
    have hd' : x.cps.toList.drop (x.length - 1) = [45] := of_decide_eq_true hd
    rw [← List.take_append_drop (x.length - 1) x.cps.toList, hd'] at hc'
    rcases List.mem_append.mp hc' with hc' | hc'
    · exact low _ h1 c (by simpa [initS] using hc')
    · rw [List.mem_singleton] at hc'
      omega
  · exact low x h1 c hc'
structure ActR.ok (r : ActR) : Prop where
  nm : Nm r.nm
  ar0 : 0 ≤ r.ar
  ar2 : r.ar ≤ 2
  o1 : 1 ≤ r.outs.length
  o6 : r.outs.length ≤ 6
  on : ∀ e ∈ r.outs, On e.1 ∧ 0 ≤ e.2 ∧ e.2 ≤ 2
theorem ActR.ok_norm {r : ActR} (h : r.ok) : r.norm.ok := ⟨h.nm, h.ar0, h.ar2, by simp only [ActR.norm]; rw [srt_len]; exact h.o1, by simp only [ActR.norm]; rw [srt_len]; exact h.o6, fun e he => h.on e (srt_mem.mp he)⟩
def within (m : Int) : Th → Bool
  | .int i => decide (0 ≤ i) && decide (i ≤ m)
  | _ => false
def sp_within (K : PySem.W.Frag) : Sp := fun vs H Q _ => ∃ (v : V) (t : Th) (b : Addr) (m : Int), vs = [v, .int m] ∧ Is K b H v t ∧ ∀ H', Mv [] H H' → Q (.bl (within m t)) H'
def sp_outs : Sp := fun vs H Q _ => ∃ (o : Addr) (rows : List (Str × Int)), vs = [.ref o] ∧ H o = some (.dK (rows.map rowK)) ∧ (rows.map (·.1)).Nodup ∧ 1 ≤ rows.length ∧ rows.length ≤ 6 ∧ (∀ e ∈ rows, On e.1 ∧ 0 ≤ e.2 ∧ e.2 ≤ 2) ∧ ∀ H', Mv [] H H' → Q (.bl true) H'
def sp_act (K : PySem.W.Frag) : Sp := fun vs H Q _ => ∃ (r : ActR) (a o : Addr), vs = [.ref a] ∧ SqT K H a [.int r.ar, .ref o] ∧ H o = some (.dK (r.outs.map rowK)) ∧ (r.outs.map (·.1)).Nodup ∧ r.ok ∧ ∀ H', Mv [] H H' → Q (.bl true) H'
theorem tyx_sqT {K : PySem.W.Frag} {H : Hp} {a : Addr} {xs : List V} (h : SqT K H a xs) : TyX K H (.ref a) (.type "tuple") := by
  rcases h with (hs | ⟨o, hs⟩) | ⟨o, its, n, hk, hc, _⟩
  · exact .base (.tup hs)
  · exact .fTuple hs
  · exact .kTuple hk hc
theorem hu1_of {k : Nat} {A : Around} (h : Room k A) : A.units + 1 < cLine := by
  have := hu65_of h
  omega
section
variable {P : Program} {w : World} {K : PySem.W.Frag} {mg : Str → Option Value} {base : Heap}
theorem ok_is_within (T : TX K mg) {k : Nat} : FnOk P w K mg base CX0 (k + 2) T.d_is_within.f T.d_is_within.fd P_is_within (sp_within K) := by
  have G_is_integer : FnOk P w K mg base CX0 1 T.d_is_integer.f T.d_is_integer.fd P_is_integer (sp_kind K isWhole) := ok_is_integer T
  refine T.d_is_within.F.ok sc_is_within (fun vs H Q E h => ?_) (fun cdv A outer s H vs Q E hr h => ?_)
  · obtain ⟨_, _, _, _, rfl, _⟩ := h
    rfl
  · obtain ⟨v, t, b, m, rfl, hv, q⟩ := h
    refine ⟨_, (pss_one (ps_ret (pe_and (pe_call G_is_integer (hr.mono (by omega)) rfl T.d_is_integer.g T.d_is_integer.F.kp T.d_is_integer.b .nil pass0 (pa_cons (pv 0) pa_nil)) (pe_one (pe_chain op_le op_le pe_int (pv 0) (pv 1)))))), ?_⟩
    refine ⟨v, rfl, v, t, b, rfl, hv, fun H1 m1 => ⟨_, rfl, ?_⟩⟩
    cases t with
    | int i =>
      cases (show v = V.int i from hv)
      refine ⟨.int i, rfl, 0, i, rfl, rfl, _, rfl, ite2 (fun e => ?_) (fun e => ?_)⟩
      · refine ⟨.int m, rfl, i, m, rfl, rfl, ?_⟩
        have := q H1 m1
        simp only [within] at this
        rw [show decide (0 ≤ i) = true from e] at this
        exact this
      · have := q H1 m1
        simp only [within] at this
        rw [show decide (0 ≤ i) = false by simpa using e] at this
        exact this
    | bl c => exact q H1 m1
    | non => exact q H1 m1
    | str x => exact q H1 m1
    | tup ts => exact q H1 m1
    | lst => exact q H1 m1
    | dct => exact q H1 m1
theorem ok_are_outcomes (T : TX K mg) {k : Nat} : FnOk P w K mg base CX0 (k + 3) T.d_are_outcomes.f T.d_are_outcomes.fd P_are_outcomes sp_outs := by
  have G_is_outcome : FnOk P w K mg base CX0 2 T.d_is_outcome.f T.d_is_outcome.fd P_is_outcome (sp_kind K isOutc) := ok_is_outcome T
  have G_is_within : FnOk P w K mg base CX0 2 T.d_is_within.f T.d_is_within.fd P_is_within (sp_within K) := ok_is_within T
  refine T.d_are_outcomes.F.ok sc_are_outcomes (fun vs H Q E h => ?_) (fun cdv A outer s H vs Q E hr h => ?_)
  · obtain ⟨_, _, rfl, _⟩ := h
    rfl
  · obtain ⟨o, rows, rfl, ho, hnd, h1, h6, hon, q⟩ := h
    have hu65 := hu65_of hr
    have hu1 := hu1_of hr
    refine ⟨_, (pss_cons (ps_if (PW.pt (pw_or (pt_not (pt_val (pe_callB (r := rIsi K) call_isi (by rfl) T.b_isinstance bt_isinstance (pa_cons (pv 0) (pa_cons (pe_ty T.b_dict bt_dict) pa_nil))))) (pw_or1 (pt_not (pt_chain op_le op_le pe_int (pe_callB (r := rLenG K) call_lenG (by rfl) T.b_len bt_len (pa_cons (pv 0) pa_nil)) (pe_glob rfl T.c_MOST_OUTCOMES T.r_MOST_OUTCOMES)))))) (pss_one (ps_ret pe_bl)) pss_nil) (pss_one (ps_ret (pe_callB (r := rAll K) (cr_all rfl) (by rfl) T.b_all bt_all (pa_cons (pe_lock (pe_lc (own := [("outcome", 1)]) (g := gName 1) (by rfl) sc_are_outcomes.nd (pi_keys (pv 0)) (blkOk_by (own := [("outcome", 1)]) (N := N_are_outcomes) (sc := defScope s_are_outcomes) (by decide +kernel)) (fun _ _ _ _ _ => pg_name (i := 1) sc_are_outcomes.nd rfl (Or.inl rfl)) (fun _ _ _ _ _ => pts_nil) (fun _ _ _ _ _ => (pe_and (pe_call G_is_outcome (hr.mono (by omega)) rfl T.d_is_outcome.g T.d_is_outcome.F.kp T.d_is_outcome.b .nil pass0 (pa_cons (pv 1) pa_nil)) (pe_one (pe_call G_is_within (hr.mono (by omega)) rfl T.d_is_within.g T.d_is_within.F.kp T.d_is_within.b .nil pass0 (pa_cons (pe_dget hu1 (pv 0) (pv 1) (fun _ _ => rfl)) (pa_cons (pe_glob rfl T.c_MOST_BROUGHT T.r_MOST_BROUGHT) pa_nil)))))))) pa_nil))))), ?_⟩
    refine ⟨.ref o, rfl, ?_⟩
    walk_at "nn"
    refine ⟨_, _, _, _, true, rfl, .ty "dict", .base (.dK ho), kit_ty (by decide +kernel), ?_⟩
    refine ⟨_, rfl, ?_⟩
    refine ⟨.ref o, rfl, ?_⟩
    walk_at "nc"
    refine Or.inr (Or.inr ⟨o, _, rfl, ho, 1, _, rfl, rfl, _, rfl, ?_⟩)
    have hln : (rows.map rowK).length = rows.length := List.length_map _
    rw [hln, show decide ((1 : Int) ≤ ((rows.length : Nat) : Int)) = true from decide_eq_true (by omega)]
    refine ⟨_, 6, rfl, rfl, _, rfl, ?_⟩
    rw [show decide (((rows.length : Nat) : Int) ≤ 6) = true from decide_eq_true (by omega)]
    refine ⟨o, _, ho, trivial, fun od => ?_⟩
    have m0 := Mv.lock (od := od) ho (fun _ z => by cases z) (fun _ _ z => by cases z)
    have e0 : upd H o (.frz od (.dK (rows.map rowK))) o = some (.frz od (.dK (rows.map rowK))) := upd_same
    have un : ∀ H', Mv [] (upd H o (.frz od (.dK (rows.map rowK)))) H' → Mv [] H (upd H' o (.dK (rows.map rowK))) := fun H' m => Mv.unlock ho (fun _ z => by cases z) (fun _ _ z => by cases z) m
    generalize upd H o (.frz od (.dK (rows.map rowK))) = H1 at m0 e0 un ⊢
    refine ⟨.ref o, rfl, o, od, rfl, Or.inl ⟨_, e0, fun D nD => ?_⟩⟩
    refine lc_it walk_keys (fun i H2 => H2 D = some (.lst ((List.replicate i true).map V.bl)) ∧ Mv [] H1 H2) ⟨upd_same, .new nD⟩ (fun i H2 _ h2 => h2.2.same _ _ e0) (fun i x H2 H3 hi h2 y => ?_) (fun H2 h2 => ?_)
    · obtain ⟨e2, m2⟩ := h2
      obtain ⟨rfl, k, v, hk, rfl⟩ := y
      rw [List.getElem?_map] at hk
      obtain ⟨e, he, hk⟩ := Option.map_eq_some_iff.mp hk
      obtain ⟨rfl, rfl⟩ := Prod.mk.inj hk
      have hm := List.mem_of_getElem? he
      obtain ⟨o1, o2, o3⟩ := hon e hm
      refine ⟨rfl, ?_⟩
      refine ⟨.str e.1, rfl, .str e.1, .str e.1, o, rfl, ⟨rfl, by have := o1.2; omega⟩, fun H4 m4 => ?_⟩
      rw [o1.1]
      refine ⟨_, rfl, ?_⟩
      have m14 := m2.trans m4
      refine ⟨.ref o, rfl, .str e.1, rfl, o, .int e.2, rfl, Or.inl ⟨_, .inr e.1, .inr ⟨od, m14.same _ _ e0⟩, rfl, (row_val hnd hm).symm⟩, ?_⟩
      refine ⟨.int e.2, .int e.2, o, 2, rfl, rfl, fun H5 m5 => ?_⟩
      rw [show within 2 (.int e.2) = true by simp [within, o2, o3]]
      have m15 := m14.trans m5
      refine ⟨_, m5.same _ _ (m4.same _ _ e2), ?_, ?_, ?_⟩
      · rw [List.length_map, List.length_replicate]
        have : i < rows.length := by rw [hln] at hi; exact hi
        exact Nat.lt_of_le_of_lt (show i ≤ 10 by omega) (by decide)
      · rw [upd_same, List.replicate_succ', List.map_append]
        rfl
      · exact m15.wr nD
    · obtain ⟨e2, m2⟩ := h2
      refine ⟨m2.same _ _ e0, D, List.replicate (rows.map rowK).length true, rfl, .inl (.inl ?_), ?_⟩
      · rw [upd_ne (by rintro rfl; rw [e0] at nD; cases nD)]
        exact e2
      · rw [show (List.replicate (rows.map rowK).length true).all id = true by simp]
        exact q _ (un H2 m2)
theorem ok_is_act (T : TX K mg) {k : Nat} : FnOk P w K mg base CX0 (k + 4) T.d_is_act.f T.d_is_act.fd P_is_act (sp_act K) := by
  have G_are_outcomes : FnOk P w K mg base CX0 3 T.d_are_outcomes.f T.d_are_outcomes.fd P_are_outcomes sp_outs := ok_are_outcomes T
  have G_is_within : FnOk P w K mg base CX0 2 T.d_is_within.f T.d_is_within.fd P_is_within (sp_within K) := ok_is_within T
  refine T.d_is_act.F.ok sc_is_act (fun vs H Q E h => ?_) (fun cdv A outer s H vs Q E hr h => ?_)
  · obtain ⟨_, _, _, rfl, _⟩ := h
    rfl
  · obtain ⟨r, a, o, rfl, ha, ho, hnd, hok, q⟩ := h
    have hu64 := hr.units
    refine ⟨_, (pss_cons (ps_if (PW.pt (pw_or (pt_not (pt_val (pe_callB (r := rIsi K) call_isi (by rfl) T.b_isinstance bt_isinstance (pa_cons (pv 0) (pa_cons (pe_ty T.b_tuple bt_tuple) pa_nil))))) (pw_or1 (pt_cmpR (r := rNeG K) (op_neG hu64) (pe_callB (r := rLenG K) call_lenG (by rfl) T.b_len bt_len (pa_cons (pv 0) pa_nil)) pe_int (nomark _))))) (pss_one (ps_ret pe_bl)) pss_nil) (pss_one (ps_ret (pe_and (pe_call G_is_within (hr.mono (by omega)) rfl T.d_is_within.g T.d_is_within.F.kp T.d_is_within.b .nil pass0 (pa_cons (pe_ix (r := rIx K) ix_seq (pv 0) pe_int (fun _ _ => rfl)) (pa_cons (pe_glob rfl T.c_MOST_ARGUMENTS T.r_MOST_ARGUMENTS) pa_nil))) (pe_one (pe_call G_are_outcomes (hr.mono (by omega)) rfl T.d_are_outcomes.g T.d_are_outcomes.F.kp T.d_are_outcomes.b .nil pass0 (pa_cons (pe_ix (r := rIx K) ix_seq (pv 0) pe_int (fun _ _ => rfl)) pa_nil))))))), ?_⟩
    refine ⟨.ref a, rfl, ?_⟩
    walk_at "nn"
    refine ⟨_, _, _, _, true, rfl, .ty "tuple", tyx_sqT ha, kit_ty (by decide +kernel), ?_⟩
    refine ⟨_, rfl, ?_⟩
    refine ⟨.ref a, rfl, ?_⟩
    walk_at "nc"
    refine rd_len (.inr ha) (Or.inl ⟨rfl, _, rfl, ?_⟩)
    refine ⟨.ref a, rfl, rd_ixT ha (by decide) (v := .int r.ar) rfl ?_⟩
    refine ⟨.int r.ar, .int r.ar, o, 2, rfl, rfl, fun H1 m1 => ?_⟩
    rw [show within 2 (.int r.ar) = true by simp [within, hok.ar0, hok.ar2]]
    refine ⟨_, rfl, ?_⟩
    refine ⟨.ref a, rfl, rd_ixT (m1.sqT ha) (by decide) (v := .ref o) rfl ?_⟩
    exact ⟨o, r.outs, rfl, m1.same _ _ ho, hnd, hok.o1, hok.o6, hok.on, fun H2 m2 => q H2 (m1.trans m2)⟩
end
end Fm
namespace Fm
open PySem PySem.Spec PyProof.Rows L2 SlX
local macro_rules | `(tactic| walk_at "nn") => `(tactic| dsimp only [tC, tNil, tCons, tCB, tCall, gName, tSeq, tAsg, tPar, tDrop, tRet])
local macro_rules | `(tactic| walk_at "nc") => `(tactic| dsimp only [tC, tNil, tCons, tCB, tCall])
/-- a World whose dicts are new -/
def WldF (K : PySem.W.Frag) (H0 H : Hp) (C x : Addr) (rs : List ActR) : Prop := ∃ dx d zs, Slt H x C dx [some (.ref d)] ∧ ActsAt K H d zs ∧ zs.map (·.r) = rs ∧ H0 d = none ∧ ∀ z ∈ zs, H0 z.o = none
theorem WldF.at_ {K : PySem.W.Frag} {H0 H : Hp} {C x : Addr} {rs : List ActR} (h : WldF K H0 H C x rs) : WldAt K H C x rs := by
  obtain ⟨dx, d, zs, h1, h2, h3, _⟩ := h
  exact ⟨dx, d, zs, h1, h2, h3⟩
/-- World(d), d a dict of acts -/
def sp_World (K : PySem.W.Frag) (C : Addr) : Sp := fun vs H Q _ => ∃ (x dx d : Addr) (zs : List ActA) (H0 : Hp), vs = [.ref x, .ref d] ∧ H = upd (upd H0 dx (.own x)) x (.ins C dx []) ∧ H0 x = none ∧ H0 dx = none ∧ dx ≠ x ∧ ActsAt K H0 d zs ∧ (∀ z ∈ zs, z.r.ok) ∧ zs.length < 60 ∧
  ∀ H', Mv [] H0 H' → WldF K H0 H' C x (normW (zs.map (·.r))) → Q .non H'
section
variable {P : Program} {w : World} {K : PySem.W.Frag} {mg : Str → Option Value} {base : Heap}
theorem ok_World___init__ (T : TX K mg) {k : Nat} : FnOk P w K mg base CX0 (k + 5) T.d_World___init__.f T.d_World___init__.fd P_World___init__ (sp_World K T.C_World) := by
  have G_is_name : FnOk P w K mg base CX0 1 T.d_is_name.f T.d_is_name.fd P_is_name (sp_kind K isNamed) := ok_is_name T
  have G_is_act : FnOk P w K mg base CX0 4 T.d_is_act.f T.d_is_act.fd P_is_act (sp_act K) := ok_is_act T
  refine T.d_World___init__.F.ok sc_World___init__ (fun vs H Q E h => ?_) (fun cdv A outer s H vs Q E hr h => ?_)
  · obtain ⟨_, _, _, _, _, rfl, _⟩ := h
    rfl
  · obtain ⟨x, dx, d, zs, H0, rfl, eH, nx, ndx, hne, hA0, hok, hfew, q⟩ := h
    have hu1 := hu1_of hr
    refine ⟨_, (pss_cons (ps_if (PW.pt (pw_or (pt_not (pt_val (pe_callB (r := rIsi K) call_isi (by rfl) T.b_isinstance bt_isinstance (pa_cons (pv 1) (pa_cons (pe_ty T.b_dict bt_dict) pa_nil))))) (pw_or1 (pt_not (pt_val (pe_callB (r := rAll K) (cr_all rfl) (by rfl) T.b_all bt_all (pa_cons (pe_lock (pe_lc (own := [("name", 2)]) (g := gName 2) (by rfl) sc_World___init__.nd (pi_keys (pv 1)) (blkOk_by (own := [("name", 2)]) (N := N_World___init__) (sc := defScope s_World___init__) (by decide +kernel)) (fun _ _ _ _ _ => pg_name (i := 2) sc_World___init__.nd rfl (Or.inl rfl)) (fun _ _ _ _ _ => pts_nil) (fun _ _ _ _ _ => (pe_call G_is_name (hr.mono (by omega)) rfl T.d_is_name.g T.d_is_name.F.kp T.d_is_name.b .nil pass0 (pa_cons (pv 2) pa_nil))))) pa_nil))))))) (pss_one ps_never) pss_nil) (pss_cons (ps_for PassesOwn.never rfl (pi_seq (pe_callB (r := rSortA K) (cr_sortA rfl) (by rfl) T.b_sorted bt_sorted (pa_cons (pv 1) pa_nil))) (pg_name (i := 2) sc_World___init__.nd rfl (Or.inl rfl)) (pss_one (ps_if (pt_not (pt_val (pe_call G_is_act (hr.mono (by omega)) rfl T.d_is_act.g T.d_is_act.F.kp T.d_is_act.b .nil pass0 (pa_cons (pe_dget hu1 (pv 1) (pv 2) (fun _ _ => rfl)) pa_nil)))) (pss_one ps_never) pss_nil))) (pss_one (ps_sl (pv 0) (pe_dc rfl (own := [("name", 2)]) (g := gName 2) sc_World___init__.nd (pi_seq (pe_callB (r := rSortA K) (cr_sortA rfl) (by rfl) T.b_sorted bt_sorted (pa_cons (pv 1) pa_nil))) (blkOk_by (own := [("name", 2)]) (N := N_World___init__) (sc := defScope s_World___init__) (by decide +kernel)) (fun _ _ _ _ _ => pg_name (i := 2) sc_World___init__.nd rfl (Or.inl rfl)) (fun _ _ _ _ _ => pts_nil) (fun _ _ _ _ _ => (pv 2)) (fun _ _ _ _ _ => (pe_tup (pa_cons (pe_ix (r := rIx K) ix_seq (pe_dget hu1 (pv 1) (pv 2) (fun _ _ => rfl)) pe_int (fun _ _ => rfl)) (pa_cons (pe_callTy (r := rDictG K) (call_dictG rfl) (by rfl) T.b_dict bt_dict (pa_cons (pe_callB (r := rSortSI) (cr_sortSI rfl) (by rfl) T.b_sorted bt_sorted (pa_cons (pe_bm0C (K := K) rfl PySem.F.plainAttrs_dict PySem.F.slot_dict_items PySem.F.type_dict_items mt_itemsK (pe_ix (r := rIx K) ix_seq (pe_dget hu1 (pv 1) (pv 2) (fun _ _ => rfl)) pe_int (fun _ _ => rfl))) pa_nil)) pa_nil)) pa_nil))))))))), ?_⟩
    have mH : Mv [] H0 H := by
      rw [eH]
      exact (Mv.new ndx).wr nx
    have hx : H x = some (.ins T.C_World dx []) := by rw [eH]; exact upd_same
    have hdx : H dx = some (.own x) := by rw [eH, upd_ne hne]; exact upd_same
    have hA := hA0.mv mH
    have hd := hA.at_
    clear eH
    refine ⟨.ref d, rfl, ?_⟩
    walk_at "nn"
    refine ⟨_, _, _, _, true, rfl, .ty "dict", .base (.dK hd), kit_ty (by decide +kernel), ?_⟩
    refine ⟨_, rfl, ?_⟩
    refine ⟨d, _, hd, trivial, fun od => ?_⟩
    have e0 : upd H d (.frz od (.dK (zs.map ActA.kv))) d = some (.frz od (.dK (zs.map ActA.kv))) := upd_same
    have un : ∀ H', Mv [] (upd H d (.frz od (.dK (zs.map ActA.kv)))) H' → Mv [] H (upd H' d (.dK (zs.map ActA.kv))) := fun H' m => Mv.unlock hd (fun _ z => by cases z) (fun _ _ z => by cases z) m
    generalize upd H d (.frz od (.dK (zs.map ActA.kv))) = H1 at e0 un ⊢
    refine ⟨.ref d, rfl, d, od, rfl, Or.inl ⟨_, e0, fun D nD => ?_⟩⟩
    refine lc_it walk_keys (fun i H2 => H2 D = some (.lst ((List.replicate i true).map V.bl)) ∧ Mv [] H1 H2) ⟨upd_same, .new nD⟩ (fun i H2 _ h2 => h2.2.same _ _ e0) (fun i y H2 H3 hi h2 yy => ?_) (fun H2 h2 => ?_)
    · obtain ⟨e2, m2⟩ := h2
      obtain ⟨rfl, k, v, hk, rfl⟩ := yy
      rw [List.getElem?_map] at hk
      obtain ⟨z, he, hk⟩ := Option.map_eq_some_iff.mp hk
      obtain ⟨rfl, rfl⟩ := Prod.mk.inj hk
      have hm := List.mem_of_getElem? he
      have o1 := (hok z hm).nm
      refine ⟨rfl, ?_⟩
      refine ⟨.str z.r.nm, rfl, .str z.r.nm, .str z.r.nm, d, rfl, ⟨rfl, by have := o1.2.1; omega⟩, fun H4 m4 => ?_⟩
      rw [show isNamed (.str z.r.nm) = true from nmd_nm o1]
      refine ⟨_, m4.same _ _ e2, ?_, ?_, (m2.trans m4).wr nD⟩
      · rw [List.length_map, List.length_replicate]
        have : i < zs.length := by rw [List.length_map] at hi; exact hi
        exact Nat.lt_of_le_of_lt (show i ≤ 100 by omega) (by decide)
      · rw [upd_same, List.replicate_succ', List.map_append]
        rfl
    · obtain ⟨e2, m2⟩ := h2
      refine ⟨m2.same _ _ e0, D, List.replicate (zs.map ActA.kv).length true, rfl, .inl (.inl ?_), ?_⟩
      · rw [upd_ne (by rintro rfl; rw [e0] at nD; cases nD)]
        exact e2
      · rw [show (List.replicate (zs.map ActA.kv).length true).all id = true by simp]
        have m3 := un H2 m2
        generalize upd H2 d (.dK (zs.map ActA.kv)) = H3 at m3 ⊢
        have hd3 := m3.same _ _ hd
        have hA3 := hA.mv m3
        have hlz : (zs.map (·.r.nm)).length < 64 := by rw [List.length_map]; omega
        refine ⟨_, rfl, ?_⟩
        refine ⟨.ref d, rfl, Or.inl ⟨d, _, zs.map (·.r.nm), rfl, .inl hd3, kv_keys zs, hlz, fun ys p hp hs np => ⟨p, rfl, ?_⟩⟩⟩
        have hys := srt_keys totS hA.nd hp (sortedS_pw ys hs)
        generalize hss : srt leS (fun z : ActA => z.r.nm) zs = ss at hys
        subst hys
        refine for_seq (xs := (ss.map (·.r.nm)).map V.str) (.inl (.inl (.inl upd_same))) (fun i σ H4 => ∃ y, σ = [some (.ref x), some (.ref d), y] ∧ Mv [] (upd H3 p (.lst ((ss.map (·.r.nm)).map V.str))) H4)
          ⟨none, rfl, .refl⟩ (fun i σ H4 h4 => h4.choose_spec.2) (fun i y σ H4 hy h4 => ?_) (fun σ H4 h4 => ?_)
        · obtain ⟨y0, rfl, m4⟩ := h4
          rw [List.getElem?_map, List.getElem?_map, Option.map_map] at hy
          obtain ⟨z, hz, rfl⟩ := Option.map_eq_some_iff.mp hy
          have hzs : z ∈ zs := by rw [← srt_mem (le := leS) (k := fun z : ActA => z.r.nm), hss]; exact List.mem_of_getElem? hz
          have hA4 := hA3.mv ((Mv.new np).trans m4)
          refine ⟨.ref d, rfl, .str z.r.nm, rfl, d, .ref z.a, rfl, Or.inl ⟨_, .inr z.r.nm, .inl hA4.at_, rfl, (hA4.val hzs).symm⟩, ?_⟩
          refine ⟨z.r, z.a, z.o, rfl, hA4.tup z hzs, hA4.out z hzs, hA4.ond z hzs, hok z hzs, fun H5 m5 => ?_⟩
          exact ⟨_, rfl, _, rfl, m4.trans m5⟩
        · obtain ⟨y0, rfl, m4⟩ := h4
          have m34 := (Mv.new np).trans m4
          have hA4 := hA3.mv m34
          have nss : (ss.map (·.r.nm)).Nodup := by rw [← hss]; exact srt_nd hA.nd
          have hsub : ∀ z ∈ ss, z ∈ zs := fun z hz => by rw [← srt_mem (le := leS) (k := fun z : ActA => z.r.nm), hss]; exact hz
          have hls : ss.length < 60 := by rw [← hss, srt_len]; exact hfew
          refine ⟨.ref d, rfl, Or.inl ⟨d, _, zs.map (·.r.nm), rfl, .inl hA4.at_, kv_keys zs, hlz, fun ys2 p2 hp2 hs2 np2 => ⟨p2, rfl, Or.inl ⟨⟨_, .inl (.inl upd_same)⟩, fun D nD => ?_⟩⟩⟩⟩
          have hys2 := srt_keys totS hA.nd hp2 (sortedS_pw ys2 hs2)
          rw [hss] at hys2
          subst hys2
          have e6 : upd H4 p2 (.lst ((ss.map (·.r.nm)).map V.str)) p2 = some (.lst ((ss.map (·.r.nm)).map V.str)) := upd_same
          have m46 : Mv [] H4 (upd H4 p2 (.lst ((ss.map (·.r.nm)).map V.str))) := .new np2
          generalize upd H4 p2 (.lst ((ss.map (·.r.nm)).map V.str)) = H6 at e6 m46 nD ⊢
          have hA6 := hA4.mv m46
          refine dc_it walk_list (fun i H7 => ∃ ws : List ActA, H7 D = some (.dK (ws.map ActA.kv)) ∧ ws.map (·.r) = (ss.take i).map (·.r.norm) ∧ (∀ w ∈ ws, SqT K H7 w.a [.int w.r.ar, .ref w.o] ∧ H7 w.o = some (.dK (w.r.outs.map rowK)) ∧ w.o ≠ D ∧ H6 w.o = none) ∧ Mv [] H6 H7)
            ⟨[], upd_same, by simp, fun _ h => absurd h List.not_mem_nil, .new nD⟩ (fun i H7 _ h7 => .inl (.inl (h7.choose_spec.2.2.2.same _ _ e6))) (fun i y H7' H7 hi h7 yy => ?_) (fun H7 h7 => ?_)
          · obtain ⟨ws, e7, r7, c7, m7⟩ := h7
            obtain ⟨rfl, hy⟩ := yy
            rw [List.getElem?_map, List.getElem?_map, Option.map_map] at hy
            obtain ⟨z, hz, rfl⟩ := Option.map_eq_some_iff.mp hy
            have hzs := hsub z (List.mem_of_getElem? hz)
            have hA7 := hA6.mv m7
            refine ⟨rfl, .str z.r.nm, rfl, ?_⟩
            refine ⟨.ref d, rfl, .str z.r.nm, rfl, d, .ref z.a, rfl, Or.inl ⟨_, .inr z.r.nm, .inl hA7.at_, rfl, (hA7.val hzs).symm⟩, ?_⟩
            refine rd_ixT (hA7.tup z hzs) (by decide) (v := .int z.r.ar) rfl ?_
            refine ⟨.ref d, rfl, .str z.r.nm, rfl, d, .ref z.a, rfl, Or.inl ⟨_, .inr z.r.nm, .inl hA7.at_, rfl, (hA7.val hzs).symm⟩, ?_⟩
            refine rd_ixT (hA7.tup z hzs) (by decide) (v := .ref z.o) rfl ?_
            refine ⟨.inr (.inr (.inl ⟨rfl, .inl ⟨_, hA7.out z hzs⟩⟩)), z.o, _, rfl, rfl, hA7.out z hzs, fun p8 np8 => ?_⟩
            have hzo : z.o ≠ p8 := ne_of_none (hA7.out z hzs) np8
            refine ⟨p8, z.o, z.r.outs, rfl, upd_same, by rw [upd_ne hzo]; exact hA7.out z hzs, fun H9 l ps k9 nl hpm hpw hl hps => ?_⟩
            have hqs := srt_outs (hA7.ond z hzs) hpm hpw
            have m79 : Mv [] H7 H9 := (Mv.new np8).trans (.of_same k9)
            refine Or.inl ⟨l, ps.map (·.1), (ps.map (·.2)).map rowK, rfl, .inl (.inl (by rw [hl, List.map_map]; rfl)), paired_rows ps hps, fun p10 np10 => ?_⟩
            rw [mergeK_nd _ _ (by rw [List.nil_append, row_keys, hqs]; exact nd_inr (srt_nd (hA7.ond z hzs))), List.nil_append, hqs]
            have m710 := m79.trans (Mv.new (o := .dK ((srt leS (·.1) z.r.outs).map rowK)) np10)
            have e10 : upd H9 p10 (.dK ((srt leS (·.1) z.r.outs).map rowK)) p10 = some (.dK ((srt leS (·.1) z.r.outs).map rowK)) := upd_same
            have hpD : p10 ≠ D := (ne_of_none (m79.same _ _ e7) np10).symm
            have fp10 : H6 p10 = none := (m7.trans m79).free np10
            generalize upd H9 p10 (.dK ((srt leS (·.1) z.r.outs).map rowK)) = H10 at m710 e10 ⊢
            refine ⟨(by decide : 2 ≤ sizeLine), fun p11 np11 => ⟨ws.map ActA.kv, .inr z.r.nm, rfl, ?_, ?_, ?_⟩⟩
            · exact same_new np11 _ _ (m710.same _ _ e7)
            · have : ws.length = (ss.take i).length := by
                have := congrArg List.length r7
                rwa [List.length_map, List.length_map] at this
              rw [List.length_map, this, List.length_take]
              exact Nat.lt_of_le_of_lt (show min i ss.length ≤ 100 by omega) (by decide)
            · have hnew : (.inr z.r.nm : L2.Key) ∉ (ws.map ActA.kv).map (·.1) := by
                rw [kv_keys, show ws.map (fun z : ActA => z.r.nm) = (ss.take i).map (fun z : ActA => z.r.nm) by
                  have := congrArg (List.map ActR.nm) r7
                  rw [List.map_map, List.map_map] at this
                  exact this]
                intro hmem
                obtain ⟨nm, hnm, he⟩ := List.mem_map.mp hmem
                cases he
                have hi' : i < ss.length := (List.getElem?_eq_some_iff.mp hz).1
                have n2 := nss
                rw [show ss = ss.take i ++ z :: ss.drop (i + 1) by rw [← (List.getElem?_eq_some_iff.mp hz).2, List.getElem_cons_drop, List.take_append_drop], List.map_append, List.nodup_append] at n2
                exact n2.2.2 _ hnm z.r.nm (by simp) rfl
              rw [putK_new hnew]
              have hD11 : upd H10 p11 (.tup [.int z.r.ar, .ref p10]) D = some (.dK (ws.map ActA.kv)) := same_new np11 _ _ (m710.same _ _ e7)
              have hm11 := Mv.putD (o := .dK (ws.map ActA.kv ++ [(.inr z.r.nm, .ref p11)])) hD11
              have m711 : Mv [] H7 (upd H10 p11 (.tup [.int z.r.ar, .ref p10])) := m710.trans (.new np11)
              refine ⟨ws ++ [⟨z.r.norm, p11, p10⟩], ?_, ?_, ?_, (m7.trans m711).wr nD⟩
              · rw [upd_same, List.map_append]
                rfl
              · rw [List.map_append, r7, List.take_add_one, hz]
                simp
              · intro w hw
                rcases List.mem_append.mp hw with hw | hw
                · obtain ⟨h1, h2, h3, h4⟩ := c7 w hw
                  exact ⟨hm11.sqT (m711.sqT h1), hm11.keep _ _ (by simpa using h3) (m711.same _ _ h2), h3, h4⟩
                · rw [List.mem_singleton] at hw
                  subst hw
                  refine ⟨hm11.sqT (.inl (.inl upd_same)), hm11.keep _ _ (by simpa using hpD) (same_new np11 _ _ e10), hpD, fp10⟩
          · obtain ⟨ws, e7, r7, c7, m7⟩ := h7
            have m37 := m34.trans (m46.trans m7)
            have mH7 := m3.trans m37
            refine ⟨.ref x, rfl, x, T.C_World, dx, T.p_World_its_acts, [], 0, rfl, Or.inl ⟨mH7.same _ _ hx, rfl⟩, T.c_World, T.sl_World_its_acts, ?_⟩
            have hxD : x ≠ D := by rintro rfl; rw [mH7.same _ _ hx] at e7; cases e7
            have hdxD : dx ≠ D := by rintro rfl; rw [mH7.same _ _ hdx] at e7; cases e7
            have hrl : ws.map (·.r) = normW (zs.map (·.r)) := by
              rw [r7, show ((ss.map (·.r.nm)).map V.str).length = ss.length by simp, List.take_length, ← hss]
              unfold normW
              rw [List.map_map, srt_map (k := fun z : ActA => z.r.nm) (l := fun x => x.nm) (f := ActR.norm ∘ fun x : ActA => x.r) totS (fun _ => rfl) hA.nd]
              rfl
            have keep : ∀ p o, H7 p = some o → p ≠ x → p ≠ dx → slH H7 x T.C_World dx (putS 0 (.ref D) []) p = some o := fun p o h h1 h2 => by rw [slH_ne h1 h2]; exact h
            have fr6 : ∀ {p}, H6 p = none → H0 p = none := fun {p} np => (mH.trans (m3.trans (m34.trans m46))).free np
            refine q _ ?_ ?_
            · unfold slH
              exact ((mH.trans mH7).wr ndx).wr nx
            · refine ⟨dx, D, ws, slH_slt hne, ⟨keep _ _ e7 hxD.symm hdxD.symm, ?_, fun w hw => ?_, fun w hw => ?_, fun w hw => ?_⟩, hrl, fr6 nD, fun w hw => fr6 (c7 w hw).2.2.2⟩
              · rw [show ws.map (fun z : ActA => z.r.nm) = ss.map (fun z : ActA => z.r.nm) by
                  rw [show ((ss.map (·.r.nm)).map V.str).length = ss.length by simp, List.take_length] at r7
                  have := congrArg (List.map ActR.nm) r7
                  rw [List.map_map, List.map_map] at this
                  exact this]
                exact nss
              · have h7x := mH7.same _ _ hx
                have h7d := mH7.same _ _ hdx
                have m1 : Mv [dx] H7 (upd H7 dx (.xd [])) := .put h7d (fun _ z => by cases z) (fun _ _ z => by cases z)
                have m2 : Mv [x] (upd H7 dx (.xd [])) (slH H7 x T.C_World dx (putS 0 (.ref D) [])) := .put (u := .ins T.C_World dx []) (by rw [upd_ne hne.symm]; exact h7x) (fun _ z => by cases z) (fun _ _ z => by cases z)
                exact m2.sqT (m1.sqT (c7 w hw).1)
              · have h2 := (c7 w hw).2.1
                exact keep _ _ h2 (by rintro e; rw [e, mH7.same _ _ hx] at h2; cases h2) (by rintro e; rw [e, mH7.same _ _ hdx] at h2; cases h2)
              · have : w.r ∈ ws.map (·.r) := List.mem_map.mpr ⟨w, hw, rfl⟩
                rw [r7] at this
                obtain ⟨z, hz, e⟩ := List.mem_map.mp this
                rw [← e]
                exact srt_nd (hA.ond z (hsub z (List.mem_of_mem_take hz)))
end
end Fm
namespace Fm
open PySem PySem.Spec PyProof.Rows L2 SlX
local macro_rules | `(tactic| walk_at "nn") => `(tactic| dsimp only [tC, tNil, tCons, tCB, tCall, gName, tSeq, tAsg, tPar, tDrop, tRet])
local macro_rules | `(tactic| walk_at "nc") => `(tactic| dsimp only [tC, tNil, tCons, tCB, tCall])
def sp_Wacts (K : PySem.W.Frag) (C : Addr) : Sp := fun vs H Q _ => ∃ (x : Addr) (rs : List ActR), vs = [.ref x] ∧ WldAt K H C x rs ∧ ∀ p, H p = none → Q (.ref p) (upd H p (.lst ((rs.map (·.nm)).map V.str)))
def sp_Wargs (K : PySem.W.Frag) (C : Addr) : Sp := fun vs H Q _ => ∃ (x : Addr) (rs : List ActR) (r : ActR), vs = [.ref x, .str r.nm] ∧ WldAt K H C x rs ∧ r ∈ rs ∧ Q (.int r.ar) H
def sp_Wouts (K : PySem.W.Frag) (C : Addr) : Sp := fun vs H Q _ => ∃ (x : Addr) (rs : List ActR) (r : ActR), vs = [.ref x, .str r.nm] ∧ WldAt K H C x rs ∧ r ∈ rs ∧ ∀ p, H p = none → Q (.ref p) (upd H p (.lst ((r.outs.map (·.1)).map V.str)))
def sp_Wbrings (K : PySem.W.Frag) (C : Addr) : Sp := fun vs H Q _ => ∃ (x : Addr) (rs : List ActR) (r : ActR) (y : Str) (i : Int), vs = [.ref x, .str r.nm, .str y] ∧ WldAt K H C x rs ∧ r ∈ rs ∧ (y, i) ∈ r.outs ∧ Q (.int i) H
section
variable {P : Program} {w : World} {K : PySem.W.Frag} {mg : Str → Option Value} {base : Heap}
theorem ok_World_acts (T : TX K mg) {k : Nat} : FnOk P w K mg base CX0 (k + 1) T.d_World_acts.f T.d_World_acts.fd P_World_acts (sp_Wacts K T.C_World) := by
  refine T.d_World_acts.F.ok sc_World_acts (fun vs H Q E h => ?_) (fun cdv A outer s H vs Q E hr h => ?_)
  · obtain ⟨_, _, rfl, _⟩ := h
    rfl
  · obtain ⟨x, rs, rfl, ⟨dx, d, zs, hs, hA, rfl⟩, q⟩ := h
    refine ⟨_, (pss_one (ps_ret (pe_callTy (r := rListG K) (call_listA rfl) (by rfl) T.b_list bt_list (pa_cons (pe_slC (K := K) rfl (pv 0)) pa_nil)))), ?_⟩
    refine ⟨.ref x, rfl, x, T.C_World, dx, T.p_World_its_acts, _, 0, .ref d, rfl, hs, T.c_World, T.sl_World_its_acts, rfl, ?_⟩
    refine Or.inr ⟨d, _, rfl, hA.at_, fun p np => ?_⟩
    have := q p np
    rw [List.map_map, List.map_map] at this
    rw [List.map_map]
    exact this
theorem ok_World_arguments (T : TX K mg) {k : Nat} : FnOk P w K mg base CX0 (k + 1) T.d_World_arguments.f T.d_World_arguments.fd P_World_arguments (sp_Wargs K T.C_World) := by
  refine T.d_World_arguments.F.ok sc_World_arguments (fun vs H Q E h => ?_) (fun cdv A outer s H vs Q E hr h => ?_)
  · obtain ⟨_, _, _, rfl, _⟩ := h
    rfl
  · obtain ⟨x, rs, r, rfl, ⟨dx, d, zs, hs, hA, rfl⟩, hr', q⟩ := h
    obtain ⟨z, hz, rfl⟩ := List.mem_map.mp hr'
    have hu1 := hu1_of hr
    refine ⟨_, (pss_one (ps_ret (pe_ix (r := rIx K) ix_seq (pe_dget hu1 (pe_slC (K := K) rfl (pv 0)) (pv 1) (fun _ _ => rfl)) pe_int (fun _ _ => rfl)))), ?_⟩
    refine ⟨.ref x, rfl, x, T.C_World, dx, T.p_World_its_acts, _, 0, .ref d, rfl, hs, T.c_World, T.sl_World_its_acts, rfl, ?_⟩
    refine ⟨.str z.r.nm, rfl, d, .ref z.a, rfl, Or.inl ⟨_, .inr z.r.nm, .inl hA.at_, rfl, (hA.val hz).symm⟩, ?_⟩
    exact rd_ixT (hA.tup z hz) (by decide) (v := .int z.r.ar) rfl q
theorem ok_World_outcomes (T : TX K mg) {k : Nat} : FnOk P w K mg base CX0 (k + 1) T.d_World_outcomes.f T.d_World_outcomes.fd P_World_outcomes (sp_Wouts K T.C_World) := by
  refine T.d_World_outcomes.F.ok sc_World_outcomes (fun vs H Q E h => ?_) (fun cdv A outer s H vs Q E hr h => ?_)
  · obtain ⟨_, _, _, rfl, _⟩ := h
    rfl
  · obtain ⟨x, rs, r, rfl, ⟨dx, d, zs, hs, hA, rfl⟩, hr', q⟩ := h
    obtain ⟨z, hz, rfl⟩ := List.mem_map.mp hr'
    have hu1 := hu1_of hr
    refine ⟨_, (pss_one (ps_ret (pe_callTy (r := rListG K) (call_listA rfl) (by rfl) T.b_list bt_list (pa_cons (pe_ix (r := rIx K) ix_seq (pe_dget hu1 (pe_slC (K := K) rfl (pv 0)) (pv 1) (fun _ _ => rfl)) pe_int (fun _ _ => rfl)) pa_nil)))), ?_⟩
    refine ⟨.ref x, rfl, x, T.C_World, dx, T.p_World_its_acts, _, 0, .ref d, rfl, hs, T.c_World, T.sl_World_its_acts, rfl, ?_⟩
    refine ⟨.str z.r.nm, rfl, d, .ref z.a, rfl, Or.inl ⟨_, .inr z.r.nm, .inl hA.at_, rfl, (hA.val hz).symm⟩, ?_⟩
    refine rd_ixT (hA.tup z hz) (by decide) (v := .ref z.o) rfl ?_
    refine Or.inr ⟨z.o, _, rfl, hA.out z hz, fun p np => ?_⟩
    have := q p np
    rw [List.map_map] at this ⊢
    exact this
theorem ok_World_brings (T : TX K mg) {k : Nat} : FnOk P w K mg base CX0 (k + 1) T.d_World_brings.f T.d_World_brings.fd P_World_brings (sp_Wbrings K T.C_World) := by
  refine T.d_World_brings.F.ok sc_World_brings (fun vs H Q E h => ?_) (fun cdv A outer s H vs Q E hr h => ?_)
  · obtain ⟨_, _, _, _, _, rfl, _⟩ := h
    rfl
  · obtain ⟨x, rs, r, y, i, rfl, ⟨dx, d, zs, hs, hA, rfl⟩, hr', hy, q⟩ := h
    obtain ⟨z, hz, rfl⟩ := List.mem_map.mp hr'
    have hu1 := hu1_of hr
    refine ⟨_, (pss_one (ps_ret (pe_dget hu1 (pe_ix (r := rIx K) ix_seq (pe_dget hu1 (pe_slC (K := K) rfl (pv 0)) (pv 1) (fun _ _ => rfl)) pe_int (fun _ _ => rfl)) (pv 2) (fun _ _ => rfl)))), ?_⟩
    refine ⟨.ref x, rfl, x, T.C_World, dx, T.p_World_its_acts, _, 0, .ref d, rfl, hs, T.c_World, T.sl_World_its_acts, rfl, ?_⟩
    refine ⟨.str z.r.nm, rfl, d, .ref z.a, rfl, Or.inl ⟨_, .inr z.r.nm, .inl hA.at_, rfl, (hA.val hz).symm⟩, ?_⟩
    refine rd_ixT (hA.tup z hz) (by decide) (v := .ref z.o) rfl ?_
    exact ⟨.str y, rfl, z.o, .int i, rfl, Or.inl ⟨_, .inr y, .inl (hA.out z hz), rfl, (row_val (hA.ond z hz) hy).symm⟩, q⟩
end
end Fm
/-! == of Worlds -/
namespace Fm
open PySem PySem.Spec PyProof.Rows L2 SlX
local macro_rules | `(tactic| walk_at "nn") => `(tactic| dsimp only [tC, tNil, tCons, tCB, tCall, gName, tSeq, tAsg, tPar, tDrop, tRet])
local macro_rules | `(tactic| walk_at "nc") => `(tactic| dsimp only [tC, tNil, tCons, tCB, tCall])
def rIsiX (K : PySem.W.Frag) (u : Value) : List V → Hp → VK → Prop := fun xs H Q => rIsiSl K u xs H Q ∨ rIsi K xs H Q
theorem call_isiX {X : Cx} (u : Value) : CallR X (.builtin "isinstance") (rIsiX X.K u) := CallR.or (call_isiSl u) call_isi
/-- a value of a builtin type that is no class of the text's -/
def plainTy (T : String) : Bool := match fastBuiltinMro T with
  | some l => l.all fun v => match v with | .ref _ => false | _ => true
  | none => false
theorem sub_plain {K : PySem.W.Frag} {T : String} {C : Addr} (h : plainTy T = true) : PySem.W.subIn K (.type T) (.ref C) = some false := by
  unfold plainTy at h
  show (fastBuiltinMro T).map _ = some false
  cases e : fastBuiltinMro T with
  | none => rw [e] at h; cases h
  | some l =>
    rw [e] at h
    show some (l.contains (.ref C)) = some false
    congr 1
    cases hc : l.contains (.ref C) with
    | false => rfl
    | true =>
      have hm : Value.ref C ∈ l := by simpa using hc
      have := List.all_eq_true.mp h _ hm
      cases this
theorem notFirst_plain {K : PySem.W.Frag} {T : String} {C : Addr} (h : plainTy T = true) : PySem.W.notFirst K C (.type T) = true := by
  unfold PySem.W.notFirst
  rw [sub_plain h]
  simp
theorem notFirst_self {K : PySem.W.Frag} {C : Addr} : PySem.W.notFirst K C (.ref C) = true := by
  unfold PySem.W.notFirst
  simp
theorem kitOne_plain {K : PySem.W.Frag} {T : String} {C : Addr} (h : plainTy T = true) (hc : PySem.W.isClsIn K C = true) (ht : PySem.W.typeIn K (.ref C) = some (.type "type")) : PySem.W.kitOne K (.type T) (.ref C) = some false := by
  unfold PySem.W.kitOne
  rw [if_neg (by simp)]
  show (if _ then _ else _) = _
  rw [if_pos ?_]
  · exact sub_plain h
  · rw [ht]
    unfold PySem.W.isClsIn at hc
    simp [hc]
def sp_WorldEq (K : PySem.W.Frag) (C : Addr) : Sp := fun vs H Q _ => ∃ (x : Addr) (rs : List ActR) (y : V), vs = [.ref x, y] ∧ WldAt K H C x rs ∧
  ((∃ x2 rs2, y = .ref x2 ∧ WldAt K H C x2 rs2 ∧ Q (.bl (rsEq rs rs2)) H) ∨ ∃ T, TyX K H y (.type T) ∧ plainTy T = true ∧ Q (.bl false) H)
section
variable {P : Program} {w : World} {K : PySem.W.Frag} {mg : Str → Option Value} {base : Heap}
theorem ok_World___eq__ (T : TX K mg) {k : Nat} : FnOk P w K mg base CX0 (k + 1) T.d_World___eq__.f T.d_World___eq__.fd P_World___eq__ (sp_WorldEq K T.C_World) := by
  refine T.d_World___eq__.F.ok sc_World___eq__ (fun vs H Q E h => ?_) (fun cdv A outer s H vs Q E hr h => ?_)
  · obtain ⟨_, _, _, rfl, _⟩ := h
    rfl
  · obtain ⟨x, rs, y, rfl, ⟨dx, d, zs, hs, hA, hz⟩, h⟩ := h
    have hu64 := hr.units
    refine ⟨_, (pss_one (ps_ret (pe_and (pe_callB (r := rIsiX K (.ref T.C_World)) (call_isiX (.ref T.C_World)) (by rfl) T.b_isinstance bt_isinstance (pa_cons (pv 1) (pa_cons (pe_glob rfl T.g_World (show L2.RelV (.ref T.C_World) _ from rfl)) pa_nil))) (pe_one (pe_cmpR (r := rEqA K) (op_eqA hu64) (pe_slC (K := K) rfl (pv 0)) (pe_slC (K := K) rfl (pv 1)) (nomark _)))))), ?_⟩
    rcases h with ⟨x2, rs2, rfl, ⟨dx2, d2, zs2, hs2, hA2, hz2⟩, q⟩ | ⟨ty, ht, hp, q⟩
    · refine ⟨.ref x2, rfl, ?_⟩
      walk_at "nc"
      refine Or.inl ⟨x2, T.C_World, dx2, _, .ref T.C_World, true, rfl, rfl, fun _ h => h, hs2, T.c_World, T.is_World, kitOne_self _, ?_⟩
      refine ⟨true, rfl, ?_⟩
      refine ⟨.ref x, rfl, x, T.C_World, dx, T.p_World_its_acts, _, 0, .ref d, rfl, hs, T.c_World, T.sl_World_its_acts, rfl, ?_⟩
      refine ⟨.ref x2, rfl, x2, T.C_World, dx2, T.p_World_its_acts, _, 0, .ref d2, rfl, hs2, T.c_World, T.sl_World_its_acts, rfl, ?_⟩
      refine ⟨d, d2, zs, zs2, rfl, rfl, hA, hA2, ?_⟩
      rw [hz, hz2]
      exact q
    · refine ⟨y, rfl, ?_⟩
      walk_at "nc"
      refine Or.inr ⟨y, .ref T.C_World, .type ty, .ref T.C_World, false, rfl, .own _, ht, kitOne_plain hp T.c_World.ic T.ty_World, ?_⟩
      exact ⟨false, rfl, q⟩
end
end Fm
namespace Fm
open PySem PySem.Spec PyProof.Rows L2 SlX
local macro_rules | `(tactic| walk_at "nn") => `(tactic| dsimp only [tC, tNil, tCons, tCB, tCall, gName, tSeq, tAsg, tPar, tDrop, tRet])
local macro_rules | `(tactic| walk_at "nc") => `(tactic| dsimp only [tC, tNil, tCons, tCB, tCall])
/-- acts as they are drawn -/
structure DrawnActs (many : Int) (rs : List ActR) : Prop where
  ok : ∀ r ∈ rs, r.ok
  le : ∀ r ∈ rs, ∀ e ∈ r.outs, e.2 ≤ many
  few : rs.length ≤ 4
/-- few outcomes, plain names -/
def ActR.thin (r : ActR) : Prop := r.outs.length ≤ 3 ∧ ∀ e ∈ r.outs, Nm e.1
def sp_acts (K : PySem.W.Frag) : Sp := fun vs H Q _ => ∃ (b : Addr) (many : Int), vs = [.ref b, .int many] ∧ Bag H b ∧ 0 ≤ many ∧ many ≤ 1000000 ∧
  ∀ (d : Addr) (zs : List ActA) H', H d = none → ActsAt K H' d zs → DrawnActs many (zs.map (·.r)) → 1 ≤ zs.length → (∀ z ∈ zs, z.r.thin) → zs.length ≤ 3 → Dr b H H' → Q (.ref d) H'
theorem rd_slL {K : PySem.W.Frag} {H : Hp} {Q : VK} {a : Addr} {xs : List V} {k : Int} (ha : H a = some (.lst xs)) (h0 : 0 ≤ k) (h : ∀ p, H p = none → Q (.ref p) (upd H p (.lst (xs.take k.toNat)))) : rSlG K (.ref a) none (some k) H Q := by
  refine Or.inl ⟨a, xs, rfl, .inl (.inl ha), fun p np => ?_⟩
  rw [cutV_to h0]
  exact h p np
/-- an entry put into a dict of outcomes -/
theorem rows_put {rows : List (Str × Int)} (n : (rows.map (·.1)).Nodup) (x : Str) (i : Int) : ∃ rows' : List (Str × Int), putK (rows.map rowK) (.inr x) (.int i) = rows'.map rowK ∧ (rows'.map (·.1)).Nodup ∧ (∀ e ∈ rows', e ∈ rows ∨ e = (x, i)) ∧ rows'.length ≤ rows.length + 1 ∧ 1 ≤ rows'.length := by
  by_cases h : x ∈ rows.map (·.1)
  · refine ⟨rows.map fun e => if e.1 = x then (e.1, i) else e, ?_, ?_, ?_, by simp, ?_⟩
    · unfold putK
      have : ((rows.map rowK).any fun kv => decide (kv.1 = Sum.inr x)) = true := by
        obtain ⟨e, he, rfl⟩ := List.mem_map.mp h
        exact List.any_eq_true.mpr ⟨rowK e, List.mem_map.mpr ⟨e, he, rfl⟩, by simp⟩
      rw [if_pos this, List.map_map, List.map_map]
      refine List.map_congr_left fun e _ => ?_
      simp only [Function.comp]
      by_cases hx : e.1 = x
      · rw [if_pos hx, if_pos (by rw [hx])]
      · rw [if_neg hx, if_neg (fun z => hx (Sum.inr.inj z))]
    · rw [List.map_map]
      have : ((fun e : Str × Int => e.1) ∘ fun e : Str × Int => if e.1 = x then (e.1, i) else e) = fun e => e.1 := by
        funext e
        simp only [Function.comp]
        split <;> rfl
      rw [this]
      exact n
    · intro e he
      obtain ⟨f, hf, rfl⟩ := List.mem_map.mp he
      by_cases hx : f.1 = x
      · rw [if_pos hx]
        exact .inr (by rw [hx])
      · rw [if_neg hx]
        exact .inl hf
    · rw [List.length_map]
      obtain ⟨e, he, _⟩ := List.mem_map.mp h
      exact List.length_pos_of_mem he
  · refine ⟨rows ++ [(x, i)], ?_, ?_, ?_, by simp, by simp⟩
    · rw [putK_new (by rw [row_keys]; intro z; obtain ⟨y, hy, e⟩ := List.mem_map.mp z; cases e; exact h hy), List.map_append]
      rfl
    · rw [List.map_append]
      exact nd_snoc n h
    · intro e he
      rcases List.mem_append.mp he with he | he
      · exact .inl he
      · exact .inr (List.mem_singleton.mp he)
/-- an act put into a dict of acts -/
theorem acts_put {zs : List ActA} (n : (zs.map (·.r.nm)).Nodup) (z : ActA) : ∃ zs' : List ActA, putK (zs.map ActA.kv) (.inr z.r.nm) (.ref z.a) = zs'.map ActA.kv ∧ (zs'.map (·.r.nm)).Nodup ∧ (∀ e ∈ zs', e ∈ zs ∨ e = z) ∧ zs'.length ≤ zs.length + 1 ∧ 1 ≤ zs'.length := by
  by_cases h : z.r.nm ∈ zs.map (·.r.nm)
  · refine ⟨zs.map fun e => if e.r.nm = z.r.nm then z else e, ?_, ?_, ?_, by simp, ?_⟩
    · unfold putK
      have : ((zs.map ActA.kv).any fun kv => decide (kv.1 = Sum.inr z.r.nm)) = true := by
        obtain ⟨e, he, e2⟩ := List.mem_map.mp h
        exact List.any_eq_true.mpr ⟨e.kv, List.mem_map.mpr ⟨e, he, rfl⟩, by simp [ActA.kv, e2]⟩
      rw [if_pos this, List.map_map, List.map_map]
      refine List.map_congr_left fun e _ => ?_
      simp only [Function.comp]
      by_cases hx : e.r.nm = z.r.nm
      · rw [if_pos hx, if_pos (by simp [ActA.kv, hx])]
        simp [ActA.kv, hx]
      · rw [if_neg hx, if_neg (show ¬ e.kv.1 = Sum.inr z.r.nm from fun y => hx (Sum.inr.inj y))]
    · rw [List.map_map]
      have : ((fun e : ActA => e.r.nm) ∘ fun e : ActA => if e.r.nm = z.r.nm then z else e) = fun e => e.r.nm := by
        funext e
        simp only [Function.comp]
        split
        · rename_i hx
          exact hx.symm
        · rfl
      rw [this]
      exact n
    · intro e he
      obtain ⟨f, hf, rfl⟩ := List.mem_map.mp he
      by_cases hx : f.r.nm = z.r.nm
      · rw [if_pos hx]
        exact .inr rfl
      · rw [if_neg hx]
        exact .inl hf
    · rw [List.length_map]
      obtain ⟨e, he, _⟩ := List.mem_map.mp h
      exact List.length_pos_of_mem he
  · refine ⟨zs ++ [z], ?_, ?_, ?_, by simp, by simp⟩
    · rw [putK_new (by rw [kv_keys]; intro y; obtain ⟨u, hu, e⟩ := List.mem_map.mp y; cases e; exact h hu), List.map_append]
      rfl
    · rw [List.map_append]
      exact nd_snoc n h
    · intro e he
      rcases List.mem_append.mp he with he | he
      · exact .inl he
      · exact .inr (List.mem_singleton.mp he)
/-- the text of a text -/
def txt : V → Str
  | .str x => x
  | _ => ""
theorem perm_strs {ms : List V} {xs : List Str} (h : ms.Perm (xs.map V.str)) : ∃ ws : List Str, ms = ws.map V.str ∧ ws.Perm xs := by
  refine ⟨ms.map txt, ?_, ?_⟩
  · rw [List.map_map]
    have : ∀ v ∈ ms, (V.str ∘ txt) v = v := fun v hv => by
      obtain ⟨x, _, rfl⟩ := List.mem_map.mp (h.mem_iff.mp hv)
      rfl
    rw [List.map_congr_left this]
    simp
  · have := h.map txt
    rw [List.map_map] at this
    rw [show xs.map (txt ∘ V.str) = xs by rw [show txt ∘ V.str = id from rfl, List.map_id]] at this
    exact this
theorem ActsAt.mvS {K : PySem.W.Frag} {S : List Addr} {H H' : Hp} {d : Addr} {zs : List ActA} (h : ActsAt K H d zs) (m : Mv S H H') (hd : d ∉ S) (ho : ∀ z ∈ zs, z.o ∉ S) : ActsAt K H' d zs :=
  ⟨m.keep _ _ hd h.at_, h.nd, fun z hz => m.sqT (h.tup z hz), fun z hz => m.keep _ _ (ho z hz) (h.out z hz), h.ond⟩
section
variable {P : Program} {w : World} {K : PySem.W.Frag} {mg : Str → Option Value} {base : Heap}
theorem ok__law_acts (T : TX K mg) {k : Nat} : FnOk P w K mg base CX0 (k + 3) T.d__law_acts.f T.d__law_acts.fd P__law_acts (sp_acts K) := by
  have G__law_take : FnOk P w K mg base CX0 1 T.d__law_take.f T.d__law_take.fd P__law_take sp_take := ok__law_take T
  have G__law_names : FnOk P w K mg base CX0 2 T.d__law_names.f T.d__law_names.fd P__law_names sp_names := ok__law_names T
  have G__law_mixed : FnOk P w K mg base CX0 2 T.d__law_mixed.f T.d__law_mixed.fd P__law_mixed (sp_mixG K) := ok__law_mixed T
  refine T.d__law_acts.F.ok sc__law_acts (fun vs H Q E h => ?_) (fun cdv A outer s H vs Q E hr h => ?_)
  · obtain ⟨_, _, rfl, _⟩ := h
    rfl
  · obtain ⟨b, many, rfl, hB, hm0, hm1, q⟩ := h
    have hu1 := hu1_of hr
    refine ⟨_, (pss_cons (ps_par3 (i := 2) (j := 3) (l := 4) rfl sc__law_acts.nd rfl rfl rfl (by decide) (by decide) (by decide) rfl rfl rfl (pa_cons (pe_call G__law_names (hr.mono (by omega)) rfl T.d__law_names.g T.d__law_names.F.kp T.d__law_names.b .nil pass0 (pa_cons (pv 0) (pa_cons pe_int pa_nil))) (pa_cons (pe_call G__law_names (hr.mono (by omega)) rfl T.d__law_names.g T.d__law_names.F.kp T.d__law_names.b .nil pass0 (pa_cons (pv 0) (pa_cons pe_int pa_nil))) (pa_cons pe_dnewK pa_nil))) rfl) (pss_cons (ps_for PassesOwn.never rfl (pi_seq (pe_slice (r := rSlG K) sl_G (pv 2) po_none (po_some (pe_op (r := rAddG K) op_addG pe_int (pe_call G__law_take (hr.mono (by omega)) rfl T.d__law_take.g T.d__law_take.F.kp T.d__law_take.b .nil pass0 (pa_cons (pv 0) (pa_cons pe_int pa_nil))))))) (pg_name (i := 5) sc__law_acts.nd rfl (Or.inl rfl)) (pss_cons (ps_set (i := 6) sc__law_acts.nd rfl (Or.inl rfl) pe_dnewK) (pss_cons (ps_for PassesOwn.never rfl (pi_seq (pe_slice (r := rSlG K) sl_G (pe_call G__law_mixed (hr.mono (by omega)) rfl T.d__law_mixed.g T.d__law_mixed.F.kp T.d__law_mixed.b .nil pass0 (pa_cons (pv 0) (pa_cons (pv 3) pa_nil))) po_none (po_some (pe_op (r := rAddG K) op_addG pe_int (pe_call G__law_take (hr.mono (by omega)) rfl T.d__law_take.g T.d__law_take.F.kp T.d__law_take.b .nil pass0 (pa_cons (pv 0) (pa_cons pe_int pa_nil))))))) (pg_name (i := 7) sc__law_acts.nd rfl (Or.inl rfl)) (pss_one (ps_dput hu1 (pv 6) (pv 7) (pe_callB (call_min2 rfl) (by rfl) T.b_min bt_min (pa_cons (pv 1) (pa_cons (pe_ix (r := rIx K) ix_seq (pe_lst (pa_cons pe_int (pa_cons pe_int (pa_cons pe_int (pa_cons pe_int (pa_cons pe_int pa_nil)))))) (pe_call G__law_take (hr.mono (by omega)) rfl T.d__law_take.g T.d__law_take.F.kp T.d__law_take.b .nil pass0 (pa_cons (pv 0) (pa_cons pe_int pa_nil))) (fun _ _ => rfl)) pa_nil))) rfl))) (pss_one (ps_dput hu1 (pv 4) (pv 5) (pe_tup (pa_cons (pe_call G__law_take (hr.mono (by omega)) rfl T.d__law_take.g T.d__law_take.F.kp T.d__law_take.b .nil pass0 (pa_cons (pv 0) (pa_cons pe_int pa_nil))) (pa_cons (pv 6) pa_nil))) rfl))))) (pss_one (ps_ret (pv 4))))), ?_⟩
    refine ⟨.ref b, rfl, b, 3, rfl, hB, by decide, by decide, fun p1 xs1 H1 l1 nm1 np1 e1 d1 => ?_⟩
    have hB1 := d1.bag hB
    refine ⟨.ref b, rfl, b, 6, rfl, hB1, by decide, by decide, fun p2 xs2 H2 l2 nm2 np2 e2 d2 => ?_⟩
    have hB2 := d2.bag hB1
    have p1b : p1 ≠ b := hB.fneq np1
    have p2b : p2 ≠ b := hB1.fneq np2
    have d02 := d1.trans d2
    intro d nd
    have ndH := d02.free hB nd
    have e3 : upd H2 d (.dK []) d = some (.dK []) := upd_same
    have d03 : Dr b H (upd H2 d (.dK [])) := d02.wr ndH
    have e13 : upd H2 d (.dK []) p1 = some (.lst (xs1.map V.str)) := same_new nd _ _ (d2.get p1b e1)
    have e23 : upd H2 d (.dK []) p2 = some (.lst (xs2.map V.str)) := same_new nd _ _ e2
    have hB3 := d03.bag hB
    generalize upd H2 d (.dK []) = H3 at e3 d03 e13 e23 hB3 ⊢
    refine ⟨_, _, _, rfl, .ref p1, rfl, .ref b, rfl, b, 3, rfl, hB3, by decide, by decide, fun k1 H4 k10 k13 d4 => ?_⟩
    refine Or.inl ⟨1, k1, rfl, rfl, 1 + k1, rfl, rd_slL (d4.get p1b e13) (by omega) fun p5 np5 => ⟨p5, rfl, ?_⟩⟩
    have hp5b : p5 ≠ b := (d4.bag hB3).fneq np5
    have hdb : d ≠ b := hB.fneq ndH
    have d05 : Dr b H (upd H4 p5 (.lst ((xs1.map V.str).take (1 + k1).toNat))) := (d03.trans d4).trans (.new np5)
    have e5 : upd H4 p5 (.lst ((xs1.map V.str).take (1 + k1).toNat)) p5 = some (.lst ((xs1.take (1 + k1).toNat).map V.str)) := by rw [upd_same, List.map_take]
    have ed5 : upd H4 p5 (.lst ((xs1.map V.str).take (1 + k1).toNat)) d = some (.dK []) := same_new np5 _ _ (d4.get hdb e3)
    have e25 : upd H4 p5 (.lst ((xs1.map V.str).take (1 + k1).toNat)) p2 = some (.lst (xs2.map V.str)) := same_new np5 _ _ (d4.get p2b e23)
    generalize upd H4 p5 (.lst ((xs1.map V.str).take (1 + k1).toNat)) = H5 at d05 e5 ed5 e25 ⊢
    have hys : ∀ x ∈ xs1.take (1 + k1).toNat, Nm x := fun x hx => nm1 x (List.mem_of_mem_take hx)
    have hyl : 1 ≤ (xs1.take (1 + k1).toNat).length ∧ (xs1.take (1 + k1).toNat).length ≤ 3 := by rw [List.length_take]; omega
    generalize xs1.take (1 + k1).toNat = ys1 at e5 hys hyl
    refine Or.inl ⟨⟨_, .inl (.inl e5)⟩, ?_⟩
    refine for_list (K := K) (a := p5) (xs := ys1.map V.str) (fun i σ H6 => ∃ (zs : List ActA) (u5 u6 u7 : Option V), σ = [some (.ref b), some (.int many), some (.ref p1), some (.ref p2), some (.ref d), u5, u6, u7] ∧ H6 p5 = some (.lst (ys1.map V.str)) ∧ H6 p2 = some (.lst (xs2.map V.str)) ∧ ActsAt K H6 d zs ∧ (∀ z ∈ zs, z.o ≠ d) ∧
        (∀ z ∈ zs, z.r.ok ∧ (∀ e ∈ z.r.outs, e.2 ≤ many) ∧ z.r.thin) ∧ zs.length ≤ i ∧ (0 < i → 1 ≤ zs.length) ∧ Dr b H H6)
      ⟨[], none, none, none, rfl, e5, e25, ⟨ed5, by simp, by simp, by simp, by simp⟩, by simp, by simp, Nat.le_refl _, by omega, d05⟩ (fun i σ H6 _ h6 => ?_) (fun i x σ H6 hx h6 => ?_) (fun σ H6 h6 => ?_)
    · obtain ⟨zs, u5, u6, u7, rfl, e6, _⟩ := h6
      exact .inl (.inl e6)
    · obtain ⟨zs, u5, u6, u7, rfl, e6, e26, hA6, ho6, hk6, hl6, hs6, d06⟩ := h6
      rw [List.getElem?_map] at hx
      obtain ⟨nm, hnm, rfl⟩ := Option.map_eq_some_iff.mp hx
      have hB6 := d06.bag hB
      intro o no
      have noH := d06.free hB no
      have hod : o ≠ d := (ne_of_none hA6.at_ no).symm
      have hob : o ≠ b := hB6.fneq no
      have hzo : ∀ z ∈ zs, z.o ≠ o := fun z hz => ne_of_none (hA6.out z hz) no
      have hdb' : d ≠ b := hdb
      have d07 : Dr b H (upd H6 o (.dK [])) := d06.trans (.new no)
      have e7 : upd H6 o (.dK []) o = some (.dK []) := upd_same
      have m67 : Mv [] H6 (upd H6 o (.dK [])) := .new no
      generalize upd H6 o (.dK []) = H7 at d07 e7 m67 ⊢
      have hB7 := d07.bag hB
      refine ⟨.ref b, rfl, .ref p2, rfl, b, p2, _, rfl, hB7, .inl ⟨m67.same _ _ e26, p2b⟩, by rw [List.length_map]; omega, fun pm ms H8 hpm npm e8 d8 => ?_⟩
      have hB8 := d8.bag hB7
      have hpmb : pm ≠ b := hB7.fneq npm
      obtain ⟨ws, rfl, hws⟩ := perm_strs hpm
      refine ⟨.ref b, rfl, b, 3, rfl, hB8, by decide, by decide, fun k2 H9 k20 k23 d9 => ?_⟩
      refine Or.inl ⟨1, k2, rfl, rfl, 1 + k2, rfl, rd_slL (d9.get hpmb e8) (by omega) fun pl npl => ⟨pl, rfl, ?_⟩⟩
      have hB9 := d9.bag hB8
      have hplb : pl ≠ b := hB9.fneq npl
      have d79 : Dr b H7 (upd H9 pl (.lst ((ws.map V.str).take (1 + k2).toNat))) := (d8.trans d9).trans (.new npl)
      have e10 : upd H9 pl (.lst ((ws.map V.str).take (1 + k2).toNat)) pl = some (.lst ((ws.take (1 + k2).toNat).map V.str)) := by rw [upd_same, List.map_take]
      generalize upd H9 pl (.lst ((ws.map V.str).take (1 + k2).toNat)) = H10 at d79 e10 ⊢
      have hwl : ws.length = 6 := by rw [hws.length_eq]; exact l2
      have hvs : ∀ x ∈ ws.take (1 + k2).toNat, Nm x := fun x hx => nm2 x (hws.mem_iff.mp (List.mem_of_mem_take hx))
      have hvl : 1 ≤ (ws.take (1 + k2).toNat).length ∧ (ws.take (1 + k2).toNat).length ≤ 3 := by rw [List.length_take]; omega
      generalize ws.take (1 + k2).toNat = vs1 at e10 hvs hvl
      have hp5b' : p5 ≠ b := hp5b
      refine Or.inl ⟨⟨_, .inl (.inl e10)⟩, ?_⟩
      refine for_list (K := K) (a := pl) (xs := vs1.map V.str) (fun j σ H11 => ∃ (rows : List (Str × Int)) (u7 : Option V), σ = [some (.ref b), some (.int many), some (.ref p1), some (.ref p2), some (.ref d), some (.str nm), some (.ref o), u7] ∧ H11 pl = some (.lst (vs1.map V.str)) ∧ H11 p5 = some (.lst (ys1.map V.str)) ∧ H11 p2 = some (.lst (xs2.map V.str)) ∧ ActsAt K H11 d zs ∧
          H11 o = some (.dK (rows.map rowK)) ∧ (rows.map (·.1)).Nodup ∧ (∀ e ∈ rows, On e.1 ∧ 0 ≤ e.2 ∧ e.2 ≤ 2 ∧ e.2 ≤ many ∧ Nm e.1) ∧ rows.length ≤ j ∧ (0 < j → 1 ≤ rows.length) ∧ Dr b H H11)
        ⟨[], _, rfl, e10, d79.get hp5b' (m67.same _ _ e6), d79.get p2b (m67.same _ _ e26), (hA6.mv m67).dr d79 hB7, d79.get hob e7, by simp, by simp, Nat.le_refl _, by omega, d07.trans d79⟩ (fun j σ H11 _ h11 => ?_) (fun j x σ H11 hx h11 => ?_) (fun σ H11 h11 => ?_)
      · obtain ⟨rows, u7, rfl, e11, _⟩ := h11
        exact .inl (.inl e11)
      · obtain ⟨rows, u7, rfl, e11, e511, e211, hA11, eo11, ndr, hrk, hrl, hrs, d011⟩ := h11
        rw [List.getElem?_map] at hx
        obtain ⟨wd, hwd, rfl⟩ := Option.map_eq_some_iff.mp hx
        have hj := (List.getElem?_eq_some_iff.mp hwd).1
        have hB11 := d011.bag hB
        refine ⟨.int many, rfl, (by decide : 5 ≤ sizeLine), fun q12 nq12 => ?_⟩
        have hq12b : q12 ≠ b := hB11.fneq nq12
        have d12 : Dr b H11 (upd H11 q12 (.lst [.int 0, .int 1, .int 0, .int 1, .int 2])) := .new nq12
        have e12 : upd H11 q12 (.lst [.int 0, .int 1, .int 0, .int 1, .int 2]) q12 = some (.lst [.int 0, .int 1, .int 0, .int 1, .int 2]) := upd_same
        generalize upd H11 q12 (.lst [.int 0, .int 1, .int 0, .int 1, .int 2]) = H12 at d12 e12 ⊢
        refine ⟨.ref b, rfl, b, 5, rfl, d12.bag hB11, by decide, by decide, fun k3 H13 k30 k35 d13 => ?_⟩
        have d113 := d12.trans d13
        obtain ⟨v3, hv3, hv30, hv32⟩ : ∃ v3 : Int, [V.int 0, .int 1, .int 0, .int 1, .int 2][k3.toNat]? = some (.int v3) ∧ 0 ≤ v3 ∧ v3 ≤ 2 := by
          have : k3.toNat < 5 := by omega
          match k3.toNat, this with
          | 0, _ => exact ⟨0, rfl, by decide, by decide⟩
          | 1, _ => exact ⟨1, rfl, by decide, by decide⟩
          | 2, _ => exact ⟨0, rfl, by decide, by decide⟩
          | 3, _ => exact ⟨1, rfl, by decide, by decide⟩
          | 4, _ => exact ⟨2, rfl, by decide, by decide⟩
        refine rd_ixL (.inl (.inl (d13.get hq12b e12))) k30 hv3 ?_
        refine ⟨many, v3, rfl, ?_⟩
        have eo13 := d113.get hob eo11
        obtain ⟨rows', hput, nd', mem', len', one'⟩ := rows_put ndr wd (if v3 < many then v3 else many)
        refine ⟨.ref o, rfl, .str wd, rfl, o, _, rfl, Or.inl ⟨_, .inr wd, eo13, rfl, ?_, rfl⟩, ?_⟩
        · rw [List.length_map]
          exact Nat.lt_of_le_of_lt (show rows.length ≤ 1000 by omega) (by decide)
        rw [hput]
        have hmo : Mv [o] H13 (upd H13 o (.dK (rows'.map rowK))) := .putD eo13
        have kp : ∀ a xs, H11 a = some (.lst xs) → a ≠ b → upd H13 o (.dK (rows'.map rowK)) a = some (.lst xs) := fun a xs h hb => by
          have h13 := d113.get hb h
          rw [upd_ne (by rintro rfl; rw [eo13] at h13; cases h13)]
          exact h13
        refine ⟨rows', _, rfl, kp _ _ e11 hplb, kp _ _ e511 hp5b', kp _ _ e211 p2b, (hA11.dr d113 hB11).mvS hmo (by simpa using hod.symm) (fun z hz => by simpa using hzo z hz), upd_same, nd', fun e he => ?_, by omega, fun _ => one', (d011.trans d113).wr noH⟩
        rcases mem' e he with he | rfl
        · exact hrk e he
        · refine ⟨on_nm (hvs wd (List.mem_of_getElem? hwd)), ?_, ?_, ?_, hvs wd (List.mem_of_getElem? hwd)⟩ <;> (dsimp only; split <;> omega)
      · obtain ⟨rows, u7, rfl, e11, e511, e211, hA11, eo11, ndr, hrk, hrl, hrs, d011⟩ := h11
        rw [List.length_map] at hrl hrs
        have hB11 := d011.bag hB
        refine ⟨.ref b, rfl, b, 3, rfl, hB11, by decide, by decide, fun k4 H12 k40 k43 d12 => ?_⟩
        refine ⟨.ref o, rfl, (by decide : 2 ≤ sizeLine), fun t13 nt13 => ?_⟩
        have d13 : Dr b H11 (upd H12 t13 (.tup [.int k4, .ref o])) := d12.trans (.new nt13)
        have e13 : SqT K (upd H12 t13 (.tup [.int k4, .ref o])) t13 [.int k4, .ref o] := .inl (.inl upd_same)
        generalize upd H12 t13 (.tup [.int k4, .ref o]) = H13 at d13 e13 ⊢
        have hA13 := hA11.dr d13 hB11
        obtain ⟨zs', hput, nd', mem', len', one'⟩ := acts_put hA13.nd ⟨⟨nm, k4, rows⟩, t13, o⟩
        refine ⟨.ref d, rfl, .str nm, rfl, d, _, rfl, Or.inl ⟨_, .inr nm, hA13.at_, rfl, ?_, rfl⟩, ?_⟩
        · rw [List.length_map]
          have hi := (List.getElem?_eq_some_iff.mp hnm).1
          exact Nat.lt_of_le_of_lt (show zs.length ≤ 1000 by omega) (by decide)
        rw [hput]
        have hmd : Mv [d] H13 (upd H13 d (.dK (zs'.map ActA.kv))) := .putD hA13.at_
        have eo13 := d13.get hob eo11
        have kp : ∀ a xs, H11 a = some (.lst xs) → a ≠ b → upd H13 d (.dK (zs'.map ActA.kv)) a = some (.lst xs) := fun a xs h hb => by
          have h13 := d13.get hb h
          rw [upd_ne (by rintro rfl; rw [hA13.at_] at h13; cases h13)]
          exact h13
        have old : ∀ z ∈ zs', z ∈ zs ∨ z = ⟨⟨nm, k4, rows⟩, t13, o⟩ := mem'
        refine ⟨zs', _, _, _, rfl, kp _ _ e511 hp5b', kp _ _ e211 p2b, ⟨upd_same, nd', fun z hz => ?_, fun z hz => ?_, fun z hz => ?_⟩, fun z hz => ?_, fun z hz => ?_, by omega, fun _ => one', (d011.trans d13).wr ndH⟩
        · rcases old z hz with h | rfl
          · exact hmd.sqT (hA13.tup z h)
          · exact hmd.sqT e13
        · rcases old z hz with h | rfl
          · exact hmd.keep _ _ (by simpa using ho6 z h) (hA13.out z h)
          · exact hmd.keep _ _ (by simpa using hod) eo13
        · rcases old z hz with h | rfl
          · exact hA13.ond z h
          · exact ndr
        · rcases old z hz with h | rfl
          · exact ho6 z h
          · exact hod
        · rcases old z hz with h | rfl
          · exact hk6 z h
          · have hnmk := hys nm (List.mem_of_getElem? hnm)
            exact ⟨⟨hnmk, k40, (by omega : k4 ≤ 2), hrs (by omega), (by omega : rows.length ≤ 6), fun e he => ⟨(hrk e he).1, (hrk e he).2.1, (hrk e he).2.2.1⟩⟩, fun e he => (hrk e he).2.2.2.1, (by omega : rows.length ≤ 3), fun e he => (hrk e he).2.2.2.2⟩
    · obtain ⟨zs, u5, u6, u7, rfl, e6, e26, hA6, ho6, hk6, hl6, hs6, d06⟩ := h6
      rw [List.length_map] at hl6 hs6
      refine ⟨.ref d, rfl, q d zs H6 ndH hA6 ⟨fun r hr => ?_, fun r hr => ?_, by rw [List.length_map]; omega⟩ (hs6 (by omega)) (fun z hz => (hk6 z hz).2.2) (by omega) d06⟩
      · obtain ⟨z, hz, rfl⟩ := List.mem_map.mp hr
        exact (hk6 z hz).1
      · obtain ⟨z, hz, rfl⟩ := List.mem_map.mp hr
        exact (hk6 z hz).2.1
end
end Fm
namespace Fm
open PySem PySem.Spec PyProof.Rows L2 SlX
local macro_rules | `(tactic| walk_at "nn") => `(tactic| dsimp only [tC, tNil, tCons, tCB, tCall, gName, tSeq, tAsg, tPar, tDrop, tRet])
local macro_rules | `(tactic| walk_at "nc") => `(tactic| dsimp only [tC, tNil, tCons, tCB, tCall])
theorem perm_lift {α β : Type} {f : α → β} : ∀ {xs : List α} {l : List β}, l.Perm (xs.map f) → ∃ ys : List α, ys.Perm xs ∧ l = ys.map f
  | [], l, h => ⟨[], .refl _, by simpa using h.eq_nil⟩
  | x :: xs, l, h => by
    have hm : f x ∈ l := h.mem_iff.mpr (by simp)
    obtain ⟨l1, l2, rfl⟩ := List.append_of_mem hm
    have h2 : (l1 ++ l2).Perm (xs.map f) := by
      have := List.perm_middle.symm.trans h
      exact (List.perm_cons _).mp this
    obtain ⟨ys, hy, e⟩ := perm_lift h2
    obtain ⟨y1, y2, rfl, rfl, rfl⟩ := List.append_eq_map_iff.mp e
    exact ⟨y1 ++ x :: y2, List.perm_middle.trans ((List.perm_cons _).mpr hy), by simp⟩
theorem normW_perm {rs qs : List ActR} (n : (qs.map (·.nm)).Nodup) (h : (rs.map ActR.norm).Perm (qs.map ActR.norm)) : normW rs = normW qs := by
  unfold normW
  refine srt_of_perm totS ?_ h
  rw [List.map_map]
  exact n
theorem norm_outs {r q : ActR} (h1 : r.nm = q.nm) (h2 : r.ar = q.ar) (n : (q.outs.map (·.1)).Nodup) (h : r.outs.Perm q.outs) : r.norm = q.norm := by
  cases r
  cases q
  simp only at h1 h2 h
  subst h1
  subst h2
  unfold ActR.norm
  rw [srt_of_perm totS n h]
def sp_worldOf (K : PySem.W.Frag) (C : Addr) : Sp := fun vs H Q _ => ∃ (b d : Addr) (zs : List ActA), vs = [.ref b, .ref d] ∧ Bag H b ∧ ActsAt K H d zs ∧ (∀ z ∈ zs, z.r.ok) ∧ zs.length ≤ 50 ∧ ∀ x H', WldAt K H' C x (normW (zs.map (·.r))) → Dr b H H' → Q (.ref x) H'
/-- rows of acts: a tuple of the name and the act -/
structure RowsAt (K : PySem.W.Frag) (H : Hp) (tw : List (Addr × ActA)) : Prop where
  row : ∀ z ∈ tw, SqT K H z.1 [.str z.2.r.nm, .ref z.2.a]
  tup : ∀ z ∈ tw, SqT K H z.2.a [.int z.2.r.ar, .ref z.2.o]
  out : ∀ z ∈ tw, H z.2.o = some (.dK (z.2.r.outs.map rowK))
  ond : ∀ z ∈ tw, (z.2.r.outs.map (·.1)).Nodup
theorem RowsAt.mv {K : PySem.W.Frag} {H H' : Hp} {tw : List (Addr × ActA)} (h : RowsAt K H tw) (m : Mv [] H H') : RowsAt K H' tw := ⟨fun z hz => m.sqT (h.row z hz), fun z hz => m.sqT (h.tup z hz), fun z hz => m.same _ _ (h.out z hz), h.ond⟩
theorem RowsAt.dr {K : PySem.W.Frag} {H H' : Hp} {b : Addr} {tw : List (Addr × ActA)} (h : RowsAt K H tw) (m : Dr b H H') (hB : Bag H b) : RowsAt K H' tw := ⟨fun z hz => m.mv.sqT (h.row z hz), fun z hz => m.mv.sqT (h.tup z hz), fun z hz => m.getK hB (h.out z hz) (fun _ z => by cases z), h.ond⟩
theorem RowsAt.lst {K : PySem.W.Frag} {H H' : Hp} {l : Addr} {xs : List V} {o : HO} {tw : List (Addr × ActA)} (h : RowsAt K H tw) (hl : H l = some (.lst xs)) : RowsAt K (upd H l o) tw := by
  have m : Mv [l] H (upd H l o) := .set hl (by simp)
  exact ⟨fun z hz => m.sqT (h.row z hz), fun z hz => m.sqT (h.tup z hz), fun z hz => m.keep _ _ (by simp; rintro e; have := h.out z hz; rw [e, hl] at this; cases this) (h.out z hz), h.ond⟩
theorem paired_acts {K : PySem.W.Frag} {H : Hp} : ∀ (tw : List (Addr × ActA)), (∀ z ∈ tw, SqT K H z.1 [.str z.2.r.nm, .ref z.2.a]) → Paired (fun p (kv : L2.Key × V) => SqT K H p [kV kv.1, kv.2]) (tw.map (·.1)) ((tw.map (·.2)).map ActA.kv)
  | [], _ => .nil
  | z :: tw, h => .cons (h z (by simp)) (paired_acts tw fun y hy => h y (by simp [hy]))
theorem paired_rows2 {K : PySem.W.Frag} {H : Hp} : ∀ (ps : List (Addr × Str × Int)), (∀ z ∈ ps, SqT K H z.1 [.str z.2.1, .int z.2.2]) → Paired (fun p (kv : L2.Key × V) => SqT K H p [kV kv.1, kv.2]) (ps.map (·.1)) ((ps.map (·.2)).map rowK)
  | [], _ => .nil
  | z :: ps, h => .cons (h z (by simp)) (paired_rows2 ps fun y hy => h y (by simp [hy]))
section
variable {P : Program} {w : World} {K : PySem.W.Frag} {mg : Str → Option Value} {base : Heap}
theorem ok__law_world_of (T : TX K mg) {k : Nat} : FnOk P w K mg base CX0 (k + 7) T.d__law_world_of.f T.d__law_world_of.fd P__law_world_of (sp_worldOf K T.C_World) := by
  have G__law_mixed : FnOk P w K mg base CX0 2 T.d__law_mixed.f T.d__law_mixed.fd P__law_mixed (sp_mixG K) := ok__law_mixed T
  have G_World___init__ : FnOk P w K mg base CX0 5 T.d_World___init__.f T.d_World___init__.fd P_World___init__ (sp_World K T.C_World) := ok_World___init__ T
  refine T.d__law_world_of.F.ok sc__law_world_of (fun vs H Q E h => ?_) (fun cdv A outer s H vs Q E hr h => ?_)
  · obtain ⟨_, _, _, rfl, _⟩ := h
    rfl
  · obtain ⟨b, d, zs, rfl, hB, hA, hok, hfew, q⟩ := h
    have hu1 := hu1_of hr
    refine ⟨_, (pss_cons (ps_set (i := 2) sc__law_world_of.nd rfl (Or.inl rfl) (pe_lst pa_nil)) (pss_cons (ps_for PassesOwn.never rfl (pi_seq (pe_callB (r := rSortA K) (cr_sortA rfl) (by rfl) T.b_sorted bt_sorted (pa_cons (pv 1) pa_nil))) (pg_name (i := 3) sc__law_world_of.nd rfl (Or.inl rfl)) (pss_one (ps_expr (pe_bm PySem.F.plainAttrs_list PySem.F.slot_list_append PySem.F.type_list_append mt_append (pv 2) (pa_cons (pe_tup (pa_cons (pv 3) (pa_cons (pe_tup (pa_cons (pe_ix (r := rIx K) ix_seq (pe_dget hu1 (pv 1) (pv 3) (fun _ _ => rfl)) pe_int (fun _ _ => rfl)) (pa_cons (pe_callTy (r := rDictG K) (call_dictG rfl) (by rfl) T.b_dict bt_dict (pa_cons (pe_call G__law_mixed (hr.mono (by omega)) rfl T.d__law_mixed.g T.d__law_mixed.F.kp T.d__law_mixed.b .nil pass0 (pa_cons (pv 0) (pa_cons (pe_callB (r := rSortSI) (cr_sortSI rfl) (by rfl) T.b_sorted bt_sorted (pa_cons (pe_bm0C (K := K) rfl PySem.F.plainAttrs_dict PySem.F.slot_dict_items PySem.F.type_dict_items mt_itemsK (pe_ix (r := rIx K) ix_seq (pe_dget hu1 (pv 1) (pv 3) (fun _ _ => rfl)) pe_int (fun _ _ => rfl))) pa_nil)) pa_nil))) pa_nil)) pa_nil))) pa_nil))) pa_nil))))) (pss_one (ps_ret (pe_make ⟨T.mk_World, T.d_World___init__.M.at_, T.d_World___init__.M.fn, T.k_World⟩ G_World___init__ (hr.mono (by omega)) rfl T.g_World T.d_World___init__.b .nil pass0 (pa_cons (pe_callTy (r := rDictG K) (call_dictG rfl) (by rfl) T.b_dict bt_dict (pa_cons (pe_call G__law_mixed (hr.mono (by omega)) rfl T.d__law_mixed.g T.d__law_mixed.F.kp T.d__law_mixed.b .nil pass0 (pa_cons (pv 0) (pa_cons (pv 2) pa_nil))) pa_nil)) pa_nil)))))), ?_⟩
    refine ⟨Nat.zero_le _, fun l nl => ?_⟩
    have hlb : l ≠ b := hB.fneq nl
    have e1 : upd H l (.lst []) l = some (.lst []) := upd_same
    have d1 : Dr b H (upd H l (.lst [])) := .new nl
    generalize upd H l (.lst []) = H1 at e1 d1 ⊢
    have hA1 := hA.dr d1 hB
    have hB1 := d1.bag hB
    have hlz : (zs.map (·.r.nm)).length < 64 := by rw [List.length_map]; omega
    refine ⟨.ref d, rfl, Or.inl ⟨d, _, zs.map (·.r.nm), rfl, .inl hA1.at_, kv_keys zs, hlz, fun ys p hp hs np => ⟨p, rfl, ?_⟩⟩⟩
    have hys := srt_keys totS hA.nd hp (sortedS_pw ys hs)
    generalize hss : srt leS (fun z : ActA => z.r.nm) zs = ss at hys
    subst hys
    have hpb : p ≠ b := hB1.fneq np
    have hlp : l ≠ p := ne_of_none e1 np
    have e2 : upd H1 p (.lst ((ss.map (·.r.nm)).map V.str)) p = some (.lst ((ss.map (·.r.nm)).map V.str)) := upd_same
    have e12 : upd H1 p (.lst ((ss.map (·.r.nm)).map V.str)) l = some (.lst []) := same_new np _ _ e1
    have d2 : Dr b H (upd H1 p (.lst ((ss.map (·.r.nm)).map V.str))) := d1.trans (.new np)
    generalize upd H1 p (.lst ((ss.map (·.r.nm)).map V.str)) = H2 at e2 e12 d2 ⊢
    have hsub : ∀ z ∈ ss, z ∈ zs := fun z hz => by rw [← srt_mem (le := leS) (k := fun z : ActA => z.r.nm), hss]; exact hz
    have hsl : ss.length = zs.length := by rw [← hss, srt_len]
    refine Or.inl ⟨⟨_, .inl (.inl e2)⟩, ?_⟩
    refine for_list (K := K) (a := p) (xs := (ss.map (·.r.nm)).map V.str) (fun i σ H3 => ∃ (tw : List (Addr × ActA)) (y : Option V), σ = [some (.ref b), some (.ref d), some (.ref l), y] ∧ H3 p = some (.lst ((ss.map (·.r.nm)).map V.str)) ∧ H3 l = some (.lst ((tw.map (·.1)).map V.ref)) ∧ RowsAt K H3 tw ∧
        tw.map (·.2.r.norm) = (ss.take i).map (·.r.norm) ∧ (∀ z ∈ tw, z.2.r.ok) ∧ Dr b H H3)
      ⟨[], none, rfl, e2, e12, ⟨by simp, by simp, by simp, by simp⟩, by simp, by simp, d2⟩ (fun i σ H3 _ h3 => ?_) (fun i x σ H3 hx h3 => ?_) (fun σ H3 h3 => ?_)
    · obtain ⟨tw, y, rfl, e3, _⟩ := h3
      exact .inl (.inl e3)
    · obtain ⟨tw, y, rfl, e3, el3, hR3, hn3, hk3, d03⟩ := h3
      rw [List.getElem?_map, List.getElem?_map, Option.map_map] at hx
      obtain ⟨z, hz, rfl⟩ := Option.map_eq_some_iff.mp hx
      have hi := (List.getElem?_eq_some_iff.mp hz).1
      have hzs := hsub z (List.mem_of_getElem? hz)
      have hA3 := hA.dr d03 hB
      have hB3 := d03.bag hB
      refine ⟨.ref l, rfl, .inl ⟨rfl, _, .inl (.inl el3)⟩, .str z.r.nm, rfl, ?_⟩
      refine ⟨.ref d, rfl, .str z.r.nm, rfl, d, .ref z.a, rfl, Or.inl ⟨_, .inr z.r.nm, .inl hA3.at_, rfl, (hA3.val hzs).symm⟩, ?_⟩
      refine rd_ixT (hA3.tup z hzs) (by decide) (v := .int z.r.ar) rfl ?_
      refine ⟨.ref b, rfl, ?_⟩
      refine ⟨.ref d, rfl, .str z.r.nm, rfl, d, .ref z.a, rfl, Or.inl ⟨_, .inr z.r.nm, .inl hA3.at_, rfl, (hA3.val hzs).symm⟩, ?_⟩
      refine rd_ixT (hA3.tup z hzs) (by decide) (v := .ref z.o) rfl ?_
      refine ⟨.inr (.inr (.inl ⟨rfl, .inl ⟨_, hA3.out z hzs⟩⟩)), z.o, _, rfl, rfl, hA3.out z hzs, fun p8 np8 => ?_⟩
      have hzo : z.o ≠ p8 := ne_of_none (hA3.out z hzs) np8
      refine ⟨p8, z.o, z.r.outs, rfl, upd_same, by rw [upd_ne hzo]; exact hA3.out z hzs, fun H9 l9 ps k9 nl9 hpm hpw hl9 hps => ?_⟩
      have m39 : Mv [] H3 H9 := (Mv.new np8).trans (.of_same k9)
      have d39 : Dr b H3 H9 := .of m39
      have hB9 := d39.bag hB3
      have nl9H : H3 l9 = none := (Mv.new (S := []) np8).free nl9
      have hl9b : l9 ≠ b := hB3.fneq nl9H
      have hpl : ps.length = z.r.outs.length := by
        have := hpm.length_eq
        rwa [List.length_map] at this
      have ho6 := (hok z hzs).o6
      refine ⟨b, l9, _, rfl, hB9, .inl ⟨hl9, hl9b⟩, by rw [List.length_map]; omega, fun pm ms H10 hms npm e10 d10 => ?_⟩
      obtain ⟨ps', hps', rfl⟩ := perm_lift (f := fun z : Addr × Str × Int => V.ref z.1) hms
      have hps10 : ∀ y ∈ ps', SqT K H10 y.1 [.str y.2.1, .int y.2.2] := fun y hy => d10.mv.sqT (.inl (.inl (hps y (hps'.mem_iff.mp hy))))
      have hq : (ps'.map (·.2)).Perm z.r.outs := (hps'.map _).trans hpm
      have hqn : ((ps'.map (·.2)).map (·.1)).Nodup := ((hq.map _).nodup_iff).mpr (hA3.ond z hzs)
      refine Or.inl ⟨pm, ps'.map (·.1), (ps'.map (·.2)).map rowK, rfl, .inl (.inl (by rw [e10, List.map_map]; rfl)), paired_rows2 ps' hps10, fun p11 np11 => ?_⟩
      rw [mergeK_nd _ _ (by rw [List.nil_append, row_keys]; exact nd_inr hqn), List.nil_append]
      have d311 : Dr b H3 (upd H10 p11 (.dK ((ps'.map (·.2)).map rowK))) := (d39.trans d10).trans (.new np11)
      have e11 : upd H10 p11 (.dK ((ps'.map (·.2)).map rowK)) p11 = some (.dK ((ps'.map (·.2)).map rowK)) := upd_same
      generalize upd H10 p11 (.dK ((ps'.map (·.2)).map rowK)) = H11 at d311 e11 ⊢
      refine ⟨(by decide : 2 ≤ sizeLine), fun p12 np12 => ?_⟩
      have m12 : Mv [] H11 (upd H11 p12 (.tup [.int z.r.ar, .ref p11])) := .new np12
      have e12' : SqT K (upd H11 p12 (.tup [.int z.r.ar, .ref p11])) p12 [.int z.r.ar, .ref p11] := .inl (.inl upd_same)
      generalize upd H11 p12 (.tup [.int z.r.ar, .ref p11]) = H12 at m12 e12' ⊢
      refine ⟨(by decide : 2 ≤ sizeLine), fun p13 np13 => ?_⟩
      have m13 : Mv [] H12 (upd H12 p13 (.tup [.str z.r.nm, .ref p12])) := .new np13
      have e13 : SqT K (upd H12 p13 (.tup [.str z.r.nm, .ref p12])) p13 [.str z.r.nm, .ref p12] := .inl (.inl upd_same)
      generalize upd H12 p13 (.tup [.str z.r.nm, .ref p12]) = H13 at m13 e13 ⊢
      have d313 : Dr b H3 H13 := d311.trans (.of (m12.trans m13))
      have el13 := d313.get hlb el3
      refine ⟨l, _, _, rfl, rfl, el13, ?_, ?_⟩
      · rw [List.length_map, List.length_map]
        have := congrArg List.length hn3
        rw [List.length_map, List.length_map, List.length_take] at this
        exact Nat.lt_of_le_of_lt (show tw.length ≤ 1000 by omega) (by decide)
      have hw : Mv [l] H13 (upd H13 l (.lst ((tw.map (·.1)).map V.ref ++ [.ref p13]))) := .set el13 (by simp)
      have hpm' := d313.get hpb e3
      refine ⟨tw ++ [(p13, ⟨⟨z.r.nm, z.r.ar, ps'.map (·.2)⟩, p12, p11⟩)], _, rfl, ?_, ?_, ?_, ?_, ?_, (d03.trans d313).wr nl⟩
      · rw [upd_ne hlp.symm]
        exact hpm'
      · rw [upd_same]
        simp
      · have hR13 := (hR3.dr d313 hB3).lst (H' := H) (o := .lst ((tw.map (·.1)).map V.ref ++ [.ref p13])) el13
        have e1113 := m13.same _ _ (m12.same _ _ e11)
        refine ⟨fun y hy => ?_, fun y hy => ?_, fun y hy => ?_, fun y hy => ?_⟩
        all_goals
          rcases List.mem_append.mp hy with hy | hy
        · exact hR13.row y hy
        · rw [List.mem_singleton] at hy
          subst hy
          exact hw.sqT e13
        · exact hR13.tup y hy
        · rw [List.mem_singleton] at hy
          subst hy
          exact hw.sqT (m13.sqT e12')
        · exact hR13.out y hy
        · rw [List.mem_singleton] at hy
          subst hy
          exact hw.keep _ _ (by simp; rintro rfl; rw [el13] at e1113; cases e1113) e1113
        · exact hR13.ond y hy
        · rw [List.mem_singleton] at hy
          subst hy
          exact hqn
      · rw [List.map_append, hn3, List.take_add_one, hz, List.map_append]
        congr 1
        show [ActR.norm _] = [z.r.norm]
        rw [norm_outs (r := ⟨z.r.nm, z.r.ar, ps'.map (·.2)⟩) (q := z.r) rfl rfl (hA3.ond z hzs) hq]
      · intro y hy
        rcases List.mem_append.mp hy with hy | hy
        · exact hk3 y hy
        · rw [List.mem_singleton] at hy
          subst hy
          have hz' := hok z hzs
          have hql := hq.length_eq
          exact ⟨hz'.nm, hz'.ar0, hz'.ar2, by show 1 ≤ (ps'.map (·.2)).length; rw [hql]; exact hz'.o1, by show (ps'.map (·.2)).length ≤ 6; rw [hql]; exact hz'.o6, fun e he => hz'.on e (hq.mem_iff.mp he)⟩
    · obtain ⟨tw, y, rfl, e3, el3, hR3, hn3, hk3, d03⟩ := h3
      rw [show ((ss.map (·.r.nm)).map V.str).length = ss.length by simp, List.take_length] at hn3
      have hB3 := d03.bag hB
      have htl : tw.length = ss.length := by
        have := congrArg List.length hn3
        rwa [List.length_map, List.length_map] at this
      refine ⟨.ref b, rfl, .ref l, rfl, b, l, _, rfl, hB3, .inl ⟨el3, hlb⟩, by rw [List.length_map, List.length_map]; omega, fun pm ms H4 hms npm e4 d4 => ?_⟩
      rw [List.map_map] at hms
      obtain ⟨tw', htw, rfl⟩ := perm_lift hms
      have hR4 := hR3.dr d4 hB3
      have nmn : (tw'.map (·.2.r.nm)).Nodup := by
        have h1 : (tw'.map (·.2.r.nm)).Perm (zs.map (·.r.nm)) := by
          refine (htw.map _).trans ?_
          have : tw.map (·.2.r.nm) = ss.map (·.r.nm) := by
            have := congrArg (List.map ActR.nm) hn3
            rw [List.map_map, List.map_map] at this
            exact this
          rw [this, ← hss]
          exact (srt_perm zs).map _
        exact h1.nodup_iff.mpr hA.nd
      refine Or.inl ⟨pm, tw'.map (·.1), (tw'.map (·.2)).map ActA.kv, rfl, .inl (.inl (by rw [e4, List.map_map])), paired_acts tw' (fun z hz => hR4.row z (htw.mem_iff.mp hz)), fun p5 np5 => ?_⟩
      have nmn2 : ((tw'.map (·.2)).map (·.r.nm)).Nodup := by rw [List.map_map]; exact nmn
      rw [mergeK_nd _ _ (by rw [List.nil_append, kv_keys]; exact nd_inr nmn2), List.nil_append]
      have m45 : Mv [] H4 (upd H4 p5 (.dK ((tw'.map (·.2)).map ActA.kv))) := .new np5
      have e5 : upd H4 p5 (.dK ((tw'.map (·.2)).map ActA.kv)) p5 = some (.dK ((tw'.map (·.2)).map ActA.kv)) := upd_same
      generalize upd H4 p5 (.dK ((tw'.map (·.2)).map ActA.kv)) = H5 at m45 e5 ⊢
      have hR5 := hR4.mv m45
      have d05 : Dr b H H5 := (d03.trans d4).trans (.of m45)
      refine fun x dx nx ndx hne => ⟨x, dx, p5, tw'.map (·.2), H5, rfl, rfl, nx, ndx, hne, ⟨e5, nmn2, fun z hz => ?_, fun z hz => ?_, fun z hz => ?_⟩, fun z hz => ?_, by rw [List.length_map, htw.length_eq]; omega, fun H6 m6 hW => ⟨rfl, q x H6 ?_ (d05.trans (.of m6))⟩⟩
      · obtain ⟨y, hy, rfl⟩ := List.mem_map.mp hz
        exact hR5.tup y (htw.mem_iff.mp hy)
      · obtain ⟨y, hy, rfl⟩ := List.mem_map.mp hz
        exact hR5.out y (htw.mem_iff.mp hy)
      · obtain ⟨y, hy, rfl⟩ := List.mem_map.mp hz
        exact hR5.ond y (htw.mem_iff.mp hy)
      · obtain ⟨y, hy, rfl⟩ := List.mem_map.mp hz
        exact hk3 y (htw.mem_iff.mp hy)
      · have : normW ((tw'.map (·.2)).map (·.r)) = normW (zs.map (·.r)) := by
          refine normW_perm (by rw [List.map_map]; exact hA.nd) ?_
          rw [List.map_map, List.map_map, List.map_map]
          refine (htw.map _).trans ?_
          show (tw.map (·.2.r.norm)).Perm _
          rw [hn3, ← hss]
          exact (srt_perm zs).map _
        rw [← this]
        exact hW.at_
end
end Fm
namespace Fm
open PySem PySem.Spec PyProof.Rows L2 SlX
local macro_rules | `(tactic| walk_at "nn") => `(tactic| dsimp only [tC, tNil, tCons, tCB, tCall, gName, tSeq, tAsg, tPar, tDrop, tRet])
local macro_rules | `(tactic| walk_at "nc") => `(tactic| dsimp only [tC, tNil, tCons, tCB, tCall])
theorem ActsAt.o_ne {K : PySem.W.Frag} {H : Hp} {d : Addr} {zs : List ActA} (h : ActsAt K H d zs) {z : ActA} (hz : z ∈ zs) : z.o ≠ d := fun e => by
  have h1 := h.out z hz
  rw [e, h.at_] at h1
  have h2 : zs.map ActA.kv = z.r.outs.map rowK := by
    have := Option.some.inj h1
    injection this
  have h3 : z.kv ∈ z.r.outs.map rowK := by rw [← h2]; exact List.mem_map.mpr ⟨z, hz, rfl⟩
  obtain ⟨e, _, he⟩ := List.mem_map.mp h3
  have : V.int e.2 = V.ref z.a := congrArg Prod.snd he
  cases this
theorem RowsAt.put {K : PySem.W.Frag} {H : Hp} {d : Addr} {u o : HO} {tw : List (Addr × ActA)} (h : RowsAt K H tw) (hd : H d = some u) (h1 : ∀ xs, u ≠ .tup xs) (h2 : ∀ o xs, u ≠ .frz o (.tup xs)) (hn : ∀ z ∈ tw, z.2.o ≠ d) : RowsAt K (upd H d o) tw := by
  have m : Mv [d] H (upd H d o) := .put hd h1 h2
  exact ⟨fun z hz => m.sqT (h.row z hz), fun z hz => m.sqT (h.tup z hz), fun z hz => m.keep _ _ (by simpa using hn z hz) (h.out z hz), h.ond⟩
/-- acts of one's own: no two share their outcomes -/
structure ActsO (K : PySem.W.Frag) (H : Hp) (d : Addr) (zs : List ActA) : Prop where
  at_ : ActsAt K H d zs
  od : (zs.map (·.o)).Nodup
theorem nd_key {α β : Type} {f : α → β} : ∀ {xs : List α} {x y : α}, (xs.map f).Nodup → x ∈ xs → y ∈ xs → f x = f y → x = y
  | z :: xs, x, y, n, hx, hy, e => by
    rw [List.map_cons, List.nodup_cons] at n
    rcases List.mem_cons.mp hx with ex | mx
    · rcases List.mem_cons.mp hy with ey | my
      · rw [ex, ey]
      · exact absurd (List.mem_map.mpr ⟨y, my, by rw [← e, ex]⟩) n.1
    · rcases List.mem_cons.mp hy with ey | my
      · exact absurd (List.mem_map.mpr ⟨x, mx, by rw [e, ey]⟩) n.1
      · exact nd_key n.2 mx my e
/-- outcomes of an act put otherwise -/
def reO (zs : List ActA) (o : Addr) (rows : List (Str × Int)) : List ActA := zs.map fun z => if z.o = o then { z with r := { z.r with outs := rows } } else z
theorem reO_kv (zs : List ActA) (o : Addr) (rows : List (Str × Int)) : (reO zs o rows).map ActA.kv = zs.map ActA.kv := by
  unfold reO
  rw [List.map_map]
  refine List.map_congr_left fun z _ => ?_
  simp only [Function.comp]
  split <;> rfl
theorem reO_nm (zs : List ActA) (o : Addr) (rows : List (Str × Int)) : (reO zs o rows).map (·.r.nm) = zs.map (·.r.nm) := by
  unfold reO
  rw [List.map_map]
  refine List.map_congr_left fun z _ => ?_
  simp only [Function.comp]
  split <;> rfl
theorem reO_o (zs : List ActA) (o : Addr) (rows : List (Str × Int)) : (reO zs o rows).map (·.o) = zs.map (·.o) := by
  unfold reO
  rw [List.map_map]
  refine List.map_congr_left fun z _ => ?_
  simp only [Function.comp]
  split <;> rfl
theorem reO_mem {zs : List ActA} {o : Addr} {rows : List (Str × Int)} {y : ActA} (h : y ∈ reO zs o rows) : ∃ z ∈ zs, y.a = z.a ∧ y.o = z.o ∧ y.r.nm = z.r.nm ∧ y.r.ar = z.r.ar ∧ ((z.o = o ∧ y.r.outs = rows) ∨ (z.o ≠ o ∧ y = z)) := by
  obtain ⟨z, hz, rfl⟩ := List.mem_map.mp h
  refine ⟨z, hz, ?_⟩
  by_cases e : z.o = o
  · rw [if_pos e]
    exact ⟨rfl, rfl, rfl, rfl, .inl ⟨e, rfl⟩⟩
  · rw [if_neg e]
    exact ⟨rfl, rfl, rfl, rfl, .inr ⟨e, rfl⟩⟩
theorem ActsO.putO {K : PySem.W.Frag} {H : Hp} {d o : Addr} {zs : List ActA} {rows rows' : List (Str × Int)} (h : ActsO K H d zs) (ho : o ≠ d) (e : H o = some (.dK (rows.map rowK))) (n : (rows'.map (·.1)).Nodup) : ActsO K (upd H o (.dK (rows'.map rowK))) d (reO zs o rows') := by
  have m : Mv [o] H (upd H o (.dK (rows'.map rowK))) := .putD e
  refine ⟨⟨?_, by rw [reO_nm]; exact h.at_.nd, fun y hy => ?_, fun y hy => ?_, fun y hy => ?_⟩, by rw [reO_o]; exact h.od⟩
  · rw [upd_ne ho.symm, reO_kv]
    exact h.at_.at_
  · obtain ⟨z, hz, e1, e2, _, e4, _⟩ := reO_mem hy
    rw [e1, e2, e4]
    exact m.sqT (h.at_.tup z hz)
  · obtain ⟨z, hz, _, e2, _, _, e5⟩ := reO_mem hy
    rcases e5 with ⟨e6, e7⟩ | ⟨e6, rfl⟩
    · rw [e2, e6, e7, upd_same]
    · exact m.keep _ _ (by simpa using e6) (h.at_.out _ hz)
  · obtain ⟨z, hz, _, _, _, _, e5⟩ := reO_mem hy
    rcases e5 with ⟨_, e7⟩ | ⟨_, rfl⟩
    · rw [e7]
      exact n
    · exact h.at_.ond _ hz
theorem ActsO.dr {K : PySem.W.Frag} {H H' : Hp} {b d : Addr} {zs : List ActA} (h : ActsO K H d zs) (m : Dr b H H') (hB : Bag H b) : ActsO K H' d zs := ⟨h.at_.dr m hB, h.od⟩
theorem ActsO.mv {K : PySem.W.Frag} {H H' : Hp} {d : Addr} {zs : List ActA} (h : ActsO K H d zs) (m : Mv [] H H') : ActsO K H' d zs := ⟨h.at_.mv m, h.od⟩
/-- a name with a fall -/
def dash (x : Str) : Str := x ++ "-"
theorem dash_cps (x : Str) : (dash x).cps.toList = x.cps.toList ++ [45] := by
  unfold dash
  rw [str_cps_append]
  rfl
theorem dash_len (x : Str) : (dash x).length = x.length + 1 := by
  rw [← toList_len, dash_cps, List.length_append, toList_len]
  rfl
theorem on_dash {x : Str} (h : Nm x) : On (dash x) := by
  refine ⟨?_, by rw [dash_len]; have := h.2.1; omega⟩
  have hd : dashed (dash x) = true := by
    unfold dashed
    rw [dash_len, dash_cps, Nat.add_sub_cancel, List.drop_append_of_le_length (by rw [toList_len]; exact Nat.le_refl _), List.drop_of_length_le (by rw [toList_len]; exact Nat.le_refl _)]
    rfl
  have hi : initS (dash x) = x := by
    unfold initS
    rw [dash_len, dash_cps, Nat.add_sub_cancel, List.take_append_of_le_length (by rw [toList_len]; exact Nat.le_refl _), List.take_of_length_le (by rw [toList_len]; exact Nat.le_refl _)]
  simp only [isOutc]
  rw [hd, hi]
  exact nmd_nm h
def sp_more (K : PySem.W.Frag) : Sp := fun vs H Q _ => ∃ (b d : Addr) (zs : List ActA), vs = [.ref b, .ref d] ∧ Bag H b ∧ ActsAt K H d zs ∧ (∀ z ∈ zs, z.r.ok ∧ z.r.thin) ∧ zs.length ≤ 50 ∧
  ∀ d' zs' H', ActsO K H' d' zs' → H d' = none → (∀ z ∈ zs', H z.o = none) → (∀ z ∈ zs', z.r.ok) → zs'.length = zs.length → Dr b H H' → Q (.ref d') H'
section
variable {P : Program} {w : World} {K : PySem.W.Frag} {mg : Str → Option Value} {base : Heap}
theorem ok__law_more (T : TX K mg) {k : Nat} : FnOk P w K mg base CX0 (k + 2) T.d__law_more.f T.d__law_more.fd P__law_more (sp_more K) := by
  have G__law_take : FnOk P w K mg base CX0 1 T.d__law_take.f T.d__law_take.fd P__law_take sp_take := ok__law_take T
  refine T.d__law_more.F.ok sc__law_more (fun vs H Q E h => ?_) (fun cdv A outer s H vs Q E hr h => ?_)
  · obtain ⟨_, _, _, rfl, _⟩ := h
    rfl
  · obtain ⟨b, d, zs, rfl, hB, hA, hok, hfew, q⟩ := h
    have hu1 := hu1_of hr
    have hu64 := hr.units
    refine ⟨_, (pss_cons (ps_set (i := 2) sc__law_more.nd rfl (Or.inl rfl) (pe_callTy (r := rDictG K) (call_dictG rfl) (by rfl) T.b_dict bt_dict (pa_cons (pe_lock (pe_lc (own := [("_law_act", 3)]) (g := gName 3) (by rfl) sc__law_more.nd (pi_keys (pv 1)) (blkOk_by (own := [("_law_act", 3)]) (N := N__law_more) (sc := defScope s__law_more) (by decide +kernel)) (fun _ _ _ _ _ => pg_name (i := 3) sc__law_more.nd rfl (Or.inl rfl)) (fun _ _ _ _ _ => pts_nil) (fun _ _ _ _ _ => (pe_tup (pa_cons (pv 3) (pa_cons (pe_tup (pa_cons (pe_ix (r := rIx K) ix_seq (pe_dget hu1 (pv 1) (pv 3) (fun _ _ => rfl)) pe_int (fun _ _ => rfl)) (pa_cons (pe_callTy (r := rDictG K) (call_dictG rfl) (by rfl) T.b_dict bt_dict (pa_cons (pe_ix (r := rIx K) ix_seq (pe_dget hu1 (pv 1) (pv 3) (fun _ _ => rfl)) pe_int (fun _ _ => rfl)) pa_nil)) pa_nil))) pa_nil)))))) pa_nil))) (pss_cons (ps_for PassesOwn.never rfl (pi_seq (pe_callB (r := rSortA K) (cr_sortA rfl) (by rfl) T.b_sorted bt_sorted (pa_cons (pv 2) pa_nil))) (pg_name (i := 3) sc__law_more.nd rfl (Or.inl rfl)) (pss_one (ps_for PassesOwn.never rfl (pi_seq (pe_callB (r := rSortA K) (cr_sortA rfl) (by rfl) T.b_sorted bt_sorted (pa_cons (pe_ix (r := rIx K) ix_seq (pe_dget hu1 (pv 2) (pv 3) (fun _ _ => rfl)) pe_int (fun _ _ => rfl)) pa_nil))) (pg_name (i := 4) sc__law_more.nd rfl (Or.inl rfl)) (pss_one (ps_if (pt_cmpR (r := rEqG K) (op_eqG hu64) (pe_call G__law_take (hr.mono (by omega)) rfl T.d__law_take.g T.d__law_take.F.kp T.d__law_take.b .nil pass0 (pa_cons (pv 0) (pa_cons pe_int pa_nil))) pe_int (nomark _)) (pss_one (ps_dput hu1 (pe_ix (r := rIx K) ix_seq (pe_dget hu1 (pv 2) (pv 3) (fun _ _ => rfl)) pe_int (fun _ _ => rfl)) (pe_op (r := rAddG K) op_addG (pv 4) pe_str) (pe_call G__law_take (hr.mono (by omega)) rfl T.d__law_take.g T.d__law_take.F.kp T.d__law_take.b .nil pass0 (pa_cons (pv 0) (pa_cons pe_int pa_nil))) rfl)) pss_nil))))) (pss_one (ps_ret (pv 2))))), ?_⟩
    have hd := hA.at_
    refine ⟨d, _, hd, trivial, fun od => ?_⟩
    have e0 : upd H d (.frz od (.dK (zs.map ActA.kv))) d = some (.frz od (.dK (zs.map ActA.kv))) := upd_same
    have lk0 : Mv [d] H (upd H d (.frz od (.dK (zs.map ActA.kv)))) := Mv.lock hd (fun _ z => by cases z) (fun _ _ z => by cases z)
    have un : ∀ H', Mv [] (upd H d (.frz od (.dK (zs.map ActA.kv)))) H' → Mv [] H (upd H' d (.dK (zs.map ActA.kv))) := fun H' m => Mv.unlock hd (fun _ z => by cases z) (fun _ _ z => by cases z) m
    have fr0 : ∀ p, upd H d (.frz od (.dK (zs.map ActA.kv))) p = none → H p = none := fun p np => by
      by_cases e : p = d
      · rw [e, upd_same] at np
        cases np
      · rwa [upd_ne e] at np
    generalize upd H d (.frz od (.dK (zs.map ActA.kv))) = HL at e0 un lk0 fr0 ⊢
    have tupL : ∀ z ∈ zs, SqT K HL z.a [.int z.r.ar, .ref z.o] := fun z hz => lk0.sqT (hA.tup z hz)
    have outL : ∀ z ∈ zs, HL z.o = some (.dK (z.r.outs.map rowK)) := fun z hz => lk0.keep _ _ (by simpa using hA.o_ne hz) (hA.out z hz)
    refine ⟨.ref d, rfl, d, od, rfl, Or.inl ⟨_, e0, fun D nD => ?_⟩⟩
    have hDd : D ≠ d := by
      rintro rfl
      rw [e0] at nD
      cases nD
    refine lc_it walk_keys (fun i H2 => ∃ tw : List (Addr × ActA), H2 D = some (.lst ((tw.map (·.1)).map V.ref)) ∧ RowsAt K H2 tw ∧ tw.map (·.2.r) = (zs.take i).map (·.r) ∧ (tw.map (·.2.o)).Nodup ∧ (∀ z ∈ tw, HL z.2.o = none ∧ z.2.o ≠ D) ∧ Mv [] HL H2)
      ⟨[], upd_same, ⟨by simp, by simp, by simp, by simp⟩, by simp, by simp, by simp, .new nD⟩ (fun i H2 _ h2 => h2.choose_spec.2.2.2.2.2.same _ _ e0) (fun i y H2 H3 hi h2 yy => ?_) (fun H2 h2 => ?_)
    · obtain ⟨tw, e2, hR2, n2, u2, f2, m2⟩ := h2
      obtain ⟨rfl, k, v, hk, rfl⟩ := yy
      rw [List.getElem?_map] at hk
      obtain ⟨z, hz, hk⟩ := Option.map_eq_some_iff.mp hk
      obtain ⟨rfl, rfl⟩ := Prod.mk.inj hk
      have hzm := List.mem_of_getElem? hz
      have hil := (List.getElem?_eq_some_iff.mp hz).1
      have dg : DGet H3 d (.str z.r.nm) (some (.ref z.a)) := Or.inl ⟨_, .inr z.r.nm, .inr ⟨od, m2.same _ _ e0⟩, rfl, (hA.val hzm).symm⟩
      have tz := m2.sqT (tupL z hzm)
      have oz := m2.same _ _ (outL z hzm)
      refine ⟨rfl, .str z.r.nm, rfl, .ref d, rfl, .str z.r.nm, rfl, d, .ref z.a, rfl, dg, rd_ixT tz (by decide) (v := .int z.r.ar) rfl ?_⟩
      refine ⟨.ref d, rfl, .str z.r.nm, rfl, d, .ref z.a, rfl, dg, rd_ixT tz (by decide) (v := .ref z.o) rfl (Or.inr ⟨z.o, _, rfl, oz, fun o4 no4 => ?_⟩)⟩
      have m4 : Mv [] H3 (upd H3 o4 (.dK (z.r.outs.map rowK))) := .new no4
      have e4 : upd H3 o4 (.dK (z.r.outs.map rowK)) o4 = some (.dK (z.r.outs.map rowK)) := upd_same
      have hoD : o4 ≠ D := (ne_of_none e2 no4).symm
      have hot : ∀ y ∈ tw, y.2.o ≠ o4 := fun y hy => ne_of_none (hR2.out y hy) no4
      have nL4 := m2.free no4
      generalize upd H3 o4 (.dK (z.r.outs.map rowK)) = H4 at m4 e4 ⊢
      refine ⟨(by decide : 2 ≤ sizeLine), fun a5 na5 => ?_⟩
      have m5 : Mv [] H4 (upd H4 a5 (.tup [.int z.r.ar, .ref o4])) := .new na5
      have e5 : SqT K (upd H4 a5 (.tup [.int z.r.ar, .ref o4])) a5 [.int z.r.ar, .ref o4] := .inl (.inl upd_same)
      generalize upd H4 a5 (.tup [.int z.r.ar, .ref o4]) = H5 at m5 e5 ⊢
      refine ⟨(by decide : 2 ≤ sizeLine), fun p6 np6 => ?_⟩
      have m6 : Mv [] H5 (upd H5 p6 (.tup [.str z.r.nm, .ref a5])) := .new np6
      have e6 : SqT K (upd H5 p6 (.tup [.str z.r.nm, .ref a5])) p6 [.str z.r.nm, .ref a5] := .inl (.inl upd_same)
      generalize upd H5 p6 (.tup [.str z.r.nm, .ref a5]) = H6 at m6 e6 ⊢
      have m36 := m4.trans (m5.trans m6)
      have e36 := m36.same _ _ e2
      have hw : Mv [D] H6 (upd H6 D (.lst ((tw.map (·.1)).map V.ref ++ [.ref p6]))) := .set e36 (by simp)
      have hR6 := (hR2.mv m36).lst (H' := H) (o := .lst ((tw.map (·.1)).map V.ref ++ [.ref p6])) e36
      have hnl := congrArg List.length n2
      rw [List.length_map, List.length_map, List.length_take] at hnl
      refine ⟨_, e36, ?_, tw ++ [(p6, ⟨z.r, a5, o4⟩)], ?_, ?_, ?_, ?_, ?_, (m2.trans m36).wr nD⟩
      · rw [List.length_map, List.length_map]
        exact Nat.lt_of_le_of_lt (show tw.length ≤ 1000 by omega) (by decide)
      · rw [upd_same]
        simp
      · refine ⟨fun y hy => ?_, fun y hy => ?_, fun y hy => ?_, fun y hy => ?_⟩
        all_goals rcases List.mem_append.mp hy with hy | hy
        · exact hR6.row y hy
        · rw [List.mem_singleton] at hy
          subst hy
          exact hw.sqT e6
        · exact hR6.tup y hy
        · rw [List.mem_singleton] at hy
          subst hy
          exact hw.sqT (m6.sqT e5)
        · exact hR6.out y hy
        · rw [List.mem_singleton] at hy
          subst hy
          exact hw.keep _ _ (by simpa using hoD) ((m5.trans m6).same _ _ e4)
        · exact hR6.ond y hy
        · rw [List.mem_singleton] at hy
          subst hy
          exact hA.ond z hzm
      · rw [List.map_append, n2, List.take_add_one, hz, List.map_append]
        rfl
      · rw [List.map_append]
        exact nd_snoc u2 fun hm => by
          obtain ⟨y, hy, e⟩ := List.mem_map.mp hm
          exact hot y hy e
      · intro y hy
        rcases List.mem_append.mp hy with hy | hy
        · exact f2 y hy
        · rw [List.mem_singleton] at hy
          subst hy
          exact ⟨nL4, hoD⟩
    obtain ⟨tw, e2, hR2, n2, u2, f2, m2⟩ := h2
    rw [List.length_map, List.take_length] at n2
    refine ⟨m2.same _ _ e0, ?_⟩
    have m3 := un H2 m2
    have oD : ∀ z ∈ tw, z.2.o ≠ d := fun z hz e => by
      have := (f2 z hz).1
      rw [e, e0] at this
      cases this
    have hR3 : RowsAt K (upd H2 d (.dK (zs.map ActA.kv))) tw := hR2.put (m2.same _ _ e0) (fun _ z => by cases z) (fun _ _ z => by cases z) oD
    have e3 : upd H2 d (.dK (zs.map ActA.kv)) D = some (.lst ((tw.map (·.1)).map V.ref)) := by
      rw [upd_ne hDd]
      exact e2
    generalize upd H2 d (.dK (zs.map ActA.kv)) = H3 at m3 hR3 e3 ⊢
    have ntw : ((tw.map (·.2)).map (·.r)) = zs.map (·.r) := by rw [List.map_map]; exact n2
    have nmt : ((tw.map (·.2)).map (·.r.nm)).Nodup := by
      have : (tw.map (·.2)).map (·.r.nm) = zs.map (·.r.nm) := by
        have h1 := congrArg (List.map ActR.nm) ntw
        rw [List.map_map (f := fun z : ActA => z.r), List.map_map (f := fun z : ActA => z.r)] at h1
        exact h1
      rw [this]
      exact hA.nd
    refine Or.inl ⟨D, tw.map (·.1), (tw.map (·.2)).map ActA.kv, rfl, .inl (.inl e3), paired_acts tw hR3.row, fun d' nd' => ?_⟩
    rw [mergeK_nd _ _ (by rw [List.nil_append, kv_keys]; exact nd_inr nmt), List.nil_append]
    have nd0 : H d' = none := m3.free nd'
    have m4 : Mv [] H (upd H3 d' (.dK ((tw.map (·.2)).map ActA.kv))) := m3.trans (.new nd')
    have hO : ActsO K (upd H3 d' (.dK ((tw.map (·.2)).map ActA.kv))) d' (tw.map (·.2)) := by
      have mm : Mv [] H3 (upd H3 d' (.dK ((tw.map (·.2)).map ActA.kv))) := .new nd'
      refine ⟨⟨upd_same, nmt, fun z hz => ?_, fun z hz => ?_, fun z hz => ?_⟩, by rw [List.map_map]; exact u2⟩
      all_goals obtain ⟨y, hy, rfl⟩ := List.mem_map.mp hz
      · exact mm.sqT (hR3.tup y hy)
      · exact mm.same _ _ (hR3.out y hy)
      · exact hR3.ond y hy
    have fo : ∀ z ∈ tw.map (·.2), H z.o = none := fun z hz => by
      obtain ⟨y, hy, rfl⟩ := List.mem_map.mp hz
      exact fr0 _ (f2 y hy).1
    generalize tw.map (·.2) = zs1 at ntw nmt hO fo m4 ⊢
    generalize upd H3 d' (.dK (zs1.map ActA.kv)) = H4 at m4 hO ⊢
    have hz1l : zs1.length = zs.length := by
      have := congrArg List.length ntw
      rwa [List.length_map, List.length_map] at this
    have hok1 : ∀ z ∈ zs1, z.r.ok ∧ z.r.thin := fun z hz => by
      have : z.r ∈ zs.map (·.r) := by rw [← ntw]; exact List.mem_map.mpr ⟨z, hz, rfl⟩
      obtain ⟨y, hy, e⟩ := List.mem_map.mp this
      rw [← e]
      exact hok y hy
    have d4 : Dr b H H4 := .of m4
    have hB4 := d4.bag hB
    have hlz : (zs1.map (·.r.nm)).length < 64 := by rw [List.length_map]; omega
    refine ⟨.ref d', rfl, Or.inl ⟨d', _, zs1.map (·.r.nm), rfl, .inl hO.at_.at_, kv_keys zs1, hlz, fun ys p hp hs np => ⟨p, rfl, ?_⟩⟩⟩
    have hpb : p ≠ b := hB4.fneq np
    have hpd : d' ≠ p := ne_of_none hO.at_.at_ np
    have ndy : ys.Nodup := hp.nodup_iff.mpr nmt
    have d5 : Dr b H (upd H4 p (.lst (ys.map V.str))) := d4.trans (.new np)
    have e5 : upd H4 p (.lst (ys.map V.str)) p = some (.lst (ys.map V.str)) := upd_same
    have hO5 : ActsO K (upd H4 p (.lst (ys.map V.str))) d' zs1 := hO.mv (.new np)
    generalize upd H4 p (.lst (ys.map V.str)) = H5 at d5 e5 hO5 ⊢
    refine Or.inl ⟨⟨_, .inl (.inl e5)⟩, ?_⟩
    refine for_list (K := K) (a := p) (xs := ys.map V.str) (fun i σ H6 => ∃ (zs2 : List ActA) (y3 y4 : Option V), σ = [some (.ref b), some (.ref d), some (.ref d'), y3, y4] ∧ H6 p = some (.lst (ys.map V.str)) ∧ ActsO K H6 d' zs2 ∧ (∀ z ∈ zs2, z.r.ok) ∧ zs2.map (·.r.nm) = zs1.map (·.r.nm) ∧ zs2.map (·.o) = zs1.map (·.o) ∧
        (∀ z ∈ zs2, z.r.nm ∈ ys.drop i → z.r.thin) ∧ Dr b H H6)
      ⟨zs1, _, _, rfl, e5, hO5, fun z hz => (hok1 z hz).1, rfl, rfl, fun z hz _ => (hok1 z hz).2, d5⟩ (fun i σ H6 _ h6 => ?_) (fun i x σ H6 hx h6 => ?_) (fun σ H6 h6 => ?_)
    · obtain ⟨_, _, _, _, e6, _⟩ := h6
      exact .inl (.inl e6)
    · obtain ⟨zs2, y3, y4, rfl, e6, hO6, hk6, n6, o6, t6, d6⟩ := h6
      rw [List.getElem?_map] at hx
      obtain ⟨nm, hnm, rfl⟩ := Option.map_eq_some_iff.mp hx
      have hil := (List.getElem?_eq_some_iff.mp hnm).1
      have hnm' : ys[i] = nm := by
        rw [List.getElem?_eq_getElem hil] at hnm
        exact Option.some.inj hnm
      have hB6 := d6.bag hB
      obtain ⟨z, hz, hzn⟩ : ∃ z ∈ zs2, z.r.nm = nm := by
        have : nm ∈ zs2.map (·.r.nm) := by rw [n6]; exact hp.mem_iff.mp (List.mem_of_getElem? hnm)
        obtain ⟨z, hz, e⟩ := List.mem_map.mp this
        exact ⟨z, hz, e⟩
      subst hzn
      have thin := t6 z hz (by rw [List.drop_eq_getElem_cons hil, hnm']; exact List.mem_cons_self)
      have dget : ∀ {H' zs'}, ActsO K H' d' zs' → (∃ z' ∈ zs', z'.r.nm = z.r.nm ∧ z'.a = z.a ∧ z'.o = z.o) → DGet H' d' (.str z.r.nm) (some (.ref z.a)) := fun {H' zs'} h hz' => by
        obtain ⟨z', hm, e1, e2, _⟩ := hz'
        refine Or.inl ⟨_, .inr z.r.nm, .inl h.at_.at_, rfl, ?_⟩
        rw [← e1, h.at_.val hm, e2]
      have hzo : z.o ≠ d' := hO6.at_.o_ne hz
      have nzo : H z.o = none := by
        have : z.o ∈ zs1.map (·.o) := by rw [← o6]; exact List.mem_map.mpr ⟨z, hz, rfl⟩
        obtain ⟨y, hy, e⟩ := List.mem_map.mp this
        rw [← e]
        exact fo y hy
      have hzb : z.o ≠ b := hB.fneq nzo
      refine ⟨.ref d', rfl, .str z.r.nm, rfl, d', .ref z.a, rfl, dget hO6 ⟨z, hz, rfl, rfl, rfl⟩, ?_⟩
      refine rd_ixT (hO6.at_.tup z hz) (by decide) (v := .ref z.o) rfl ?_
      have ol : (z.r.outs.map (·.1)).length < 64 := by rw [List.length_map]; have := thin.1; omega
      refine Or.inl ⟨z.o, _, z.r.outs.map (·.1), rfl, .inl (hO6.at_.out z hz), row_keys _, ol, fun ws p2 hp2 hs2 np2 => ⟨p2, rfl, ?_⟩⟩
      have hwl : ws.length ≤ 3 := by
        have := hp2.length_eq
        rw [List.length_map] at this
        have := thin.1
        omega
      have hwn : ∀ x ∈ ws, Nm x := fun x hx => by
        obtain ⟨e, he, rfl⟩ := List.mem_map.mp (hp2.mem_iff.mp hx)
        exact thin.2 e he
      have hp2b : p2 ≠ b := hB6.fneq np2
      have hpp : p ≠ p2 := ne_of_none e6 np2
      have hop2 : z.o ≠ p2 := ne_of_none (hO6.at_.out z hz) np2
      have d7 : Dr b H (upd H6 p2 (.lst (ws.map V.str))) := d6.trans (.new np2)
      have e7 : upd H6 p2 (.lst (ws.map V.str)) p2 = some (.lst (ws.map V.str)) := upd_same
      have e67 : upd H6 p2 (.lst (ws.map V.str)) p = some (.lst (ys.map V.str)) := same_new np2 _ _ e6
      have hO7 : ActsO K (upd H6 p2 (.lst (ws.map V.str))) d' zs2 := hO6.mv (.new np2)
      generalize upd H6 p2 (.lst (ws.map V.str)) = H7 at d7 e7 e67 hO7 ⊢
      have self : reO zs2 z.o z.r.outs = zs2 := by
        unfold reO
        conv => rhs; rw [← List.map_id zs2]
        refine List.map_congr_left fun y hy => ?_
        by_cases e : y.o = z.o
        · have := nd_key hO6.od hy hz e
          subst this
          simp
        · rw [if_neg e]
          rfl
      refine Or.inl ⟨⟨_, .inl (.inl e7)⟩, ?_⟩
      refine for_list (K := K) (a := p2) (xs := ws.map V.str) (fun j σ H8 => ∃ (rows : List (Str × Int)) (y4 : Option V), σ = [some (.ref b), some (.ref d), some (.ref d'), some (.str z.r.nm), y4] ∧ H8 p2 = some (.lst (ws.map V.str)) ∧ H8 p = some (.lst (ys.map V.str)) ∧ ActsO K H8 d' (reO zs2 z.o rows) ∧ (rows.map (·.1)).Nodup ∧ (∀ e ∈ rows, On e.1 ∧ 0 ≤ e.2 ∧ e.2 ≤ 2) ∧ 1 ≤ rows.length ∧ rows.length ≤ 3 + j ∧ Dr b H H8)
        ⟨z.r.outs, _, rfl, e7, e67, by rw [self]; exact hO7, hO6.at_.ond z hz, (hk6 z hz).on, (hk6 z hz).o1, thin.1, d7⟩ (fun j σ H8 _ h8 => ?_) (fun j x σ H8 hx h8 => ?_) (fun σ H8 h8 => ?_)
      · obtain ⟨_, _, _, e8, _⟩ := h8
        exact .inl (.inl e8)
      · obtain ⟨rows, y4, rfl, e8, e68, hO8, nd8, on8, l81, l86, d8⟩ := h8
        rw [List.getElem?_map] at hx
        obtain ⟨x, hxx, rfl⟩ := Option.map_eq_some_iff.mp hx
        have hjl := (List.getElem?_eq_some_iff.mp hxx).1
        have hB8 := d8.bag hB
        refine ⟨.ref b, rfl, b, 2, rfl, hB8, by decide, by decide, fun n H9 n0 n1 d9 => ?_⟩
        have hB9 := d9.bag hB8
        refine Or.inl ⟨rfl, _, rfl, ?_⟩
        rw [vint_eq]
        refine ite2 (fun e => ?_) (fun e => ⟨rows, _, rfl, d9.get hp2b e8, d9.get hpb e68, hO8.dr d9 hB8, nd8, on8, l81, by omega, d8.trans d9⟩)
        refine ⟨.ref b, rfl, b, 3, rfl, hB9, by decide, by decide, fun v H10 v0 v1 d10 => ?_⟩
        have d810 := d9.trans d10
        have hO10 := hO8.dr d810 hB8
        have hz8 : (⟨⟨z.r.nm, z.r.ar, rows⟩, z.a, z.o⟩ : ActA) ∈ reO zs2 z.o rows := List.mem_map.mpr ⟨z, hz, by rw [if_pos rfl]⟩
        have tz8 : SqT K H10 z.a [.int z.r.ar, .ref z.o] := hO10.at_.tup ⟨⟨z.r.nm, z.r.ar, rows⟩, z.a, z.o⟩ hz8
        refine ⟨.ref d', rfl, .str z.r.nm, rfl, d', .ref z.a, rfl, dget hO10 ⟨_, hz8, rfl, rfl, rfl⟩, ?_⟩
        refine rd_ixT tz8 (by decide) (v := .ref z.o) rfl ?_
        have hxn := hwn x (List.mem_of_getElem? hxx)
        refine ⟨.str x, rfl, Or.inr (Or.inl ⟨x, "-", rfl, rfl, ?_, ?_⟩)⟩
        · have h8 := hxn.2.1
          have h9 : (Str.ofString "-").length = 1 := by decide +kernel
          exact Nat.le_trans (show x.length + (Str.ofString "-").length ≤ 1000 by omega) (by decide)
        have eo10 : H10 z.o = some (.dK (rows.map rowK)) := hO10.at_.out ⟨⟨z.r.nm, z.r.ar, rows⟩, z.a, z.o⟩ hz8
        obtain ⟨rows', hput, nd', mem', len', one'⟩ := rows_put nd8 (dash x) v
        refine ⟨z.o, _, rfl, Or.inl ⟨_, .inr (dash x), eo10, rfl, ?_, rfl⟩, ?_⟩
        · rw [List.length_map]
          exact Nat.lt_of_le_of_lt (show rows.length ≤ 1000 by omega) (by decide)
        rw [hput]
        have hO11 := hO10.putO hzo eo10 nd'
        have re2 : reO (reO zs2 z.o rows) z.o rows' = reO zs2 z.o rows' := by
          unfold reO
          rw [List.map_map]
          refine List.map_congr_left fun y _ => ?_
          simp only [Function.comp]
          by_cases e : y.o = z.o
          · simp only [if_pos e]
          · simp only [if_neg e]
        rw [re2] at hO11
        refine ⟨rows', _, rfl, ?_, ?_, hO11, nd', fun e he => ?_, one', by omega, (d8.trans d810).wr nzo⟩
        · rw [upd_ne hop2.symm]
          exact d810.get hp2b e8
        · have hpo : p ≠ z.o := by
            rintro rfl
            have h9 := d810.get hpb e68
            rw [eo10] at h9
            cases h9
          rw [upd_ne hpo]
          exact d810.get hpb e68
        · rcases mem' e he with he | rfl
          · exact on8 e he
          · exact ⟨on_dash hxn, v0, by show v ≤ 2; omega⟩
      · obtain ⟨rows, y4, rfl, e8, e68, hO8, nd8, on8, l81, l86, d8⟩ := h8
        rw [List.length_map] at l86
        refine ⟨reO zs2 z.o rows, _, _, rfl, e68, hO8, fun y hy => ?_, by rw [reO_nm]; exact n6, by rw [reO_o]; exact o6, fun y hy hny => ?_, d8⟩
        · obtain ⟨z', hz', _, _, e3, e4, e5⟩ := reO_mem hy
          have hk := hk6 z' hz'
          rcases e5 with ⟨_, e7⟩ | ⟨_, rfl⟩
          · exact ⟨by rw [e3]; exact hk.nm, by rw [e4]; exact hk.ar0, by rw [e4]; exact hk.ar2, by rw [e7]; exact l81, by rw [e7]; omega, by rw [e7]; exact on8⟩
          · exact hk
        · obtain ⟨z', hz', _, _, e3, _, e5⟩ := reO_mem hy
          rcases e5 with ⟨e6', _⟩ | ⟨_, rfl⟩
          · have := nd_key hO6.od hz' hz e6'
            subst this
            exfalso
            rw [e3] at hny
            have := ndy
            rw [← List.take_append_drop (i + 1) ys] at this
            have h1 : z'.r.nm ∈ ys.take (i + 1) := by
              rw [List.take_add_one, hnm]
              simp
            exact (List.nodup_append.mp this).2.2 _ h1 _ hny rfl
          · exact t6 _ hz' (by rw [List.drop_eq_getElem_cons hil]; exact List.mem_cons_of_mem _ hny)
    · obtain ⟨zs2, y3, y4, rfl, e6, hO6, hk6, n6, o6, t6, d6⟩ := h6
      refine ⟨.ref d', rfl, q d' zs2 H6 hO6 nd0 (fun z hz => ?_) hk6 ?_ d6⟩
      · have : z.o ∈ zs1.map (·.o) := by rw [← o6]; exact List.mem_map.mpr ⟨z, hz, rfl⟩
        obtain ⟨y, hy, e⟩ := List.mem_map.mp this
        rw [← e]
        exact fo y hy
      · have := congrArg List.length n6
        rw [List.length_map, List.length_map] at this
        omega
end
end Fm
namespace Fm
open PySem PySem.Spec PyProof.Rows L2 SlX
local macro_rules | `(tactic| walk_at "nn") => `(tactic| dsimp only [tC, tNil, tCons, tCB, tCall, gName, tSeq, tAsg, tPar, tDrop, tRet])
local macro_rules | `(tactic| walk_at "nc") => `(tactic| dsimp only [tC, tNil, tCons, tCB, tCall])
/-- more names than keys: one is new -/
theorem pigeon {α : Type} [DecidableEq α] : ∀ {xs ys : List α}, xs.Nodup → ys.length < xs.length → ∃ x ∈ xs, x ∉ ys
  | [], ys, _, h => absurd h (Nat.not_lt_zero _)
  | x :: xs, ys, n, h => by
    rw [List.nodup_cons] at n
    by_cases hx : x ∈ ys
    · obtain ⟨l1, l2, rfl⟩ := List.append_of_mem hx
      have h2 : (l1 ++ l2).length < xs.length := by
        rw [List.length_append] at h ⊢
        simp only [List.length_cons] at h
        omega
      obtain ⟨y, hy, ny⟩ := pigeon n.2 h2
      refine ⟨y, List.mem_cons_of_mem _ hy, fun hm => ?_⟩
      rcases List.mem_append.mp hm with hm | hm
      · exact ny (List.mem_append.mpr (.inl hm))
      · rcases List.mem_cons.mp hm with rfl | hm
        · exact n.1 hy
        · exact ny (List.mem_append.mpr (.inr hm))
    · exact ⟨x, List.mem_cons_self, hx⟩
theorem first_new {xs ys : List Str} (n : xs.Nodup) (h : ys.length < xs.length) : ∃ x r, (xs.filter fun x => decide (x ∉ ys)) = x :: r ∧ x ∈ xs ∧ x ∉ ys := by
  obtain ⟨y, hy, ny⟩ := pigeon n h
  cases e : xs.filter fun x => decide (x ∉ ys) with
  | nil =>
    have : y ∈ xs.filter fun x => decide (x ∉ ys) := List.mem_filter.mpr ⟨hy, by simpa using ny⟩
    rw [e] at this
    cases this
  | cons x r =>
    have : x ∈ xs.filter fun x => decide (x ∉ ys) := by rw [e]; exact List.mem_cons_self
    obtain ⟨h1, h2⟩ := List.mem_filter.mp this
    exact ⟨x, r, rfl, h1, by simpa using h2⟩
theorem ActsAt.has {K : PySem.W.Frag} {H : Hp} {d : Addr} {zs : List ActA} (h : ActsAt K H d zs) (x : Str) : DGet H d (.str x) (valV (zs.map ActA.kv) (.inr x)) := Or.inl ⟨_, .inr x, .inl h.at_, rfl, rfl⟩
theorem act_some (zs : List ActA) (x : Str) : (valV (zs.map ActA.kv) (.inr x)).isSome = decide (x ∈ zs.map (·.r.nm)) := by
  rw [val_act]
  cases e : zs.find? fun z => decide (z.r.nm = x) with
  | none =>
    rw [List.find?_eq_none] at e
    symm
    refine decide_eq_false fun hm => ?_
    obtain ⟨z, hz, rfl⟩ := List.mem_map.mp hm
    exact e z hz (by simp)
  | some z =>
    symm
    refine decide_eq_true (List.mem_map.mpr ⟨z, List.mem_of_find?_eq_some e, ?_⟩)
    simpa using List.find?_some e
def sp_fourth (K : PySem.W.Frag) : Sp := fun vs H Q _ => ∃ (b d : Addr) (zs : List ActA), vs = [.ref b, .ref d] ∧ Bag H b ∧ ActsAt K H d zs ∧ (∀ z ∈ zs, z.r.ok ∧ z.r.thin) ∧ zs.length ≤ 3 ∧
  ∀ d' zs' H', ActsAt K H' d' zs' → (∀ z ∈ zs', z.r.ok ∧ z.r.thin) → zs'.length ≤ 4 → Dr b H H' → Q (.ref d') H'
section
variable {P : Program} {w : World} {K : PySem.W.Frag} {mg : Str → Option Value} {base : Heap}
theorem ok__law_fourth (T : TX K mg) {k : Nat} : FnOk P w K mg base CX0 (k + 2) T.d__law_fourth.f T.d__law_fourth.fd P__law_fourth (sp_fourth K) := by
  have G__law_take : FnOk P w K mg base CX0 1 T.d__law_take.f T.d__law_take.fd P__law_take sp_take := ok__law_take T
  refine T.d__law_fourth.F.ok sc__law_fourth (fun vs H Q E h => ?_) (fun cdv A outer s H vs Q E hr h => ?_)
  · obtain ⟨_, _, _, rfl, _⟩ := h
    rfl
  · obtain ⟨b, d, zs, rfl, hB, hA, hok, hfew, q⟩ := h
    have hu1 := hu1_of hr
    refine ⟨_, (pss_cons (ps_if (PW.pt (pw_or (pt_cmpR op_gt (pe_callB (r := rLenG K) call_lenG (by rfl) T.b_len bt_len (pa_cons (pv 1) pa_nil)) pe_int (nomark _)) (pw_or1 (pt_cmpR op_gt (pe_call G__law_take (hr.mono (by omega)) rfl T.d__law_take.g T.d__law_take.F.kp T.d__law_take.b .nil pass0 (pa_cons (pv 0) (pa_cons pe_int pa_nil))) pe_int (nomark _))))) (pss_one (ps_ret (pv 1))) pss_nil) (pss_cons (ps_par (i := 2) (j := 3) rfl sc__law_fourth.nd rfl rfl (by decide) rfl rfl (pa_cons (pe_callTy (r := rDictG K) (call_dictG rfl) (by rfl) T.b_dict bt_dict (pa_cons (pv 1) pa_nil)) (pa_cons (pe_lc (own := [("_law_one", 4)]) (g := gName 4) (by rfl) sc__law_fourth.nd (pi_seq (pe_tup (pa_cons pe_str (pa_cons pe_str (pa_cons pe_str (pa_cons pe_str (pa_cons pe_str pa_nil))))))) (blkOk_by (own := [("_law_one", 4)]) (N := N__law_fourth) (sc := defScope s__law_fourth) (by decide +kernel)) (fun _ _ _ _ _ => pg_name (i := 4) sc__law_fourth.nd rfl (Or.inl rfl)) (fun _ _ _ _ _ => (pts_one (pt_cmp (pc_dnotin hu1 (pv 4) (pv 1))))) (fun _ _ _ _ _ => (pv 4))) pa_nil)) rfl) (pss_cons (ps_dput hu1 (pv 2) (pe_ix (r := rIx K) ix_seq (pv 3) pe_int (fun _ _ => rfl)) (pe_tup (pa_cons (pe_call G__law_take (hr.mono (by omega)) rfl T.d__law_take.g T.d__law_take.F.kp T.d__law_take.b .nil pass0 (pa_cons (pv 0) (pa_cons pe_int pa_nil))) (pa_cons (pe_disp (pps_cons pe_str pe_int (pps_cons pe_str pe_int pps_nil)) (by rfl) (by rfl) (fun z => by cases z) (by decide)) pa_nil))) rfl) (pss_one (ps_ret (pv 2)))))), ?_⟩
    refine ⟨.ref d, rfl, Or.inr (Or.inr ⟨d, _, rfl, hA.at_, ?_⟩)⟩
    refine ⟨_, _, rfl, rfl, _, rfl, ?_⟩
    have hnot : decide ((3 : Int) < ((zs.map ActA.kv).length : Nat)) = false := by
      rw [List.length_map]
      exact decide_eq_false (by omega)
    rw [hnot]
    refine ⟨.ref b, rfl, b, 3, rfl, hB, by decide, by decide, fun n H1 n0 n1 d1 => ?_⟩
    have hA1 := hA.dr d1 hB
    have hB1 := d1.bag hB
    refine ⟨_, _, rfl, rfl, _, rfl, ?_⟩
    refine ite2 (fun e => ⟨.ref d, rfl, q d zs H1 hA1 hok (by omega) d1⟩) (fun e => ?_)
    refine ⟨.ref d, rfl, Or.inr ⟨d, _, rfl, hA1.at_, fun d2 nd2 => ?_⟩⟩
    have e2 : upd H1 d2 (.dK (zs.map ActA.kv)) d2 = some (.dK (zs.map ActA.kv)) := upd_same
    have m2 : Mv [] H1 (upd H1 d2 (.dK (zs.map ActA.kv))) := .new nd2
    have fr2 : H d2 = none := d1.free hB nd2
    have hdd : d ≠ d2 := ne_of_none hA1.at_ nd2
    generalize upd H1 d2 (.dK (zs.map ActA.kv)) = H2 at e2 m2 ⊢
    refine ⟨(by decide : 5 ≤ sizeLine), fun tp ntp => ?_⟩
    generalize hnames : [Str.ofString "more", Str.ofString "other", Str.ofString "nil", Str.ofString "a", Str.ofString "b"] = names
    have names5 : names.length = 5 := by rw [← hnames]; rfl
    have namesN : names.Nodup := by rw [← hnames]; decide +kernel
    have namesO : ∀ x ∈ names, Nm x := by rw [← hnames]; decide +kernel
    have e3 : SqT K (upd H2 tp (.tup (names.map V.str))) tp (names.map V.str) := .inl (.inl upd_same)
    have m3 : Mv [] H2 (upd H2 tp (.tup (names.map V.str))) := .new ntp
    have m13 := m2.trans m3
    rw [show ([.str (Str.ofString "more"), .str (Str.ofString "other"), .str (Str.ofString "nil"), .str (Str.ofString "a"), .str (Str.ofString "b")] : List V) = names.map V.str by rw [← hnames]; rfl]
    generalize upd H2 tp (.tup (names.map V.str)) = H3 at e3 m3 m13 ⊢
    refine ⟨tp, rfl, ?_⟩
    refine lc_seq (.inr e3) (fun i D H4 => H4 D = some (.lst (((names.take i).filter fun x => decide (x ∉ zs.map (·.r.nm))).map V.str)) ∧ Mv [] H3 H4) (fun D nD => ⟨upd_same, .new nD⟩) (fun i D H4 nD h4 => h4.2) (fun D nD i x H4 hx h4 => ?_) (fun D H4 nD h4 => ?_)
    · obtain ⟨e4, m4⟩ := h4
      rw [List.getElem?_map] at hx
      obtain ⟨x, hxx, rfl⟩ := Option.map_eq_some_iff.mp hx
      have hA4 := hA1.mv (m13.trans m4)
      refine ⟨rfl, .str x, rfl, .ref d, rfl, d, _, rfl, hA4.has x, _, rfl, ?_⟩
      rw [act_some, ← decide_not]
      have hil := (List.getElem?_eq_some_iff.mp hxx).1
      refine ite2 (fun e => ?_) (fun e => ?_)
      · refine ⟨.str x, rfl, _, e4, ?_, ?_, m4.wr nD⟩
        · rw [List.length_map]
          have h1 := List.length_filter_le (fun x => decide (x ∉ zs.map (·.r.nm))) (names.take i)
          rw [List.length_take] at h1
          exact Nat.lt_of_le_of_lt (show _ ≤ 100 by omega) (by decide)
        · rw [upd_same, List.take_add_one, hxx, List.filter_append]
          simp only [Option.toList, List.filter_cons, List.filter_nil]
          rw [if_pos (by simpa using e), List.map_append]
          rfl
      · refine ⟨?_, m4⟩
        rw [e4, List.take_add_one, hxx, List.filter_append]
        simp only [Option.toList, List.filter_cons, List.filter_nil]
        rw [if_neg (by simpa using e), List.append_nil]
    obtain ⟨e4, m4⟩ := h4
    rw [List.length_map, List.take_length] at e4
    obtain ⟨x, r, hxr, hxm, hxn⟩ := first_new (ys := zs.map (·.r.nm)) namesN (by rw [List.length_map, names5]; omega)
    rw [hxr] at e4
    have m14 := m13.trans m4
    have hA4 := hA1.mv m14
    have hB4 := hB1.mv m14
    have e24 := (m3.trans m4).same _ _ e2
    refine ⟨_, _, rfl, ?_⟩
    refine ⟨.ref b, rfl, b, 3, rfl, hB4, by decide, by decide, fun v H5 v0 v1 d5 => ?_⟩
    have hB5 := d5.bag hB4
    have e25 : H5 d2 = some (.dK (zs.map ActA.kv)) := d5.getK hB4 e24 (fun _ z => by cases z)
    have hDb : D ≠ b := (hB1.mv m13).fneq nD
    have eD5 := d5.get hDb e4
    have hA5 := hA4.dr d5 hB4
    refine fun o6 no6 => ⟨upd_same, [(.inr (Str.ofString "ok"), .int 0), (.inr (Str.ofString "x"), .int 2)], rfl, by decide, ?_⟩
    rw [mergeK_nd _ _ (by decide +kernel), List.nil_append, upd_upd]
    generalize hrows : [(Str.ofString "ok", (0 : Int)), (Str.ofString "x", 2)] = rows
    have hrw : ([(.inr (Str.ofString "ok"), .int 0), (.inr (Str.ofString "x"), .int 2)] : List (L2.Key × V)) = rows.map rowK := by rw [← hrows]; rfl
    rw [hrw]
    have m6 : Mv [] H5 (upd H5 o6 (.dK (rows.map rowK))) := .new no6
    have e6 : upd H5 o6 (.dK (rows.map rowK)) o6 = some (.dK (rows.map rowK)) := upd_same
    generalize upd H5 o6 (.dK (rows.map rowK)) = H6 at m6 e6 ⊢
    refine ⟨(by decide : 2 ≤ sizeLine), fun a7 na7 => ?_⟩
    have m7 : Mv [] H6 (upd H6 a7 (.tup [.int v, .ref o6])) := .new na7
    have e7 : SqT K (upd H6 a7 (.tup [.int v, .ref o6])) a7 [.int v, .ref o6] := .inl (.inl upd_same)
    generalize upd H6 a7 (.tup [.int v, .ref o6]) = H7 at m7 e7 ⊢
    have m57 := m6.trans m7
    have e27 := m57.same _ _ e25
    refine ⟨.ref d2, rfl, .ref D, rfl, rd_ixL (.inl (.inl (m57.same _ _ eD5))) (by decide) (v := .str x) rfl ?_⟩
    refine ⟨d2, _, rfl, Or.inl ⟨_, .inr x, e27, rfl, ?_, rfl⟩, ?_⟩
    · rw [List.length_map]
      exact Nat.lt_of_le_of_lt (show zs.length ≤ 100 by omega) (by decide)
    have hput : putK (zs.map ActA.kv) (.inr x) (.ref a7) = (zs ++ [(⟨⟨x, v, rows⟩, a7, o6⟩ : ActA)]).map ActA.kv := by
      rw [putK_new (by rw [kv_keys]; intro h; obtain ⟨y, hy, e⟩ := List.mem_map.mp h; cases e; exact hxn hy), List.map_append]
      rfl
    rw [hput]
    have hw : Mv [d2] H7 (upd H7 d2 (.dK ((zs ++ [(⟨⟨x, v, rows⟩, a7, o6⟩ : ActA)]).map ActA.kv))) := .putD e27
    have hA7 := hA5.mv m57
    have ho2 : o6 ≠ d2 := by
      rintro rfl
      rw [e25] at no6
      cases no6
    refine ⟨.ref d2, rfl, q d2 _ _ ⟨upd_same, ?_, fun z hz => ?_, fun z hz => ?_, fun z hz => ?_⟩ (fun z hz => ?_) ?_ (((d1.trans (.of m14)).trans (d5.trans (.of m57))).wr fr2)⟩
    · rw [List.map_append]
      exact nd_snoc hA.nd hxn
    · rcases List.mem_append.mp hz with hz | hz
      · exact hw.sqT (hA7.tup z hz)
      · rw [List.mem_singleton] at hz
        subst hz
        exact hw.sqT e7
    · rcases List.mem_append.mp hz with hz | hz
      · refine hw.keep _ _ ?_ (hA7.out z hz)
        rintro e
        rw [List.mem_singleton] at e
        have h1 := hA1.out z hz
        rw [e, nd2] at h1
        cases h1
      · rw [List.mem_singleton] at hz
        subst hz
        exact hw.keep _ _ (by simpa using ho2) (m7.same _ _ e6)
    · rcases List.mem_append.mp hz with hz | hz
      · exact hA.ond z hz
      · rw [List.mem_singleton] at hz
        subst hz
        show (rows.map (·.1)).Nodup
        rw [← hrows]
        decide +kernel
    · rcases List.mem_append.mp hz with hz | hz
      · exact hok z hz
      · rw [List.mem_singleton] at hz
        subst hz
        have hN : ∀ e ∈ rows, Nm e.1 ∧ 0 ≤ e.2 ∧ e.2 ≤ 2 := by rw [← hrows]; decide +kernel
        have hl : rows.length = 2 := by rw [← hrows]; rfl
        exact ⟨⟨namesO x hxm, v0, by show v ≤ 2; omega, by show 1 ≤ rows.length; omega, by show rows.length ≤ 6; omega, fun e he => ⟨on_nm (hN e he).1, (hN e he).2⟩⟩, by show rows.length ≤ 3; omega, fun e he => (hN e he).1⟩
    · rw [List.length_append]
      show zs.length + 1 ≤ 4
      omega
end
end Fm
namespace Fm
open PySem PySem.Spec PyProof.Rows L2 SlX
local macro_rules | `(tactic| walk_at "nn") => `(tactic| dsimp only [tC, tNil, tCons, tCB, tCall, gName, tSeq, tAsg, tPar, tDrop, tRet])
local macro_rules | `(tactic| walk_at "nc") => `(tactic| dsimp only [tC, tNil, tCons, tCB, tCall])
/-- an act put otherwise -/
def reA (zs : List ActA) (x : Str) (a : Addr) (i : Int) : List ActA := zs.map fun z => if z.r.nm = x then ⟨⟨z.r.nm, i, z.r.outs⟩, a, z.o⟩ else z
theorem reA_put {zs : List ActA} {x : Str} {a : Addr} {i : Int} (h : x ∈ zs.map (·.r.nm)) : putK (zs.map ActA.kv) (.inr x) (.ref a) = (reA zs x a i).map ActA.kv := by
  unfold putK
  have : ((zs.map ActA.kv).any fun kv => decide (kv.1 = Sum.inr x)) = true := by
    obtain ⟨z, hz, rfl⟩ := List.mem_map.mp h
    exact List.any_eq_true.mpr ⟨z.kv, List.mem_map.mpr ⟨z, hz, rfl⟩, by simp [ActA.kv]⟩
  rw [if_pos this, List.map_map]
  unfold reA
  rw [List.map_map]
  refine List.map_congr_left fun z _ => ?_
  simp only [Function.comp]
  by_cases e : z.r.nm = x
  · rw [if_pos (show z.kv.1 = Sum.inr x by rw [← e]; rfl), if_pos e]
    show (Sum.inr z.r.nm, V.ref a) = (Sum.inr z.r.nm, V.ref a)
    rfl
  · rw [if_neg (show ¬z.kv.1 = Sum.inr x from fun h => e (Sum.inr.inj h)), if_neg e]
theorem reA_nm (zs : List ActA) (x : Str) (a : Addr) (i : Int) : (reA zs x a i).map (·.r.nm) = zs.map (·.r.nm) := by
  unfold reA
  rw [List.map_map]
  refine List.map_congr_left fun z _ => ?_
  simp only [Function.comp]
  split <;> rfl
theorem reA_o (zs : List ActA) (x : Str) (a : Addr) (i : Int) : (reA zs x a i).map (·.o) = zs.map (·.o) := by
  unfold reA
  rw [List.map_map]
  refine List.map_congr_left fun z _ => ?_
  simp only [Function.comp]
  split <;> rfl
theorem act_drop (zs : List ActA) (x : Str) : dropK (zs.map ActA.kv) (.inr x) = (zs.filter fun z => decide (z.r.nm ≠ x)).map ActA.kv := by
  unfold dropK
  rw [List.filter_map]
  congr 1
  refine List.filter_congr fun z _ => ?_
  simp only [Function.comp]
  by_cases e : z.r.nm = x
  · rw [decide_eq_false (by simp [ActA.kv, e]), decide_eq_false (by simp [e])]
  · rw [decide_eq_true (show z.kv.1 ≠ Sum.inr x from fun h => e (Sum.inr.inj h)), decide_eq_true (show z.r.nm ≠ x from e)]
theorem row_drop (rows : List (Str × Int)) (x : Str) : dropK (rows.map rowK) (.inr x) = (rows.filter fun e => decide (e.1 ≠ x)).map rowK := by
  unfold dropK
  rw [List.filter_map]
  congr 1
  refine List.filter_congr fun z _ => ?_
  simp only [Function.comp]
  by_cases e : z.1 = x
  · rw [decide_eq_false (by simp [rowK, e]), decide_eq_false (by simp [e])]
  · rw [decide_eq_true (show (rowK z).1 ≠ Sum.inr x from fun h => e (Sum.inr.inj h)), decide_eq_true (show z.1 ≠ x from e)]
theorem nd_filter {α β : Type} {f : α → β} {xs : List α} (p : α → Bool) (n : (xs.map f).Nodup) : ((xs.filter p).map f).Nodup := n.sublist (List.filter_sublist.map f)
theorem row_re {rows : List (Str × Int)} {x : Str} {i : Int} (h : x ∈ rows.map (·.1)) : putK (rows.map rowK) (.inr x) (.int i) = (rows.map fun e => if e.1 = x then (e.1, i) else e).map rowK := by
  unfold putK
  have : ((rows.map rowK).any fun kv => decide (kv.1 = Sum.inr x)) = true := by
    obtain ⟨e, he, rfl⟩ := List.mem_map.mp h
    exact List.any_eq_true.mpr ⟨rowK e, List.mem_map.mpr ⟨e, he, rfl⟩, by simp [rowK]⟩
  rw [if_pos this, List.map_map, List.map_map]
  refine List.map_congr_left fun e _ => ?_
  simp only [Function.comp]
  by_cases h : e.1 = x
  · subst h
    rw [if_pos (show (rowK e).1 = Sum.inr e.1 from rfl), if_pos rfl]
  · rw [if_neg (show ¬(rowK e).1 = Sum.inr x from fun z => h (Sum.inr.inj z)), if_neg h]
theorem row_re_keys (rows : List (Str × Int)) (x : Str) (i : Int) : (rows.map fun e => if e.1 = x then (e.1, i) else e).map (·.1) = rows.map (·.1) := by
  rw [List.map_map]
  refine List.map_congr_left fun e _ => ?_
  simp only [Function.comp]
  split <;> rfl
theorem two_left {rows : List (Str × Int)} (n : (rows.map (·.1)).Nodup) (h : 1 < rows.length) (x : Str) : 1 ≤ (rows.filter fun e => decide (e.1 ≠ x)).length := by
  match rows, n, h with
  | e :: f :: r, n, _ =>
    rw [List.map_cons, List.map_cons, List.nodup_cons] at n
    have hne : e.1 ≠ f.1 := fun z => n.1 (by rw [z]; exact List.mem_cons_self)
    refine List.length_pos_of_mem (a := if e.1 = x then f else e) (List.mem_filter.mpr ⟨?_, ?_⟩)
    · split <;> simp
    · split
      · rename_i h
        exact decide_eq_true fun z => hne (h.trans z.symm)
      · rename_i h
        exact decide_eq_true h
theorem ActsO.setA {K : PySem.W.Frag} {H : Hp} {d a : Addr} {zs : List ActA} {x : Str} {i : Int} {y : ActA} (h : ActsO K H d zs) (hy : y ∈ zs) (hx : y.r.nm = x) (ha : SqT K H a [.int i, .ref y.o]) : ActsO K (upd H d (.dK ((reA zs x a i).map ActA.kv))) d (reA zs x a i) := by
  have m : Mv [d] H (upd H d (.dK ((reA zs x a i).map ActA.kv))) := .putD h.at_.at_
  have inv : ∀ u ∈ reA zs x a i, ∃ z ∈ zs, u.o = z.o ∧ u.r.outs = z.r.outs ∧ ((z = y ∧ u.a = a ∧ u.r.ar = i) ∨ u = z) := fun u hu => by
    obtain ⟨z, hz, rfl⟩ := List.mem_map.mp hu
    refine ⟨z, hz, ?_⟩
    by_cases e : z.r.nm = x
    · rw [if_pos e]
      have : z = y := nd_key h.at_.nd hz hy (e.trans hx.symm)
      exact ⟨rfl, rfl, .inl ⟨this, rfl, rfl⟩⟩
    · rw [if_neg e]
      exact ⟨rfl, rfl, .inr rfl⟩
  refine ⟨⟨upd_same, by rw [reA_nm]; exact h.at_.nd, fun u hu => ?_, fun u hu => ?_, fun u hu => ?_⟩, by rw [reA_o]; exact h.od⟩
  · obtain ⟨z, hz, e1, e2, e3⟩ := inv u hu
    rcases e3 with ⟨rfl, e4, e5⟩ | rfl
    · rw [e1, e4, e5]
      exact m.sqT ha
    · exact m.sqT (h.at_.tup _ hz)
  · obtain ⟨z, hz, e1, e2, e3⟩ := inv u hu
    rw [e1, e2]
    exact m.keep _ _ (by simpa using h.at_.o_ne hz) (h.at_.out z hz)
  · obtain ⟨z, hz, e1, e2, e3⟩ := inv u hu
    rw [e2]
    exact h.at_.ond z hz
theorem ActsO.drop {K : PySem.W.Frag} {H : Hp} {d : Addr} {zs : List ActA} (h : ActsO K H d zs) (p : ActA → Bool) : ActsO K (upd H d (.dK ((zs.filter p).map ActA.kv))) d (zs.filter p) := by
  have m : Mv [d] H (upd H d (.dK ((zs.filter p).map ActA.kv))) := .putD h.at_.at_
  have sub : ∀ u ∈ zs.filter p, u ∈ zs := fun u hu => (List.mem_filter.mp hu).1
  exact ⟨⟨upd_same, nd_filter p h.at_.nd, fun u hu => m.sqT (h.at_.tup u (sub u hu)), fun u hu => m.keep _ _ (by simpa using h.at_.o_ne (sub u hu)) (h.at_.out u (sub u hu)), fun u hu => h.at_.ond u (sub u hu)⟩, nd_filter p h.od⟩
theorem ActsO.add {K : PySem.W.Frag} {H : Hp} {d : Addr} {zs : List ActA} {u : ActA} (h : ActsO K H d zs) (hn : u.r.nm ∉ zs.map (·.r.nm)) (ho : u.o ∉ zs.map (·.o)) (hd : u.o ≠ d) (h1 : SqT K H u.a [.int u.r.ar, .ref u.o]) (h2 : H u.o = some (.dK (u.r.outs.map rowK))) (h3 : (u.r.outs.map (·.1)).Nodup) : ActsO K (upd H d (.dK ((zs ++ [u]).map ActA.kv))) d (zs ++ [u]) := by
  have m : Mv [d] H (upd H d (.dK ((zs ++ [u]).map ActA.kv))) := .putD h.at_.at_
  refine ⟨⟨upd_same, by rw [List.map_append]; exact nd_snoc h.at_.nd hn, fun z hz => ?_, fun z hz => ?_, fun z hz => ?_⟩, by rw [List.map_append]; exact nd_snoc h.od ho⟩
  all_goals rcases List.mem_append.mp hz with hz | hz
  · exact m.sqT (h.at_.tup z hz)
  · rw [List.mem_singleton] at hz
    subst hz
    exact m.sqT h1
  · exact m.keep _ _ (by simpa using h.at_.o_ne hz) (h.at_.out z hz)
  · rw [List.mem_singleton] at hz
    subst hz
    exact m.keep _ _ (by simpa using hd) h2
  · exact h.at_.ond z hz
  · rw [List.mem_singleton] at hz
    subst hz
    exact h3
def NMid (K : PySem.W.Frag) (H : Hp) (b d d' : Addr) (zs : List ActA) (n : Int) (nm ow : Str) (k : Int) : L2.St → Hp → Prop := fun σ H' => ∃ zs' : List ActA, σ = [some (.ref b), some (.ref d), some (.ref d'), some (.int n), some (.str nm), some (.str ow), none] ∧
  ActsO K H' d' zs' ∧ (∀ z ∈ zs', z.r.ok) ∧ (∀ z ∈ zs', H z.o = none) ∧ zs'.length ≤ 4 ∧ Dr b H H' ∧ (k < n → (∃ y ∈ zs', y.r.nm = nm ∧ ow ∈ y.r.outs.map (·.1)) ∧ zs'.map (·.r.nm) = zs.map (·.r.nm))
theorem NMid.mono {K : PySem.W.Frag} {H H' : Hp} {b d d' : Addr} {zs : List ActA} {n k j : Int} {nm ow : Str} {σ : L2.St} (h : NMid K H b d d' zs n nm ow k σ H') (hk : k ≤ j) : NMid K H b d d' zs n nm ow j σ H' := by
  obtain ⟨zs', h1, h2, h3, h4, h5, h6, h7⟩ := h
  exact ⟨zs', h1, h2, h3, h4, h5, h6, fun h => h7 (by omega)⟩
def sp_near (K : PySem.W.Frag) : Sp := fun vs H Q _ => ∃ (b d : Addr) (zs : List ActA), vs = [.ref b, .ref d] ∧ Bag H b ∧ ActsAt K H d zs ∧ (∀ z ∈ zs, z.r.ok) ∧ zs.length ≤ 4 ∧
  ∀ d' zs' H', ActsAt K H' d' zs' → (∀ z ∈ zs', z.r.ok) → zs'.length ≤ 4 → Dr b H H' → Q (.ref d') H'
section
variable {P : Program} {w : World} {K : PySem.W.Frag} {mg : Str → Option Value} {base : Heap}
theorem ok__law_near (T : TX K mg) {k : Nat} : FnOk P w K mg base CX0 (k + 2) T.d__law_near.f T.d__law_near.fd P__law_near (sp_near K) := by
  have G__law_take : FnOk P w K mg base CX0 1 T.d__law_take.f T.d__law_take.fd P__law_take sp_take := ok__law_take T
  refine T.d__law_near.F.ok sc__law_near (fun vs H Q E h => ?_) (fun cdv A outer s H vs Q E hr h => ?_)
  · obtain ⟨_, _, _, rfl, _⟩ := h
    rfl
  · obtain ⟨b, d, zs, rfl, hB, hA, hok, hfew, q⟩ := h
    have hu1 := hu1_of hr
    have hu64 := hr.units
    refine ⟨_, (pss_cons (ps_par (i := 2) (j := 3) rfl sc__law_near.nd rfl rfl (by decide) rfl rfl (pa_cons (pe_callTy (r := rDictG K) (call_dictG rfl) (by rfl) T.b_dict bt_dict (pa_cons (pe_lock (pe_lc (own := [("_law_act", 4)]) (g := gName 4) (by rfl) sc__law_near.nd (pi_keys (pv 1)) (blkOk_by (own := [("_law_act", 4)]) (N := N__law_near) (sc := defScope s__law_near) (by decide +kernel)) (fun _ _ _ _ _ => pg_name (i := 4) sc__law_near.nd rfl (Or.inl rfl)) (fun _ _ _ _ _ => pts_nil) (fun _ _ _ _ _ => (pe_tup (pa_cons (pv 4) (pa_cons (pe_tup (pa_cons (pe_ix (r := rIx K) ix_seq (pe_dget hu1 (pv 1) (pv 4) (fun _ _ => rfl)) pe_int (fun _ _ => rfl)) (pa_cons (pe_callTy (r := rDictG K) (call_dictG rfl) (by rfl) T.b_dict bt_dict (pa_cons (pe_ix (r := rIx K) ix_seq (pe_dget hu1 (pv 1) (pv 4) (fun _ _ => rfl)) pe_int (fun _ _ => rfl)) pa_nil)) pa_nil))) pa_nil)))))) pa_nil)) (pa_cons (pe_call G__law_take (hr.mono (by omega)) rfl T.d__law_take.g T.d__law_take.F.kp T.d__law_take.b .nil pass0 (pa_cons (pv 0) (pa_cons pe_int pa_nil))) pa_nil)) rfl) (pss_cons (ps_if (PW.pt (pw_or (pt_cmpR (r := rEqE) (op_eqE (Nat.lt_of_le_of_lt (Nat.le_add_right _ 64) hu64)) (pv 1) pe_dnewK (nomark _)) (pw_or1 (pt_cmpR (r := rEqG K) (op_eqG hu64) (pv 3) pe_int (nomark _))))) (pss_one (ps_ret (pv 2))) pss_nil) (pss_cons (ps_set (i := 4) sc__law_near.nd rfl (Or.inl rfl) (pe_ix (r := rIx K) ix_seq (pe_callB (r := rSortA K) (cr_sortA rfl) (by rfl) T.b_sorted bt_sorted (pa_cons (pv 1) pa_nil)) (pe_call G__law_take (hr.mono (by omega)) rfl T.d__law_take.g T.d__law_take.F.kp T.d__law_take.b .nil pass0 (pa_cons (pv 0) (pa_cons (pe_callB (r := rLenG K) call_lenG (by rfl) T.b_len bt_len (pa_cons (pv 1) pa_nil)) pa_nil))) (fun _ _ => rfl))) (pss_cons (ps_set (i := 5) sc__law_near.nd rfl (Or.inl rfl) (pe_ix (r := rIx K) ix_seq (pe_callB (r := rSortA K) (cr_sortA rfl) (by rfl) T.b_sorted bt_sorted (pa_cons (pe_ix (r := rIx K) ix_seq (pe_dget hu1 (pv 1) (pv 4) (fun _ _ => rfl)) pe_int (fun _ _ => rfl)) pa_nil)) (pe_call G__law_take (hr.mono (by omega)) rfl T.d__law_take.g T.d__law_take.F.kp T.d__law_take.b .nil pass0 (pa_cons (pv 0) (pa_cons (pe_callB (r := rLenG K) call_lenG (by rfl) T.b_len bt_len (pa_cons (pe_ix (r := rIx K) ix_seq (pe_dget hu1 (pv 1) (pv 4) (fun _ _ => rfl)) pe_int (fun _ _ => rfl)) pa_nil)) pa_nil))) (fun _ _ => rfl))) (Evl.pss_cut (ps_if (pt_cmpR (r := rEqG K) (op_eqG hu64) (pv 3) pe_int (nomark _)) (pss_one (ps_dput hu1 (pv 2) (pv 4) (pe_tup (pa_cons (pe_op op_mod (pe_callTy call_int1 (by rfl) T.b_int bt_int (pa_cons (pe_op (r := rAddG K) op_addG (pe_ix (r := rIx K) ix_seq (pe_dget hu1 (pv 1) (pv 4) (fun _ _ => rfl)) pe_int (fun _ _ => rfl)) pe_int) pa_nil)) pe_int) (pa_cons (pe_ix (r := rIx K) ix_seq (pe_dget hu1 (pv 2) (pv 4) (fun _ _ => rfl)) pe_int (fun _ _ => rfl)) pa_nil))) rfl)) pss_nil) (Evl.pss_cut (ps_if (pt_cmpR (r := rEqG K) (op_eqG hu64) (pv 3) pe_int (nomark _)) (pss_one (ps_dput hu1 (pe_ix (r := rIx K) ix_seq (pe_dget hu1 (pv 2) (pv 4) (fun _ _ => rfl)) pe_int (fun _ _ => rfl)) (pv 5) (pe_op op_mod (pe_callTy call_int1 (by rfl) T.b_int bt_int (pa_cons (pe_op (r := rAddG K) op_addG (pe_dget hu1 (pe_ix (r := rIx K) ix_seq (pe_dget hu1 (pv 2) (pv 4) (fun _ _ => rfl)) pe_int (fun _ _ => rfl)) (pv 5) (fun _ _ => rfl)) pe_int) pa_nil)) pe_int) rfl)) pss_nil) (Evl.pss_cut (ps_if (pt_cmpR (r := rEqG K) (op_eqG hu64) (pv 3) pe_int (nomark _)) (pss_one (ps_expr (pe_dpop1 (pv 2) (pv 4) ⟨rfl, rfl, rfl, rfl⟩))) pss_nil) (Evl.pss_cut (ps_if (PW.pt (pw_and (pt_cmpR (r := rEqG K) (op_eqG hu64) (pv 3) pe_int (nomark _)) (pw_and1 (pt_cmpR op_gt (pe_callB (r := rLenG K) call_lenG (by rfl) T.b_len bt_len (pa_cons (pe_ix (r := rIx K) ix_seq (pe_dget hu1 (pv 2) (pv 4) (fun _ _ => rfl)) pe_int (fun _ _ => rfl)) pa_nil)) pe_int (nomark _))))) (pss_one (ps_expr (pe_dpop1 (pe_ix (r := rIx K) ix_seq (pe_dget hu1 (pv 2) (pv 4) (fun _ _ => rfl)) pe_int (fun _ _ => rfl)) (pv 5) ⟨rfl, rfl, rfl, rfl⟩))) pss_nil) (Evl.pss_cut (ps_if (pt_cmpR (r := rEqG K) (op_eqG hu64) (pv 3) pe_int (nomark _)) (pss_one (ps_dput hu1 (pv 2) (pe_ix (r := rIx K) ix_seq (pe_lc (own := [("_law_one", 6)]) (g := gName 6) (by rfl) sc__law_near.nd (pi_seq (pe_tup (pa_cons pe_str (pa_cons pe_str (pa_cons pe_str (pa_cons pe_str (pa_cons pe_str pa_nil))))))) (blkOk_by (own := [("_law_one", 6)]) (N := N__law_near) (sc := defScope s__law_near) (by decide +kernel)) (fun _ _ _ _ _ => pg_name (i := 6) sc__law_near.nd rfl (Or.inl rfl)) (fun _ _ _ _ _ => (pts_one (pt_cmp (pc_dnotin hu1 (pv 6) (pv 1))))) (fun _ _ _ _ _ => (pv 6))) pe_int (fun _ _ => rfl)) (pe_dpop1 (pv 2) (pv 4) ⟨rfl, rfl, rfl, rfl⟩) rfl)) pss_nil) (pss_one (ps_ret (pv 2)))))))))))), ?_⟩
    have hd := hA.at_
    refine ⟨d, _, hd, trivial, fun od => ?_⟩
    have e0 : upd H d (.frz od (.dK (zs.map ActA.kv))) d = some (.frz od (.dK (zs.map ActA.kv))) := upd_same
    have lk0 : Mv [d] H (upd H d (.frz od (.dK (zs.map ActA.kv)))) := Mv.lock hd (fun _ z => by cases z) (fun _ _ z => by cases z)
    have un : ∀ H', Mv [] (upd H d (.frz od (.dK (zs.map ActA.kv)))) H' → Mv [] H (upd H' d (.dK (zs.map ActA.kv))) := fun H' m => Mv.unlock hd (fun _ z => by cases z) (fun _ _ z => by cases z) m
    have fr0 : ∀ p, upd H d (.frz od (.dK (zs.map ActA.kv))) p = none → H p = none := fun p np => by
      by_cases e : p = d
      · rw [e, upd_same] at np
        cases np
      · rwa [upd_ne e] at np
    generalize upd H d (.frz od (.dK (zs.map ActA.kv))) = HL at e0 un lk0 fr0 ⊢
    have tupL : ∀ z ∈ zs, SqT K HL z.a [.int z.r.ar, .ref z.o] := fun z hz => lk0.sqT (hA.tup z hz)
    have outL : ∀ z ∈ zs, HL z.o = some (.dK (z.r.outs.map rowK)) := fun z hz => lk0.keep _ _ (by simpa using hA.o_ne hz) (hA.out z hz)
    refine ⟨.ref d, rfl, d, od, rfl, Or.inl ⟨_, e0, fun D nD => ?_⟩⟩
    have hDd : D ≠ d := by
      rintro rfl
      rw [e0] at nD
      cases nD
    refine lc_it walk_keys (fun i H2 => ∃ tw : List (Addr × ActA), H2 D = some (.lst ((tw.map (·.1)).map V.ref)) ∧ RowsAt K H2 tw ∧ tw.map (·.2.r) = (zs.take i).map (·.r) ∧ (tw.map (·.2.o)).Nodup ∧ (∀ z ∈ tw, HL z.2.o = none ∧ z.2.o ≠ D) ∧ Mv [] HL H2)
      ⟨[], upd_same, ⟨by simp, by simp, by simp, by simp⟩, by simp, by simp, by simp, .new nD⟩ (fun i H2 _ h2 => h2.choose_spec.2.2.2.2.2.same _ _ e0) (fun i y H2 H3 hi h2 yy => ?_) (fun H2 h2 => ?_)
    · obtain ⟨tw, e2, hR2, n2, u2, f2, m2⟩ := h2
      obtain ⟨rfl, k, v, hk, rfl⟩ := yy
      rw [List.getElem?_map] at hk
      obtain ⟨z, hz, hk⟩ := Option.map_eq_some_iff.mp hk
      obtain ⟨rfl, rfl⟩ := Prod.mk.inj hk
      have hzm := List.mem_of_getElem? hz
      have hil := (List.getElem?_eq_some_iff.mp hz).1
      have dg : DGet H3 d (.str z.r.nm) (some (.ref z.a)) := Or.inl ⟨_, .inr z.r.nm, .inr ⟨od, m2.same _ _ e0⟩, rfl, (hA.val hzm).symm⟩
      have tz := m2.sqT (tupL z hzm)
      have oz := m2.same _ _ (outL z hzm)
      refine ⟨rfl, .str z.r.nm, rfl, .ref d, rfl, .str z.r.nm, rfl, d, .ref z.a, rfl, dg, rd_ixT tz (by decide) (v := .int z.r.ar) rfl ?_⟩
      refine ⟨.ref d, rfl, .str z.r.nm, rfl, d, .ref z.a, rfl, dg, rd_ixT tz (by decide) (v := .ref z.o) rfl (Or.inr ⟨z.o, _, rfl, oz, fun o4 no4 => ?_⟩)⟩
      have m4 : Mv [] H3 (upd H3 o4 (.dK (z.r.outs.map rowK))) := .new no4
      have e4 : upd H3 o4 (.dK (z.r.outs.map rowK)) o4 = some (.dK (z.r.outs.map rowK)) := upd_same
      have hoD : o4 ≠ D := (ne_of_none e2 no4).symm
      have hot : ∀ y ∈ tw, y.2.o ≠ o4 := fun y hy => ne_of_none (hR2.out y hy) no4
      have nL4 := m2.free no4
      generalize upd H3 o4 (.dK (z.r.outs.map rowK)) = H4 at m4 e4 ⊢
      refine ⟨(by decide : 2 ≤ sizeLine), fun a5 na5 => ?_⟩
      have m5 : Mv [] H4 (upd H4 a5 (.tup [.int z.r.ar, .ref o4])) := .new na5
      have e5 : SqT K (upd H4 a5 (.tup [.int z.r.ar, .ref o4])) a5 [.int z.r.ar, .ref o4] := .inl (.inl upd_same)
      generalize upd H4 a5 (.tup [.int z.r.ar, .ref o4]) = H5 at m5 e5 ⊢
      refine ⟨(by decide : 2 ≤ sizeLine), fun p6 np6 => ?_⟩
      have m6 : Mv [] H5 (upd H5 p6 (.tup [.str z.r.nm, .ref a5])) := .new np6
      have e6 : SqT K (upd H5 p6 (.tup [.str z.r.nm, .ref a5])) p6 [.str z.r.nm, .ref a5] := .inl (.inl upd_same)
      generalize upd H5 p6 (.tup [.str z.r.nm, .ref a5]) = H6 at m6 e6 ⊢
      have m36 := m4.trans (m5.trans m6)
      have e36 := m36.same _ _ e2
      have hw : Mv [D] H6 (upd H6 D (.lst ((tw.map (·.1)).map V.ref ++ [.ref p6]))) := .set e36 (by simp)
      have hR6 := (hR2.mv m36).lst (H' := H) (o := .lst ((tw.map (·.1)).map V.ref ++ [.ref p6])) e36
      have hnl := congrArg List.length n2
      rw [List.length_map, List.length_map, List.length_take] at hnl
      refine ⟨_, e36, ?_, tw ++ [(p6, ⟨z.r, a5, o4⟩)], ?_, ?_, ?_, ?_, ?_, (m2.trans m36).wr nD⟩
      · rw [List.length_map, List.length_map]
        exact Nat.lt_of_le_of_lt (show tw.length ≤ 1000 by omega) (by decide)
      · rw [upd_same]
        simp
      · refine ⟨fun y hy => ?_, fun y hy => ?_, fun y hy => ?_, fun y hy => ?_⟩
        all_goals rcases List.mem_append.mp hy with hy | hy
        · exact hR6.row y hy
        · rw [List.mem_singleton] at hy
          subst hy
          exact hw.sqT e6
        · exact hR6.tup y hy
        · rw [List.mem_singleton] at hy
          subst hy
          exact hw.sqT (m6.sqT e5)
        · exact hR6.out y hy
        · rw [List.mem_singleton] at hy
          subst hy
          exact hw.keep _ _ (by simpa using hoD) ((m5.trans m6).same _ _ e4)
        · exact hR6.ond y hy
        · rw [List.mem_singleton] at hy
          subst hy
          exact hA.ond z hzm
      · rw [List.map_append, n2, List.take_add_one, hz, List.map_append]
        rfl
      · rw [List.map_append]
        exact nd_snoc u2 fun hm => by
          obtain ⟨y, hy, e⟩ := List.mem_map.mp hm
          exact hot y hy e
      · intro y hy
        rcases List.mem_append.mp hy with hy | hy
        · exact f2 y hy
        · rw [List.mem_singleton] at hy
          subst hy
          exact ⟨nL4, hoD⟩
    obtain ⟨tw, e2, hR2, n2, u2, f2, m2⟩ := h2
    rw [List.length_map, List.take_length] at n2
    refine ⟨m2.same _ _ e0, ?_⟩
    have m3 := un H2 m2
    have oD : ∀ z ∈ tw, z.2.o ≠ d := fun z hz e => by
      have := (f2 z hz).1
      rw [e, e0] at this
      cases this
    have hR3 : RowsAt K (upd H2 d (.dK (zs.map ActA.kv))) tw := hR2.put (m2.same _ _ e0) (fun _ z => by cases z) (fun _ _ z => by cases z) oD
    have e3 : upd H2 d (.dK (zs.map ActA.kv)) D = some (.lst ((tw.map (·.1)).map V.ref)) := by
      rw [upd_ne hDd]
      exact e2
    generalize upd H2 d (.dK (zs.map ActA.kv)) = H3 at m3 hR3 e3 ⊢
    have ntw : ((tw.map (·.2)).map (·.r)) = zs.map (·.r) := by rw [List.map_map]; exact n2
    have nmt : ((tw.map (·.2)).map (·.r.nm)).Nodup := by
      have : (tw.map (·.2)).map (·.r.nm) = zs.map (·.r.nm) := by
        have h1 := congrArg (List.map ActR.nm) ntw
        rw [List.map_map (f := fun z : ActA => z.r), List.map_map (f := fun z : ActA => z.r)] at h1
        exact h1
      rw [this]
      exact hA.nd
    refine Or.inl ⟨D, tw.map (·.1), (tw.map (·.2)).map ActA.kv, rfl, .inl (.inl e3), paired_acts tw hR3.row, fun d' nd' => ?_⟩
    rw [mergeK_nd _ _ (by rw [List.nil_append, kv_keys]; exact nd_inr nmt), List.nil_append]
    have nd0 : H d' = none := m3.free nd'
    have m4 : Mv [] H (upd H3 d' (.dK ((tw.map (·.2)).map ActA.kv))) := m3.trans (.new nd')
    have hO : ActsO K (upd H3 d' (.dK ((tw.map (·.2)).map ActA.kv))) d' (tw.map (·.2)) := by
      have mm : Mv [] H3 (upd H3 d' (.dK ((tw.map (·.2)).map ActA.kv))) := .new nd'
      refine ⟨⟨upd_same, nmt, fun z hz => ?_, fun z hz => ?_, fun z hz => ?_⟩, by rw [List.map_map]; exact u2⟩
      all_goals obtain ⟨y, hy, rfl⟩ := List.mem_map.mp hz
      · exact mm.sqT (hR3.tup y hy)
      · exact mm.same _ _ (hR3.out y hy)
      · exact hR3.ond y hy
    have fo : ∀ z ∈ tw.map (·.2), H z.o = none := fun z hz => by
      obtain ⟨y, hy, rfl⟩ := List.mem_map.mp hz
      exact fr0 _ (f2 y hy).1
    generalize tw.map (·.2) = zs1 at ntw nmt hO fo m4 ⊢
    generalize upd H3 d' (.dK (zs1.map ActA.kv)) = H4 at m4 hO ⊢
    have hz1l : zs1.length = zs.length := by
      have := congrArg List.length ntw
      rwa [List.length_map, List.length_map] at this
    have hok1 : ∀ z ∈ zs1, z.r.ok := fun z hz => by
      have : z.r ∈ zs.map (·.r) := by rw [← ntw]; exact List.mem_map.mpr ⟨z, hz, rfl⟩
      obtain ⟨y, hy, e⟩ := List.mem_map.mp this
      rw [← e]
      exact hok y hy
    have d4 : Dr b H H4 := .of m4
    have hB4 := d4.bag hB
    refine ⟨.ref b, rfl, b, 6, rfl, hB4, by decide, by decide, fun n H5 n0 n1 d5 => ?_⟩
    have hB5 := d5.bag hB4
    have hO5 := hO.dr d5 hB4
    have d05 := d4.trans d5
    have hA5 := hA.dr d05 hB
    refine ⟨_, _, rfl, ?_⟩
    refine ⟨.ref d, rfl, fun p6 np6 => ⟨d, p6, zs.map ActA.kv, rfl, rfl, ?_, upd_same, ?_⟩⟩
    · rw [upd_ne (ne_of_none hA5.at_ np6)]
      exact hA5.at_
    have m6 : Mv [] H5 (upd H5 p6 (.dK [])) := .new np6
    generalize upd H5 p6 (.dK []) = H6 at m6 ⊢
    have d6 : Dr b H H6 := d05.trans (.of m6)
    have hO6 := hO5.mv m6
    have hA6 := hA5.mv m6
    have hB6 := d6.bag hB
    clear m6 d05 d5 hB5 hO5 hA5 hB4 d4 hO m4
    refine ⟨_, rfl, ?_⟩
    have ret : ∀ (zs' : List ActA) H', ActsO K H' d' zs' → (∀ z ∈ zs', z.r.ok) → zs'.length ≤ 4 → Dr b H H' → Q (.ref d') H' := fun zs' H' h1 h2 h3 h4 => q d' zs' H' h1.at_ h2 h3 h4
    rcases hbe : (zs.map ActA.kv).isEmpty with _ | _
    case true => exact ⟨.ref d', rfl, ret zs1 H6 hO6 hok1 (by omega) d6⟩
    refine ⟨.int n, rfl, Or.inl ⟨rfl, _, rfl, ?_⟩⟩
    rw [vint_eq]
    refine ite2 (fun e0 => ⟨.ref d', rfl, ret zs1 H6 hO6 hok1 (by omega) d6⟩) (fun e0 => ?_)
    have hpos : 0 < zs.length := by
      rcases Nat.eq_zero_or_pos zs.length with h | h
      · rw [List.length_eq_zero_iff.mp h] at hbe
        cases hbe
      · exact h
    have hlz : (zs.map (·.r.nm)).length < 64 := by rw [List.length_map]; omega
    refine ⟨.ref d, rfl, Or.inl ⟨d, _, zs.map (·.r.nm), rfl, .inl hA6.at_, kv_keys zs, hlz, fun ys p hp hs np => ?_⟩⟩
    have d7 : Dr b H (upd H6 p (.lst (ys.map V.str))) := d6.trans (.new np)
    have m7 : Mv [] H6 (upd H6 p (.lst (ys.map V.str))) := .new np
    have e7 : upd H6 p (.lst (ys.map V.str)) p = some (.lst (ys.map V.str)) := upd_same
    have hpb : p ≠ b := hB6.fneq np
    generalize upd H6 p (.lst (ys.map V.str)) = H7 at d7 m7 e7 ⊢
    have hB7 := hB6.mv m7
    have hA7 := hA6.mv m7
    have hO7 := hO6.mv m7
    have hyl : ys.length = zs.length := by have := hp.length_eq; rwa [List.length_map] at this
    refine ⟨.ref b, rfl, .ref d, rfl, Or.inr (Or.inr ⟨d, _, rfl, hA7.at_, ?_⟩)⟩
    refine ⟨b, _, rfl, hB7, by rw [List.length_map]; omega, by rw [List.length_map]; omega, fun i H8 i0 i1 d8 => ?_⟩
    rw [List.length_map] at i1
    have hB8 := d8.bag hB7
    have hA8 := hA7.dr d8 hB7
    have hO8 := hO7.dr d8 hB7
    have hil : i.toNat < ys.length := by omega
    obtain ⟨nm, hnm⟩ : ∃ nm, ys[i.toNat]? = some nm := ⟨_, List.getElem?_eq_getElem hil⟩
    refine rd_ixL (.inl (.inl (d8.get hpb e7))) i0 (v := .str nm) (by rw [List.getElem?_map, hnm]; rfl) ?_
    obtain ⟨z, hz, hzn⟩ : ∃ z ∈ zs, z.r.nm = nm := by
      obtain ⟨z, hz, e⟩ := List.mem_map.mp (hp.mem_iff.mp (List.mem_of_getElem? hnm))
      exact ⟨z, hz, e⟩
    subst hzn
    have dget : ∀ {H'}, ActsAt K H' d zs → DGet H' d (.str z.r.nm) (some (.ref z.a)) := fun {H'} h => Or.inl ⟨_, .inr z.r.nm, .inl h.at_, rfl, (h.val hz).symm⟩
    refine ⟨.ref d, rfl, .str z.r.nm, rfl, d, .ref z.a, rfl, dget hA8, ?_⟩
    refine rd_ixT (hA8.tup z hz) (by decide) (v := .ref z.o) rfl ?_
    have o6 := (hok z hz).o6
    have o1 := (hok z hz).o1
    have ol : (z.r.outs.map (·.1)).length < 64 := by rw [List.length_map]; omega
    refine Or.inl ⟨z.o, _, z.r.outs.map (·.1), rfl, .inl (hA8.out z hz), row_keys _, ol, fun ws p2 hp2 hs2 np2 => ?_⟩
    have d9 : Dr b H (upd H8 p2 (.lst (ws.map V.str))) := (d7.trans d8).trans (.new np2)
    have m9 : Mv [] H8 (upd H8 p2 (.lst (ws.map V.str))) := .new np2
    have e9 : upd H8 p2 (.lst (ws.map V.str)) p2 = some (.lst (ws.map V.str)) := upd_same
    have hp2b : p2 ≠ b := hB8.fneq np2
    generalize upd H8 p2 (.lst (ws.map V.str)) = H9 at d9 m9 e9 ⊢
    have hB9 := hB8.mv m9
    have hA9 := hA8.mv m9
    have hO9 := hO8.mv m9
    have hwl : ws.length = z.r.outs.length := by have := hp2.length_eq; rwa [List.length_map] at this
    refine ⟨.ref b, rfl, .ref d, rfl, .str z.r.nm, rfl, d, .ref z.a, rfl, dget hA9, ?_⟩
    refine rd_ixT (hA9.tup z hz) (by decide) (v := .ref z.o) rfl ?_
    refine Or.inr (Or.inr ⟨z.o, _, rfl, hA9.out z hz, ?_⟩)
    refine ⟨b, _, rfl, hB9, by rw [List.length_map]; omega, by rw [List.length_map]; omega, fun j H10 j0 j1 d10 => ?_⟩
    rw [List.length_map] at j1
    have hB10 := d10.bag hB9
    have hA10 := hA9.dr d10 hB9
    have hO10 := hO9.dr d10 hB9
    have hjl : j.toNat < ws.length := by omega
    obtain ⟨ow, how⟩ : ∃ ow, ws[j.toNat]? = some ow := ⟨_, List.getElem?_eq_getElem hjl⟩
    refine rd_ixL (.inl (.inl (d10.get hp2b e9))) j0 (v := .str ow) (by rw [List.getElem?_map, how]; rfl) ?_
    have howm : ow ∈ z.r.outs.map (·.1) := hp2.mem_iff.mp (List.mem_of_getElem? how)
    have d010 := d9.trans d10
    clear d9 m9 hB9 hA9 hO9 e9 hp2b d8 hB8 hA8 hO8 d7 m7 hB7 hA7 hO7 e7
    have dr' : ∀ {H'}, Dr b H H' → ActsAt K H' d zs := fun {H'} h => hA.dr h hB
    let Md : Int → L2.St → Hp → Prop := NMid K H b d d' zs n z.r.nm ow
    have nm1 : zs1.map (·.r.nm) = zs.map (·.r.nm) := by
      have h1 := congrArg (List.map ActR.nm) ntw
      rw [List.map_map, List.map_map] at h1
      exact h1
    have start : Md 0 [some (.ref b), some (.ref d), some (.ref d'), some (.int n), some (.str z.r.nm), some (.str ow), none] H10 := by
      refine ⟨zs1, rfl, hO10, hok1, fo, by omega, d010, fun _ => ⟨?_, nm1⟩⟩
      have : z.r ∈ zs1.map (·.r) := by rw [ntw]; exact List.mem_map.mpr ⟨z, hz, rfl⟩
      obtain ⟨y, hy, e⟩ := List.mem_map.mp this
      exact ⟨y, hy, by rw [e], by rw [e]; exact howm⟩
    have dget' : ∀ {H' zs'} {y : ActA}, ActsO K H' d' zs' → y ∈ zs' → y.r.nm = z.r.nm → DGet H' d' (.str z.r.nm) (some (.ref y.a)) := fun {H' zs' y} h hy e => Or.inl ⟨_, .inr z.r.nm, .inl h.at_.at_, rfl, by rw [← e]; exact (h.at_.val hy).symm⟩
    have small : ∀ l : Nat, l ≤ 100 → l < sizeLine := fun l hl => Nat.lt_of_le_of_lt hl (by decide)
    have hdb : d' ≠ b := hB.fneq nd0
    refine ⟨Md 1, ?_, fun σ H11 h11 => ?_⟩
    · refine ⟨.int n, rfl, Or.inl ⟨rfl, _, rfl, ?_⟩⟩
      rw [vint_eq]
      refine ite2 (fun e => ?_) (fun e => start.mono (by decide))
      have e := of_decide_eq_true e
      obtain ⟨zs', _, hO', hk', fo', hl', dr0, pres⟩ := start
      obtain ⟨⟨y, hy, hyn, hyo⟩, hnm'⟩ := pres (by omega)
      have hA' := dr' dr0
      refine ⟨.ref d, rfl, .str z.r.nm, rfl, d, .ref z.a, rfl, dget hA', rd_ixT (hA'.tup z hz) (by decide) (v := .int z.r.ar) rfl (Or.inl ⟨_, _, rfl, rfl, Or.inl ⟨_, rfl, _, _, rfl, rfl, (by decide : (0 : Int) < 3), ?_⟩⟩)⟩
      refine ⟨.ref d', rfl, .str z.r.nm, rfl, d', .ref y.a, rfl, dget' hO' hy hyn, rd_ixT (hO'.at_.tup y hy) (by decide) (v := .ref y.o) rfl ?_⟩
      refine ⟨(by decide : 2 ≤ sizeLine), fun a7 na7 => ?_⟩
      have m7 : Mv [] H10 (upd H10 a7 (.tup [.int ((z.r.ar + 1) % 3), .ref y.o])) := .new na7
      have e7 : SqT K (upd H10 a7 (.tup [.int ((z.r.ar + 1) % 3), .ref y.o])) a7 [.int ((z.r.ar + 1) % 3), .ref y.o] := .inl (.inl upd_same)
      generalize upd H10 a7 (.tup [.int ((z.r.ar + 1) % 3), .ref y.o]) = H7 at m7 e7 ⊢
      have hO7 := hO'.mv m7
      refine ⟨.ref d', rfl, .str z.r.nm, rfl, d', _, rfl, Or.inl ⟨_, .inr z.r.nm, hO7.at_.at_, rfl, small _ (by rw [List.length_map]; omega), rfl⟩, ?_⟩
      rw [reA_put (i := (z.r.ar + 1) % 3) (by rw [hnm']; exact List.mem_map.mpr ⟨z, hz, rfl⟩)]
      refine ⟨reA zs' z.r.nm a7 ((z.r.ar + 1) % 3), rfl, hO7.setA hy hyn e7, fun u hu => ?_, fun u hu => ?_, by unfold reA; rw [List.length_map]; exact hl', (dr0.trans (.of m7)).wr nd0, fun h => absurd h (by omega)⟩
      · obtain ⟨v, hv, rfl⟩ := List.mem_map.mp hu
        have := hk' v hv
        split
        · exact ⟨this.nm, by show 0 ≤ (z.r.ar + 1) % 3; omega, by show (z.r.ar + 1) % 3 ≤ 2; omega, this.o1, this.o6, this.on⟩
        · exact this
      · obtain ⟨v, hv, rfl⟩ := List.mem_map.mp hu
        split <;> exact fo' v hv
    refine ⟨Md 2, ?_, fun σ H12 h12 => ?_⟩
    · have h11' := h11
      obtain ⟨zs', rfl, hO', hk', fo', hl', dr0, pres⟩ := h11
      refine ⟨.int n, rfl, Or.inl ⟨rfl, _, rfl, ?_⟩⟩
      rw [vint_eq]
      refine ite2 (fun e => ?_) (fun e => h11'.mono (by decide))
      have e := of_decide_eq_true e
      obtain ⟨⟨y, hy, hyn, hyo⟩, hnm'⟩ := pres (by omega)
      obtain ⟨⟨ow', v⟩, hv, how'⟩ := List.mem_map.mp hyo
      change ow' = ow at how'
      subst how'
      have hyd := hO'.at_.ond y hy
      refine ⟨.ref d', rfl, .str z.r.nm, rfl, d', .ref y.a, rfl, dget' hO' hy hyn, rd_ixT (hO'.at_.tup y hy) (by decide) (v := .ref y.o) rfl ?_⟩
      refine ⟨_, rfl, y.o, .int v, rfl, Or.inl ⟨_, .inr _, .inl (hO'.at_.out y hy), rfl, (row_val hyd hv).symm⟩, ?_⟩
      refine Or.inl ⟨_, _, rfl, rfl, Or.inl ⟨_, rfl, _, _, rfl, rfl, (by decide : (0 : Int) < 3), ?_⟩⟩
      refine ⟨.ref d', rfl, .str z.r.nm, rfl, d', .ref y.a, rfl, dget' hO' hy hyn, rd_ixT (hO'.at_.tup y hy) (by decide) (v := .ref y.o) rfl ?_⟩
      have hk := hk' y hy
      refine ⟨_, rfl, y.o, _, rfl, Or.inl ⟨_, .inr _, hO'.at_.out y hy, rfl, small _ (by rw [List.length_map]; have := hk.o6; omega), rfl⟩, ?_⟩
      rw [row_re hyo]
      have hO2 := hO'.putO (rows' := y.r.outs.map fun e => if e.1 = ow' then (e.1, (v + 1) % 3) else e) (hO'.at_.o_ne hy) (hO'.at_.out y hy) (by rw [row_re_keys]; exact hyd)
      refine ⟨_, rfl, hO2, fun u hu => ?_, fun u hu => ?_, by unfold reO; rw [List.length_map]; exact hl', dr0.wr (fo' y hy), fun h => absurd h (by omega)⟩
      · obtain ⟨z', hz', _, _, e3, e4, e5⟩ := reO_mem hu
        have hk3 := hk' z' hz'
        rcases e5 with ⟨_, e7⟩ | ⟨_, rfl⟩
        · refine ⟨by rw [e3]; exact hk3.nm, by rw [e4]; exact hk3.ar0, by rw [e4]; exact hk3.ar2, by rw [e7, List.length_map]; exact hk.o1, by rw [e7, List.length_map]; exact hk.o6, fun f hf => ?_⟩
          rw [e7] at hf
          obtain ⟨g, hg, rfl⟩ := List.mem_map.mp hf
          have := hk.on g hg
          split
          · exact ⟨this.1, by show 0 ≤ (v + 1) % 3; omega, by show (v + 1) % 3 ≤ 2; omega⟩
          · exact this
        · exact hk3
      · obtain ⟨z', hz', _, e2, _⟩ := reO_mem hu
        rw [e2]
        exact fo' z' hz'
    refine ⟨Md 3, ?_, fun σ H13 h13 => ?_⟩
    · have h12' := h12
      obtain ⟨zs', rfl, hO', hk', fo', hl', dr0, pres⟩ := h12
      refine ⟨.int n, rfl, Or.inl ⟨rfl, _, rfl, ?_⟩⟩
      rw [vint_eq]
      refine ite2 (fun e => ?_) (fun e => h12'.mono (by decide))
      have e := of_decide_eq_true e
      obtain ⟨⟨y, hy, hyn, hyo⟩, hnm'⟩ := pres (by omega)
      refine ⟨.ref d', rfl, d', rfl, .inl ⟨_, .inl hO'.at_.at_⟩, .str z.r.nm, rfl, _, .inr z.r.nm, .ref y.a, hO'.at_.at_, rfl, by rw [← hyn]; exact hO'.at_.val hy, ?_⟩
      rw [act_drop]
      exact ⟨_, rfl, hO'.drop _, fun u hu => hk' u (List.mem_filter.mp hu).1, fun u hu => fo' u (List.mem_filter.mp hu).1, Nat.le_trans (List.length_filter_le _ _) hl', dr0.wr nd0, fun h => absurd h (by omega)⟩
    refine ⟨Md 4, ?_, fun σ H14 h14 => ?_⟩
    · have h13' := h13
      obtain ⟨zs', rfl, hO', hk', fo', hl', dr0, pres⟩ := h13
      refine ⟨.int n, rfl, Or.inl ⟨rfl, _, rfl, ?_⟩⟩
      rw [vint_eq]
      rcases Decidable.em (n = 4) with e | e
      case inr => 
        rw [decide_eq_false e]
        exact h13'.mono (by decide)
      rw [decide_eq_true e]
      obtain ⟨⟨y, hy, hyn, hyo⟩, hnm'⟩ := pres (by omega)
      have hyd := hO'.at_.ond y hy
      have hk := hk' y hy
      refine ⟨.ref d', rfl, .str z.r.nm, rfl, d', .ref y.a, rfl, dget' hO' hy hyn, rd_ixT (hO'.at_.tup y hy) (by decide) (v := .ref y.o) rfl ?_⟩
      refine Or.inr (Or.inr ⟨y.o, _, rfl, hO'.at_.out y hy, _, _, rfl, rfl, _, rfl, ?_⟩)
      refine ite2 (fun e1 => ?_) (fun e1 => h13'.mono (by decide))
      have e1 := of_decide_eq_true e1
      rw [List.length_map] at e1
      refine ⟨.ref d', rfl, .str z.r.nm, rfl, d', .ref y.a, rfl, dget' hO' hy hyn, rd_ixT (hO'.at_.tup y hy) (by decide) (v := .ref y.o) rfl ?_⟩
      obtain ⟨⟨ow', v⟩, hv, how'⟩ := List.mem_map.mp hyo
      change ow' = ow at how'
      subst how'
      refine ⟨y.o, rfl, .inl ⟨_, .inl (hO'.at_.out y hy)⟩, _, rfl, _, .inr _, .int v, hO'.at_.out y hy, rfl, row_val hyd hv, ?_⟩
      rw [row_drop]
      have hO2 := hO'.putO (rows' := y.r.outs.filter fun e => decide (e.1 ≠ ow')) (hO'.at_.o_ne hy) (hO'.at_.out y hy) (nd_filter _ hyd)
      refine ⟨_, rfl, hO2, fun u hu => ?_, fun u hu => ?_, by unfold reO; rw [List.length_map]; exact hl', dr0.wr (fo' y hy), fun h => absurd h (by omega)⟩
      · obtain ⟨z', hz', _, _, e3, e4, e5⟩ := reO_mem hu
        have hk3 := hk' z' hz'
        rcases e5 with ⟨_, e7⟩ | ⟨_, rfl⟩
        · refine ⟨by rw [e3]; exact hk3.nm, by rw [e4]; exact hk3.ar0, by rw [e4]; exact hk3.ar2, by rw [e7]; exact two_left hyd (by omega) _, by rw [e7]; exact Nat.le_trans (List.length_filter_le _ _) hk.o6, fun f hf => ?_⟩
          rw [e7] at hf
          exact hk.on f (List.mem_filter.mp hf).1
        · exact hk3
      · obtain ⟨z', hz', _, e2, _⟩ := reO_mem hu
        rw [e2]
        exact fo' z' hz'
    refine ⟨Md 5, ?_, fun σ H15 h15 => ?_⟩
    · have h14' := h14
      obtain ⟨zs', rfl, hO', hk', fo', hl', dr0, pres⟩ := h14
      refine ⟨.int n, rfl, Or.inl ⟨rfl, _, rfl, ?_⟩⟩
      rw [vint_eq]
      refine ite2 (fun e => ?_) (fun e => h14'.mono (by decide))
      have e := of_decide_eq_true e
      obtain ⟨⟨y, hy, hyn, hyo⟩, hnm'⟩ := pres (by omega)
      refine ⟨.ref d', rfl, d', rfl, .inl ⟨_, .inl hO'.at_.at_⟩, .str z.r.nm, rfl, _, .inr z.r.nm, .ref y.a, hO'.at_.at_, rfl, by rw [← hyn]; exact hO'.at_.val hy, ?_⟩
      rw [act_drop]
      have hO2 := hO'.drop fun u => decide (u.r.nm ≠ z.r.nm)
      have mp : Mv [d'] H14 (upd H14 d' (.dK ((zs'.filter fun u => decide (u.r.nm ≠ z.r.nm)).map ActA.kv))) := .putD hO'.at_.at_
      have ty := mp.sqT (hO'.at_.tup y hy)
      have oy := mp.keep _ _ (by simpa using hO'.at_.o_ne hy) (hO'.at_.out y hy)
      have dr1 : Dr b H (upd H14 d' (.dK ((zs'.filter fun u => decide (u.r.nm ≠ z.r.nm)).map ActA.kv))) := dr0.wr nd0
      generalize upd H14 d' (.dK ((zs'.filter fun u => decide (u.r.nm ≠ z.r.nm)).map ActA.kv)) = H2 at hO2 mp ty oy dr1 ⊢
      refine ⟨.ref d', rfl, (by decide : 5 ≤ sizeLine), fun tp ntp => ?_⟩
      generalize hnames : [Str.ofString "zz", Str.ofString "yy", Str.ofString "xx", Str.ofString "ww", Str.ofString "vv"] = names
      have names5 : names.length = 5 := by rw [← hnames]; rfl
      have namesN : names.Nodup := by rw [← hnames]; decide +kernel
      have namesO : ∀ x ∈ names, Nm x := by rw [← hnames]; decide +kernel
      have e3 : SqT K (upd H2 tp (.tup (names.map V.str))) tp (names.map V.str) := .inl (.inl upd_same)
      have m3 : Mv [] H2 (upd H2 tp (.tup (names.map V.str))) := .new ntp
      rw [show ([.str (Str.ofString "zz"), .str (Str.ofString "yy"), .str (Str.ofString "xx"), .str (Str.ofString "ww"), .str (Str.ofString "vv")] : List V) = names.map V.str by rw [← hnames]; rfl]
      generalize upd H2 tp (.tup (names.map V.str)) = H3 at e3 m3 ⊢
      have dr3 : Dr b H H3 := dr1.trans (.of m3)
      refine ⟨tp, rfl, ?_⟩
      refine lc_seq (.inr e3) (fun i D H4 => H4 D = some (.lst (((names.take i).filter fun x => decide (x ∉ zs.map (·.r.nm))).map V.str)) ∧ Mv [] H3 H4) (fun D nD => ⟨upd_same, .new nD⟩) (fun i D H4 nD h4 => h4.2) (fun D nD i x H4 hx h4 => ?_) (fun D H4 nD h4 => ?_)
      · obtain ⟨e4, m4⟩ := h4
        rw [List.getElem?_map] at hx
        obtain ⟨x, hxx, rfl⟩ := Option.map_eq_some_iff.mp hx
        have hA4 := dr' (dr3.trans (.of m4))
        refine ⟨rfl, .str x, rfl, .ref d, rfl, d, _, rfl, hA4.has x, _, rfl, ?_⟩
        rw [act_some, ← decide_not]
        have hil := (List.getElem?_eq_some_iff.mp hxx).1
        refine ite2 (fun e => ?_) (fun e => ?_)
        · refine ⟨.str x, rfl, _, e4, ?_, ?_, m4.wr nD⟩
          · rw [List.length_map]
            have h1 := List.length_filter_le (fun x => decide (x ∉ zs.map (·.r.nm))) (names.take i)
            rw [List.length_take] at h1
            exact Nat.lt_of_le_of_lt (show _ ≤ 100 by omega) (by decide)
          · rw [upd_same, List.take_add_one, hxx, List.filter_append]
            simp only [Option.toList, List.filter_cons, List.filter_nil]
            rw [if_pos (by simpa using e), List.map_append]
            rfl
        · refine ⟨?_, m4⟩
          rw [e4, List.take_add_one, hxx, List.filter_append]
          simp only [Option.toList, List.filter_cons, List.filter_nil]
          rw [if_neg (by simpa using e), List.append_nil]
      obtain ⟨e4, m4⟩ := h4
      rw [List.length_map, List.take_length] at e4
      obtain ⟨x, r, hxr, hxm, hxn⟩ := first_new (ys := zs.map (·.r.nm)) namesN (by rw [List.length_map, names5]; omega)
      rw [hxr] at e4
      have m24 := m3.trans m4
      have hO4 := hO2.mv m24
      have fl := List.length_filter_le (fun u : ActA => decide (u.r.nm ≠ z.r.nm)) zs'
      refine rd_ixL (.inl (.inl e4)) (by decide) (v := .str x) rfl ?_
      refine ⟨d', _, rfl, Or.inl ⟨_, .inr x, hO4.at_.at_, rfl, small _ (by rw [List.length_map]; omega), rfl⟩, ?_⟩
      have hxf : x ∉ (zs'.filter fun u => decide (u.r.nm ≠ z.r.nm)).map (·.r.nm) := fun h => by
        obtain ⟨u, hu, e⟩ := List.mem_map.mp h
        exact hxn (by rw [← hnm']; exact List.mem_map.mpr ⟨u, (List.mem_filter.mp hu).1, e⟩)
      have hput : putK ((zs'.filter fun u => decide (u.r.nm ≠ z.r.nm)).map ActA.kv) (.inr x) (.ref y.a) = ((zs'.filter fun u => decide (u.r.nm ≠ z.r.nm)) ++ [(⟨⟨x, y.r.ar, y.r.outs⟩, y.a, y.o⟩ : ActA)]).map ActA.kv := by
        rw [putK_new (by rw [kv_keys]; intro h; obtain ⟨y, hy, e⟩ := List.mem_map.mp h; cases e; exact hxf hy), List.map_append]
        rfl
      rw [hput]
      have hoy : y.o ∉ (zs'.filter fun u => decide (u.r.nm ≠ z.r.nm)).map (·.o) := fun h => by
        obtain ⟨u, hu, e⟩ := List.mem_map.mp h
        obtain ⟨hu1, hu2⟩ := List.mem_filter.mp hu
        have := nd_key hO'.od hu1 hy e
        subst this
        exact of_decide_eq_true hu2 hyn
      have hyd' : y.o ≠ d' := hO'.at_.o_ne hy
      refine ⟨_, rfl, hO4.add (u := ⟨⟨x, y.r.ar, y.r.outs⟩, y.a, y.o⟩) hxf hoy hyd' (m24.sqT ty) (m24.same _ _ oy) (hO'.at_.ond y hy), fun u hu => ?_, fun u hu => ?_, ?_, (dr1.trans (.of m24)).wr nd0, fun h => absurd h (by omega)⟩
      · rcases List.mem_append.mp hu with hu | hu
        · exact hk' u (List.mem_filter.mp hu).1
        · rw [List.mem_singleton] at hu
          subst hu
          have := hk' y hy
          exact ⟨namesO x hxm, this.ar0, this.ar2, this.o1, this.o6, this.on⟩
      · rcases List.mem_append.mp hu with hu | hu
        · exact fo' u (List.mem_filter.mp hu).1
        · rw [List.mem_singleton] at hu
          subst hu
          exact fo' y hy
      · rw [List.length_append]
        have : (zs'.filter fun u => decide (u.r.nm ≠ z.r.nm)).length < zs'.length := by
          refine Nat.lt_of_le_of_ne fl fun h => ?_
          have := List.length_filter_eq_length_iff.mp h y hy
          exact of_decide_eq_true this hyn
        show _ + 1 ≤ 4
        omega
    obtain ⟨zs', rfl, hO', hk', _, hl', dr0, _⟩ := h15
    exact ⟨.ref d', rfl, ret zs' H15 hO' hk' hl' dr0⟩
end
end Fm
namespace Fm
open PySem PySem.Spec PyProof.Rows L2 SlX
local macro_rules | `(tactic| walk_at "nn") => `(tactic| dsimp only [tC, tNil, tCons, tCB, tCall, gName, tSeq, tAsg, tPar, tDrop, tRet])
local macro_rules | `(tactic| walk_at "nc") => `(tactic| dsimp only [tC, tNil, tCons, tCB, tCall])
theorem normW_ss {zs : List ActA} (n : (zs.map (·.r.nm)).Nodup) : normW (zs.map (·.r)) = (srt leS (fun z : ActA => z.r.nm) zs).map (·.r.norm) := by
  unfold normW
  rw [List.map_map, srt_map (k := fun z : ActA => z.r.nm) (l := fun x => x.nm) (f := ActR.norm ∘ fun x : ActA => x.r) totS (fun _ => rfl) n]
  rfl
theorem strs_fine : ∀ {xs : List Str}, (∀ x ∈ xs, PyData.strOk x = true) → fineAll (xs.map PyData.str)
  | [], _ => trivial
  | x :: xs, h => ⟨h x (by simp), strs_fine fun y hy => h y (by simp [hy])⟩
theorem strs_wls : ∀ {xs : List Str}, (∀ x ∈ xs, x.length ≤ 9) → wls (xs.map PyData.str) ≤ 94 * xs.length
  | [], _ => by simp [wls]
  | x :: xs, h => by
    have h1 := strs_wls (xs := xs) fun y hy => h y (by simp [hy])
    have h2 := h x (by simp)
    simp only [List.map_cons, wls, wl, List.length_cons]
    omega
theorem strs_depth : ∀ xs : List Str, PyData.depthAll (xs.map PyData.str) = 0
  | [] => rfl
  | x :: xs => by simp [PyData.depthAll, PyData.depth, strs_depth xs]
theorem shw_strs {xs : List Str} (h : ∀ x ∈ xs, PyData.strOk x = true) (h9 : ∀ x ∈ xs, x.length ≤ 9) (hl : xs.length ≤ 1000) : Shw (.list (xs.map PyData.str)) := by
  refine ⟨strs_fine h, by simp [PyData.depth, strs_depth], ?_⟩
  have := strs_wls h9
  simp only [wl]
  omega
theorem shw_row {i : Int} {xs : List Str} (hi : 0 ≤ i ∧ i ≤ 2) (h : ∀ x ∈ xs, PyData.strOk x = true) (h9 : ∀ x ∈ xs, x.length ≤ 9) (hl : xs.length ≤ 1000) : Shw (.list [.int i, .list (xs.map PyData.str)]) := by
  refine ⟨⟨?_, strs_fine h, trivial⟩, by simp [PyData.depth, PyData.depthAll, strs_depth], ?_⟩
  · show i.natAbs < 10 ^ 40
    exact Nat.lt_of_le_of_lt (show i.natAbs ≤ 2 by omega) (by decide)
  · have := strs_wls h9
    simp only [wl, wls]
    omega
theorem shw_small {i : Int} (hi : 0 ≤ i ∧ i ≤ 2) : Shw (.int i) := ⟨Nat.lt_of_le_of_lt (show i.natAbs ≤ 2 by omega) (by decide), by simp [PyData.depth], by simp [wl]⟩
def sp_right (K : PySem.W.Frag) (C : Addr) : Sp := fun vs H Q _ => ∃ (x d : Addr) (zs : List ActA), vs = [.ref x, .ref d] ∧ WldAt K H C x (normW (zs.map (·.r))) ∧ ActsAt K H d zs ∧ (∀ z ∈ zs, z.r.ok) ∧ zs.length ≤ 50 ∧ ∀ H', Mv [] H H' → Q (.bl true) H'
section
variable {P : Program} {w : World} {K : PySem.W.Frag} {mg : Str → Option Value} {base : Heap}
theorem ok__law_right (T : TX K mg) {k : Nat} : FnOkG P w K mg base CX0 (k + 2) T.d__law_right.f T.d__law_right.fd P__law_right (sp_right K T.C_World) := by
  have G__law_alike : FnOkG P w K mg base CX0 1 T.d__law_alike.f T.d__law_alike.fd P__law_alike (sp_alike K) := ok__law_alike T
  have G_World_acts : FnOk P w K mg base CX0 1 T.d_World_acts.f T.d_World_acts.fd P_World_acts (sp_Wacts K T.C_World) := ok_World_acts T
  have G_World_arguments : FnOk P w K mg base CX0 1 T.d_World_arguments.f T.d_World_arguments.fd P_World_arguments (sp_Wargs K T.C_World) := ok_World_arguments T
  have G_World_outcomes : FnOk P w K mg base CX0 1 T.d_World_outcomes.f T.d_World_outcomes.fd P_World_outcomes (sp_Wouts K T.C_World) := ok_World_outcomes T
  have G_World_brings : FnOk P w K mg base CX0 1 T.d_World_brings.f T.d_World_brings.fd P_World_brings (sp_Wbrings K T.C_World) := ok_World_brings T
  refine okG T.d__law_right.F sc__law_right (fun vs H Q E h => ?_) (fun cdv A outer s H vs Q E hgd hr h => ?_)
  · obtain ⟨_, _, _, rfl, _⟩ := h
    rfl
  · obtain ⟨x, d, zs, rfl, hW, hA, hok, hfew, q⟩ := h
    have hu1 := hu1_of hr
    refine ⟨_, (pss_cons (ps_set (i := 2) sc__law_right.nd rfl (Or.inl rfl) (pe_methSl0 (pv 0) T.c_World T.d_World_acts.M (fnR_of G_World_acts T.d_World_acts.b) (hr.mono (by omega)) pass0)) (pss_cons (ps_if (pt_not (pt_val (pe_callG G__law_alike hgd (hr.mono (by omega)) rfl T.d__law_alike.g T.d__law_alike.F.kp T.d__law_alike.b .nil pass0 (pa_cons (pv 2) (pa_cons (pe_callB (r := rSortA K) (cr_sortA rfl) (by rfl) T.b_sorted bt_sorted (pa_cons (pv 1) pa_nil)) pa_nil))))) (pss_one (ps_ret pe_bl)) pss_nil) (pss_cons (ps_expr (pe_bm PySem.F.plainAttrs_list PySem.F.slot_list_append PySem.F.type_list_append mt_append (pv 2) (pa_cons pe_str pa_nil))) (pss_cons (ps_for PassesOwn.never rfl (pi_seq (pe_callB (r := rSortA K) (cr_sortA rfl) (by rfl) T.b_sorted bt_sorted (pa_cons (pv 1) pa_nil))) (pg_name (i := 3) sc__law_right.nd rfl (Or.inl rfl)) (pss_cons (ps_set (i := 4) sc__law_right.nd rfl (Or.inl rfl) (pe_methSl (pv 0) T.c_World T.d_World_outcomes.M (fnR_of G_World_outcomes T.d_World_outcomes.b) (hr.mono (by omega)) pass0 (pa_cons (pv 3) pa_nil))) (pss_cons (ps_if (pt_not (pt_val (pe_callG G__law_alike hgd (hr.mono (by omega)) rfl T.d__law_alike.g T.d__law_alike.F.kp T.d__law_alike.b .nil pass0 (pa_cons (pe_lst (pa_cons (pe_methSl (pv 0) T.c_World T.d_World_arguments.M (fnR_of G_World_arguments T.d_World_arguments.b) (hr.mono (by omega)) pass0 (pa_cons (pv 3) pa_nil)) (pa_cons (pv 4) pa_nil))) (pa_cons (pe_lst (pa_cons (pe_ix (r := rIx K) ix_seq (pe_dget hu1 (pv 1) (pv 3) (fun _ _ => rfl)) pe_int (fun _ _ => rfl)) (pa_cons (pe_callB (r := rSortA K) (cr_sortA rfl) (by rfl) T.b_sorted bt_sorted (pa_cons (pe_ix (r := rIx K) ix_seq (pe_dget hu1 (pv 1) (pv 3) (fun _ _ => rfl)) pe_int (fun _ _ => rfl)) pa_nil)) pa_nil))) pa_nil))))) (pss_one (ps_ret pe_bl)) pss_nil) (pss_cons (ps_expr (pe_bm0 PySem.F.plainAttrs_list PySem.F.slot_list_reverse PySem.F.type_list_reverse mt_reverse (pv 4))) (pss_cons (ps_expr (pe_bm PySem.F.plainAttrs_list PySem.F.slot_list_append PySem.F.type_list_append mt_append (pv 4) (pa_cons pe_str pa_nil))) (pss_one (ps_for PassesOwn.never rfl (pi_seq (pe_callB (r := rSortA K) (cr_sortA rfl) (by rfl) T.b_sorted bt_sorted (pa_cons (pe_ix (r := rIx K) ix_seq (pe_dget hu1 (pv 1) (pv 3) (fun _ _ => rfl)) pe_int (fun _ _ => rfl)) pa_nil))) (pg_name (i := 5) sc__law_right.nd rfl (Or.inl rfl)) (pss_one (ps_if (pt_not (pt_val (pe_callG G__law_alike hgd (hr.mono (by omega)) rfl T.d__law_alike.g T.d__law_alike.F.kp T.d__law_alike.b .nil pass0 (pa_cons (pe_methSl (pv 0) T.c_World T.d_World_brings.M (fnR_of G_World_brings T.d_World_brings.b) (hr.mono (by omega)) pass0 (pa_cons (pv 3) (pa_cons (pv 5) pa_nil))) (pa_cons (pe_dget hu1 (pe_ix (r := rIx K) ix_seq (pe_dget hu1 (pv 1) (pv 3) (fun _ _ => rfl)) pe_int (fun _ _ => rfl)) (pv 5) (fun _ _ => rfl)) pa_nil))))) (pss_one (ps_ret pe_bl)) pss_nil))))))))) (pss_one (ps_ret pe_bl)))))), ?_⟩
    obtain ⟨dx, dd, us, hs, hAw, hz⟩ := id hW
    rw [normW_ss hA.nd] at hW
    have hlz : (zs.map (·.r.nm)).length < 64 := by rw [List.length_map]; omega
    generalize hss : srt leS (fun z : ActA => z.r.nm) zs = ss at hW
    have hsub : ∀ z ∈ ss, z ∈ zs := fun z hz => by rw [← srt_mem (le := leS) (k := fun z : ActA => z.r.nm), hss]; exact hz
    have hsl : ss.length = zs.length := by rw [← hss, srt_len]
    have names : (ss.map (·.r.norm)).map (·.nm) = ss.map (·.r.nm) := by rw [List.map_map]; rfl
    refine ⟨.ref x, rfl, x, dx, _, rfl, hs, x, _, rfl, hW, fun p np => ?_⟩
    rw [names]
    have m1 : Mv [] H (upd H p (.lst ((ss.map (·.r.nm)).map V.str))) := .new np
    have e1 : upd H p (.lst ((ss.map (·.r.nm)).map V.str)) p = some (.lst ((ss.map (·.r.nm)).map V.str)) := upd_same
    generalize upd H p (.lst ((ss.map (·.r.nm)).map V.str)) = H1 at m1 e1 ⊢
    have hA1 := hA.mv m1
    refine ⟨.ref p, rfl, .ref d, rfl, Or.inl ⟨d, _, zs.map (·.r.nm), rfl, .inl hA1.at_, kv_keys zs, hlz, fun ys p2 hp hs2 np2 => ?_⟩⟩
    have hys := srt_keys totS hA.nd hp (sortedS_pw ys hs2)
    rw [hss] at hys
    subst hys
    have m2 : Mv [] H1 (upd H1 p2 (.lst ((ss.map (·.r.nm)).map V.str))) := .new np2
    have e2 : upd H1 p2 (.lst ((ss.map (·.r.nm)).map V.str)) p2 = some (.lst ((ss.map (·.r.nm)).map V.str)) := upd_same
    generalize upd H1 p2 (.lst ((ss.map (·.r.nm)).map V.str)) = H2 at m2 e2 ⊢
    have e12 := m2.same _ _ e1
    have okn : ∀ y ∈ ss.map (·.r.nm), Nm y := fun y hy => by
      obtain ⟨z, hz, rfl⟩ := List.mem_map.mp hy
      exact (hok z (hsub z hz)).nm
    refine ⟨_, _, .list ((ss.map (·.r.nm)).map PyData.str), rfl, .lst (.inl (.inl e12)) (dp_strs _), .lst (.inl (.inl e2)) (dp_strs _), shw_strs (fun y hy => nm_ok (okn y hy)) (fun y hy => by have := (okn y hy).2.1; omega) (by rw [List.length_map]; omega), ?_⟩
    refine ⟨_, rfl, ?_⟩
    refine ⟨.ref p, rfl, .inl ⟨rfl, _, .inl (.inl e12)⟩, ?_⟩
    refine ⟨p, _, _, rfl, rfl, e12, ?_, ?_⟩
    · rw [List.length_map, List.length_map]
      exact Nat.lt_of_le_of_lt (show ss.length ≤ 100 by omega) (by decide)
    have m3 : Mv [] H (upd H2 p (.lst ((ss.map (·.r.nm)).map V.str ++ [.str (Str.ofString "zz")]))) := (m1.trans m2).wr np
    generalize upd H2 p (.lst ((ss.map (·.r.nm)).map V.str ++ [.str (Str.ofString "zz")])) = H3 at m3 ⊢
    have hA3 := hA.mv m3
    refine ⟨.ref d, rfl, Or.inl ⟨d, _, zs.map (·.r.nm), rfl, .inl hA3.at_, kv_keys zs, hlz, fun ys p4 hp4 hs4 np4 => ⟨p4, rfl, ?_⟩⟩⟩
    have hys := srt_keys totS hA.nd hp4 (sortedS_pw ys hs4)
    rw [hss] at hys
    subst hys
    have m4 : Mv [] H3 (upd H3 p4 (.lst ((ss.map (·.r.nm)).map V.str))) := .new np4
    have e4 : upd H3 p4 (.lst ((ss.map (·.r.nm)).map V.str)) p4 = some (.lst ((ss.map (·.r.nm)).map V.str)) := upd_same
    generalize upd H3 p4 (.lst ((ss.map (·.r.nm)).map V.str)) = H4 at m4 e4 ⊢
    have m04 := m3.trans m4
    refine for_seq (xs := (ss.map (·.r.nm)).map V.str) (.inl (.inl (.inl e4))) (fun i σ H5 => ∃ y3 y4 y5, σ = [some (.ref x), some (.ref d), some (.ref p), y3, y4, y5] ∧ Mv [] H4 H5)
      ⟨none, none, none, rfl, .refl⟩ (fun i σ H5 h5 => h5.choose_spec.choose_spec.choose_spec.2) (fun i y σ H5 hy h5 => ?_) (fun σ H5 h5 => ?_)
    · obtain ⟨y3, y4, y5, rfl, m5⟩ := h5
      rw [List.getElem?_map, List.getElem?_map, Option.map_map] at hy
      obtain ⟨z, hz', rfl⟩ := Option.map_eq_some_iff.mp hy
      have hzss := List.mem_of_getElem? hz'
      have hzs := hsub z hzss
      have hzn : z.r.norm ∈ ss.map (·.r.norm) := List.mem_map.mpr ⟨z, hzss, rfl⟩
      have hzk := hok z hzs
      have m05 := m04.trans m5
      refine ⟨.ref x, rfl, x, dx, _, rfl, Slt.mv hs m05, .str z.r.nm, rfl, x, _, z.r.norm, rfl, hW.mv m05, hzn, fun p6 np6 => ?_⟩
      have m6 : Mv [] H5 (upd H5 p6 (.lst ((z.r.norm.outs.map (·.1)).map V.str))) := .new np6
      have e6 : upd H5 p6 (.lst ((z.r.norm.outs.map (·.1)).map V.str)) p6 = some (.lst ((z.r.norm.outs.map (·.1)).map V.str)) := upd_same
      generalize upd H5 p6 (.lst ((z.r.norm.outs.map (·.1)).map V.str)) = H6 at m6 e6 ⊢
      have m06 := m05.trans m6
      refine ⟨.ref x, rfl, x, dx, _, rfl, Slt.mv hs m06, .str z.r.nm, rfl, x, _, z.r.norm, rfl, hW.mv m06, hzn, .ref p6, rfl, (by decide : 2 ≤ sizeLine), fun p7 np7 => ?_⟩
      have m7 : Mv [] H6 (upd H6 p7 (.lst [.int z.r.ar, .ref p6])) := .new np7
      have e7 : upd H6 p7 (.lst [.int z.r.ar, .ref p6]) p7 = some (.lst [.int z.r.ar, .ref p6]) := upd_same
      change tCons _ _ _ (upd H6 p7 (.lst [.int z.r.ar, .ref p6])) _
      generalize upd H6 p7 (.lst [.int z.r.ar, .ref p6]) = H7 at m7 e7 ⊢
      have m07 := m06.trans m7
      have hA7 := hA.mv m07
      refine ⟨.ref d, rfl, .str z.r.nm, rfl, d, .ref z.a, rfl, Or.inl ⟨_, .inr z.r.nm, .inl hA7.at_, rfl, (hA7.val hzs).symm⟩, rd_ixT (hA7.tup z hzs) (by decide) (v := .int z.r.ar) rfl ?_⟩
      have ol : (z.r.outs.map (·.1)).length < 64 := by rw [List.length_map]; have := hzk.o6; omega
      refine ⟨.ref d, rfl, .str z.r.nm, rfl, d, .ref z.a, rfl, Or.inl ⟨_, .inr z.r.nm, .inl hA7.at_, rfl, (hA7.val hzs).symm⟩, rd_ixT (hA7.tup z hzs) (by decide) (v := .ref z.o) rfl (Or.inl ⟨z.o, _, z.r.outs.map (·.1), rfl, .inl (hA7.out z hzs), row_keys _, ol, fun ws p8 hp8 hs8 np8 => ?_⟩)⟩
      have hws : ws = z.r.norm.outs.map (·.1) := srt_keys (k := fun e : Str × Int => e.1) totS (hA.ond z hzs) hp8 (sortedS_pw ws hs8)
      subst hws
      have m8 : Mv [] H7 (upd H7 p8 (.lst ((z.r.norm.outs.map (·.1)).map V.str))) := .new np8
      have e8 : upd H7 p8 (.lst ((z.r.norm.outs.map (·.1)).map V.str)) p8 = some (.lst ((z.r.norm.outs.map (·.1)).map V.str)) := upd_same
      generalize upd H7 p8 (.lst ((z.r.norm.outs.map (·.1)).map V.str)) = H8 at m8 e8 ⊢
      refine ⟨(by decide : 2 ≤ sizeLine), fun p9 np9 => ?_⟩
      have m9 : Mv [] H8 (upd H8 p9 (.lst [.int z.r.ar, .ref p8])) := .new np9
      have e9 : upd H8 p9 (.lst [.int z.r.ar, .ref p8]) p9 = some (.lst [.int z.r.ar, .ref p8]) := upd_same
      generalize upd H8 p9 (.lst [.int z.r.ar, .ref p8]) = H9 at m9 e9 ⊢
      have m09 := m07.trans (m8.trans m9)
      have e69 := (m7.trans (m8.trans m9)).same _ _ e6
      have e79 := (m8.trans m9).same _ _ e7
      have e89 := m9.same _ _ e8
      have nok := ActR.ok_norm hzk
      have outsOk : ∀ y ∈ z.r.norm.outs.map (·.1), On y := fun y hy => by
        obtain ⟨e, he, rfl⟩ := List.mem_map.mp hy
        exact (nok.on e he).1
      refine ⟨_, _, .list [.int z.r.ar, .list ((z.r.norm.outs.map (·.1)).map PyData.str)], rfl, .lst (.inl (.inl e79)) (.cons (.int _) (.cons (.lst (.inl (.inl e69)) (dp_strs _)) .nil)), .lst (.inl (.inl e9)) (.cons (.int _) (.cons (.lst (.inl (.inl e89)) (dp_strs _)) .nil)),
        shw_row ⟨hzk.ar0, hzk.ar2⟩ (fun y hy => on_ok (outsOk y hy)) (fun y hy => (outsOk y hy).2) (by rw [List.length_map]; have := nok.o6; omega), ?_⟩
      refine ⟨_, rfl, ?_⟩
      refine ⟨.ref p6, rfl, .inl ⟨rfl, _, .inl (.inl e69)⟩, p6, _, rfl, rfl, e69, ?_⟩
      have m10 : Mv [] H5 (upd H9 p6 (.lst ((z.r.norm.outs.map (·.1)).map V.str).reverse)) := (m6.trans (m7.trans (m8.trans m9))).wr np6
      have e10 : upd H9 p6 (.lst ((z.r.norm.outs.map (·.1)).map V.str).reverse) p6 = some (.lst ((z.r.norm.outs.map (·.1)).map V.str).reverse) := upd_same
      generalize upd H9 p6 (.lst ((z.r.norm.outs.map (·.1)).map V.str).reverse) = H10 at m10 e10 ⊢
      refine ⟨.ref p6, rfl, .inl ⟨rfl, _, .inl (.inl e10)⟩, p6, _, _, rfl, rfl, e10, ?_, ?_⟩
      · rw [List.length_reverse, List.length_map, List.length_map]
        have := nok.o6
        exact Nat.lt_of_le_of_lt (show z.r.norm.outs.length ≤ 100 by omega) (by decide)
      have m11 : Mv [] H5 (upd H10 p6 (.lst (((z.r.norm.outs.map (·.1)).map V.str).reverse ++ [.str (Str.ofString "zz")]))) := m10.wr np6
      generalize upd H10 p6 (.lst (((z.r.norm.outs.map (·.1)).map V.str).reverse ++ [.str (Str.ofString "zz")])) = H11 at m11 ⊢
      have hA11 := hA.mv (m05.trans m11)
      refine ⟨.ref d, rfl, .str z.r.nm, rfl, d, .ref z.a, rfl, Or.inl ⟨_, .inr z.r.nm, .inl hA11.at_, rfl, (hA11.val hzs).symm⟩, rd_ixT (hA11.tup z hzs) (by decide) (v := .ref z.o) rfl (Or.inl ⟨z.o, _, z.r.outs.map (·.1), rfl, .inl (hA11.out z hzs), row_keys _, ol, fun ws p12 hp12 hs12 np12 => ⟨p12, rfl, ?_⟩⟩)⟩
      have hws : ws = z.r.norm.outs.map (·.1) := srt_keys (k := fun e : Str × Int => e.1) totS (hA.ond z hzs) hp12 (sortedS_pw ws hs12)
      subst hws
      have m12 : Mv [] H11 (upd H11 p12 (.lst ((z.r.norm.outs.map (·.1)).map V.str))) := .new np12
      have e12 : upd H11 p12 (.lst ((z.r.norm.outs.map (·.1)).map V.str)) p12 = some (.lst ((z.r.norm.outs.map (·.1)).map V.str)) := upd_same
      generalize upd H11 p12 (.lst ((z.r.norm.outs.map (·.1)).map V.str)) = H12 at m12 e12 ⊢
      have m512 := m11.trans m12
      refine for_seq (xs := (z.r.norm.outs.map (·.1)).map V.str) (.inl (.inl (.inl e12))) (fun i σ H13 => ∃ y5, σ = [some (.ref x), some (.ref d), some (.ref p), some (.str z.r.nm), some (.ref p6), y5] ∧ Mv [] H12 H13)
        ⟨_, rfl, .refl⟩ (fun i σ H13 h13 => h13.choose_spec.2) (fun i y σ H13 hy h13 => ?_) (fun σ H13 h13 => ?_)
      · obtain ⟨y5, rfl, m13⟩ := h13
        rw [List.getElem?_map, List.getElem?_map, Option.map_map] at hy
        obtain ⟨⟨ow, v⟩, he, rfl⟩ := Option.map_eq_some_iff.mp hy
        have hem := List.mem_of_getElem? he
        have hem' : (ow, v) ∈ z.r.outs := srt_mem.mp hem
        have m013 := m05.trans (m512.trans m13)
        have hA13 := hA.mv m013
        refine ⟨.ref x, rfl, x, dx, _, rfl, Slt.mv hs m013, .str z.r.nm, rfl, .str ow, rfl, x, _, z.r.norm, ow, v, rfl, hW.mv m013, hzn, hem, ?_⟩
        refine ⟨.ref d, rfl, .str z.r.nm, rfl, d, .ref z.a, rfl, Or.inl ⟨_, .inr z.r.nm, .inl hA13.at_, rfl, (hA13.val hzs).symm⟩, rd_ixT (hA13.tup z hzs) (by decide) (v := .ref z.o) rfl ?_⟩
        refine ⟨.str ow, rfl, z.o, .int v, rfl, Or.inl ⟨_, .inr ow, .inl (hA13.out z hzs), rfl, (row_val (hA13.ond z hzs) hem').symm⟩, ?_⟩
        refine ⟨_, _, .int v, rfl, .int v, .int v, shw_small (hzk.on _ hem').2, ⟨_, rfl, ?_⟩⟩
        exact ⟨_, rfl, m13⟩
      · obtain ⟨y5, rfl, m13⟩ := h13
        exact ⟨_, _, _, rfl, m5.trans (m512.trans m13)⟩
    · obtain ⟨y3, y4, y5, rfl, m5⟩ := h5
      exact q H5 (m04.trans m5)
end
end Fm
/-! Worlds are equal just when their acts are -/
namespace Fm
open PySem PySem.Spec PyProof.Rows L2 SlX
theorem perm_sub {α : Type} : ∀ {a b : List α}, a.Nodup → (∀ x ∈ a, x ∈ b) → b.length ≤ a.length → a.Perm b
  | [], b, _, _, hl => by
    have : b = [] := List.length_eq_zero_iff.mp (Nat.le_zero.mp hl)
    rw [this]
  | x :: a, b, n, hs, hl => by
    rw [List.nodup_cons] at n
    obtain ⟨l1, l2, rfl⟩ := List.append_of_mem (hs x List.mem_cons_self)
    have h : a.Perm (l1 ++ l2) := by
      refine perm_sub n.2 (fun y hy => ?_) ?_
      · rcases List.mem_append.mp (hs y (List.mem_cons_of_mem _ hy)) with h | h
        · exact List.mem_append.mpr (.inl h)
        · rcases List.mem_cons.mp h with rfl | h
          · exact absurd hy n.1
          · exact List.mem_append.mpr (.inr h)
      · rw [List.length_append] at hl ⊢
        simp only [List.length_cons] at hl
        omega
    exact ((List.perm_cons x).mpr h).trans List.perm_middle.symm
theorem nd_of_map {α β : Type} {f : α → β} {xs : List α} (n : (xs.map f).Nodup) : xs.Nodup := by
  refine List.Pairwise.imp ?_ (List.pairwise_map.mp n)
  intro a b h e
  exact h (by rw [e])
theorem lk_in {b : List (Str × Int)} {x : Str} {j : Int} (h : lk b x = some j) : (x, j) ∈ b := by
  unfold lk at h
  obtain ⟨e, he, rfl⟩ := Option.map_eq_some_iff.mp h
  have h1 : e.1 = x := by simpa using List.find?_some he
  rw [← h1]
  exact List.mem_of_find?_eq_some he
theorem outsEq_iff {a b : List (Str × Int)} (na : (a.map (·.1)).Nodup) (nb : (b.map (·.1)).Nodup) : outsEq a b = true ↔ a.Perm b := by
  unfold outsEq
  rw [Bool.and_eq_true, beq_iff_eq, List.all_eq_true]
  constructor
  · rintro ⟨hl, hh⟩
    refine perm_sub (nd_of_map na) (fun e he => ?_) (by omega)
    have := hh e he
    unfold hitO at this
    cases hl : lk b e.1 with
    | none => rw [hl] at this; cases this
    | some j =>
      rw [hl] at this
      have e2 : e.2 = j := by simpa using this
      have := lk_in hl
      rw [← e2] at this
      exact this
  · intro p
    refine ⟨p.length_eq, fun e he => ?_⟩
    unfold hitO
    rw [lk_mem nb (p.mem_iff.mp he)]
    exact beq_self_eq_true _
structure WfR (rs : List ActR) : Prop where
  nd : (rs.map (·.nm)).Nodup
  ond : ∀ r ∈ rs, (r.outs.map (·.1)).Nodup
theorem actEq_iff {r q : ActR} (hn : r.nm = q.nm) (nr : (r.outs.map (·.1)).Nodup) (nq : (q.outs.map (·.1)).Nodup) : actEq r q = true ↔ r.norm = q.norm := by
  unfold actEq
  rw [Bool.and_eq_true, beq_iff_eq, outsEq_iff nr nq]
  constructor
  · rintro ⟨h1, h2⟩
    exact norm_outs hn h1 nq h2
  · intro h
    have h0 : r.norm.ar = q.norm.ar := by rw [h]
    refine ⟨h0, ?_⟩
    have h1 : srt leS (·.1) r.outs = srt leS (·.1) q.outs := congrArg ActR.outs h
    have h2 := (srt_perm (le := leS) (k := fun e : Str × Int => e.1) r.outs).symm
    rw [h1] at h2
    exact h2.trans (srt_perm _)
theorem hitA_iff {qs : List ActR} {r : ActR} (hq : WfR qs) (nr : (r.outs.map (·.1)).Nodup) : hitA qs r = true ↔ r.norm ∈ qs.map ActR.norm := by
  unfold hitA
  cases hf : qs.find? fun q => decide (q.nm = r.nm) with
  | none =>
    rw [List.find?_eq_none] at hf
    refine ⟨fun h => (by cases h), fun h => ?_⟩
    obtain ⟨q, hqm, e⟩ := List.mem_map.mp h
    have h0 : q.norm.nm = r.norm.nm := by rw [e]
    exact absurd (decide_eq_true (show q.nm = r.nm from h0)) (hf q hqm)
  | some q =>
    have hqm := List.mem_of_find?_eq_some hf
    have hqn : q.nm = r.nm := by simpa using List.find?_some hf
    show actEq r q = true ↔ _
    rw [actEq_iff hqn.symm nr (hq.ond q hqm)]
    refine ⟨fun h => List.mem_map.mpr ⟨q, hqm, h.symm⟩, fun h => ?_⟩
    obtain ⟨q', hqm', e⟩ := List.mem_map.mp h
    have h0 : q'.norm.nm = r.norm.nm := by rw [e]
    have : q' = q := nd_key hq.nd hqm' hqm ((show q'.nm = r.nm from h0).trans hqn.symm)
    rw [← e, this]
theorem rsEq_iff {rs qs : List ActR} (hr : WfR rs) (hq : WfR qs) : rsEq rs qs = true ↔ normW rs = normW qs := by
  unfold rsEq
  rw [Bool.and_eq_true, beq_iff_eq, List.all_eq_true]
  constructor
  · rintro ⟨hl, hh⟩
    refine normW_perm hq.nd (perm_sub (nd_of_map (f := ActR.nm) ?_) (fun x hx => ?_) (by rw [List.length_map, List.length_map]; omega))
    · rw [List.map_map]
      exact hr.nd
    · obtain ⟨r, hr', rfl⟩ := List.mem_map.mp hx
      exact (hitA_iff hq (hr.ond r hr')).mp (hh r hr')
  · intro h
    have p : (rs.map ActR.norm).Perm (qs.map ActR.norm) := by
      have h2 := (srt_perm (le := leS) (k := fun r : ActR => r.nm) (rs.map ActR.norm)).symm
      have h3 : srt leS (fun r : ActR => r.nm) (rs.map ActR.norm) = srt leS (fun r : ActR => r.nm) (qs.map ActR.norm) := h
      rw [h3] at h2
      exact h2.trans (srt_perm _)
    refine ⟨by have := p.length_eq; rwa [List.length_map, List.length_map] at this, fun r hr' => ?_⟩
    exact (hitA_iff hq (hr.ond r hr')).mpr (p.mem_iff.mp (List.mem_map.mpr ⟨r, hr', rfl⟩))
theorem norm_norm {r : ActR} (n : (r.outs.map (·.1)).Nodup) : r.norm.norm = r.norm := by
  unfold ActR.norm
  simp only
  rw [srt_idem totS n]
theorem wf_norm {rs : List ActR} (h : WfR rs) : WfR (normW rs) := by
  refine ⟨?_, fun r hr => ?_⟩
  · exact srt_nd (by rw [List.map_map]; exact h.nd)
  · have := srt_mem.mp hr
    obtain ⟨q, hq, rfl⟩ := List.mem_map.mp this
    exact srt_nd (h.ond q hq)
theorem normW_idem {rs : List ActR} (h : WfR rs) : normW (normW rs) = normW rs := by
  have h1 : (normW rs).map ActR.norm = normW rs := by
    conv => rhs; rw [← List.map_id (normW rs)]
    refine List.map_congr_left fun r hr => ?_
    have := srt_mem.mp hr
    obtain ⟨q, hq, rfl⟩ := List.mem_map.mp this
    exact norm_norm (h.ond q hq)
  show srt leS (fun r : ActR => r.nm) ((normW rs).map ActR.norm) = _
  rw [h1]
  exact srt_idem totS (by rw [List.map_map]; exact h.nd)
theorem rsEq_norm {rs qs : List ActR} (hr : WfR rs) (hq : WfR qs) : rsEq (normW rs) (normW qs) = rsEq rs qs := by
  rw [Bool.eq_iff_iff, rsEq_iff (wf_norm hr) (wf_norm hq), rsEq_iff hr hq, normW_idem hr, normW_idem hq]
theorem rsEq_symm {rs qs : List ActR} (hr : WfR rs) (hq : WfR qs) : rsEq rs qs = rsEq qs rs := by
  rw [Bool.eq_iff_iff, rsEq_iff hr hq, rsEq_iff hq hr]
  exact eq_comm
theorem rsEq_refl {rs : List ActR} (hr : WfR rs) : rsEq rs rs = true := (rsEq_iff hr hr).mpr rfl
theorem ActsAt.wf {K : PySem.W.Frag} {H : Hp} {d : Addr} {zs : List ActA} (h : ActsAt K H d zs) : WfR (zs.map (·.r)) := by
  refine ⟨by rw [List.map_map]; exact h.nd, fun r hr => ?_⟩
  obtain ⟨z, hz, rfl⟩ := List.mem_map.mp hr
  exact h.ond z hz
/-! worlds beside dicts that are emptied -/
theorem WldAt.mvS {K : PySem.W.Frag} {S : List Addr} {H H' : Hp} {C x dx d : Addr} {zs : List ActA} (hs : Slt H x C dx [some (.ref d)]) (hA : ActsAt K H d zs) (m : Mv S H H') (hS : ∀ a ∈ S, ∃ kvs, H a = some (.dK kvs)) (hd : d ∉ S) (ho : ∀ z ∈ zs, z.o ∉ S) :
    WldAt K H' C x (zs.map (·.r)) := by
  have keep : ∀ a o, (∀ kvs, o ≠ .dK kvs) → H a = some o → H' a = some o := fun a o hn e => m.keep a o (fun ha => by
    obtain ⟨kvs, h⟩ := hS a ha
    rw [e] at h
    exact hn kvs (Option.some.inj h)) e
  refine ⟨dx, d, zs, ?_, ⟨m.keep _ _ hd hA.at_, hA.nd, fun z hz => m.sqT (hA.tup z hz), fun z hz => m.keep _ _ (ho z hz) (hA.out z hz), hA.ond⟩, rfl⟩
  refine hs.imp (fun h => ⟨keep _ _ (fun _ z => by cases z) h.1, h.2⟩) fun h => ⟨keep _ _ (fun kvs z => by unfold SlO at z; cases z) h.1, keep _ _ (fun _ z => by cases z) h.2⟩
theorem Mv.unlockS {S : List Addr} {H H' : Hp} {d : Addr} {u : HO} {od : Obj} (h : H d = some u) (hu : ∀ xs, u ≠ .tup xs) (hv : ∀ o xs, u ≠ .frz o (.tup xs)) (m : Mv S (upd H d (.frz od u)) H') : Mv S H (upd H' d u) := by
  refine ⟨fun a xs r => ?_, fun a o hS e => ?_⟩
  · have hd : a ≠ d := by
      rintro rfl
      rcases r with r | ⟨o, r⟩
      · rw [h] at r
        exact hu xs (Option.some.inj r)
      · rw [h] at r
        exact hv o xs (Option.some.inj r)
    have r' : Rd (upd H d (.frz od u)) a (.tup xs) := r.imp (fun r => by rw [upd_ne hd]; exact r) fun ⟨o, r⟩ => ⟨o, by rw [upd_ne hd]; exact r⟩
    exact (m.tk a xs r').imp (fun r => by rw [upd_ne hd]; exact r) fun ⟨o, r⟩ => ⟨o, by rw [upd_ne hd]; exact r⟩
  · by_cases hd : a = d
    · subst hd
      rw [upd_same, ← e, h]
    · rw [upd_ne hd]
      exact m.keep a o hS (by rw [upd_ne hd]; exact e)
theorem BagC.upd {H : Hp} {b c d : Addr} {o : HO} {kvs : List (L2.Key × V)} (h : BagC H b c) (hd : H d = some (.dK kvs) ∨ ∃ od, H d = some (.frz od (.dK kvs))) : BagC (upd H d o) b c := by
  obtain ⟨s, m, k, ns, h1, h2, r⟩ := h
  have ne : ∀ a xs, H a = some (.lst xs) → a ≠ d := fun a xs e => by
    rintro rfl
    rcases hd with hd | ⟨od, hd⟩ <;> (rw [e] at hd; cases hd)
  exact ⟨s, m, k, ns, by rw [upd_ne (ne _ _ h1)]; exact h1, by rw [upd_ne (ne _ _ h2)]; exact h2, r⟩
theorem Bag.upd {H : Hp} {b d : Addr} {o : HO} {kvs : List (L2.Key × V)} (h : Bag H b) (hd : H d = some (.dK kvs) ∨ ∃ od, H d = some (.frz od (.dK kvs))) : Bag (L2.upd H d o) b := h.elim fun c h => ⟨c, h.upd hd⟩
theorem Dr.unlock {b d : Addr} {H H' : Hp} {kvs : List (L2.Key × V)} {od : Obj} (h : H d = some (.dK kvs)) (hB : Bag H b) (m : Dr b (upd H d (.frz od (.dK kvs))) H') : Dr b H (upd H' d (.dK kvs)) := by
  refine ⟨.unlockS h (fun _ z => by cases z) (fun _ _ z => by cases z) m.mv, fun c hc => ?_⟩
  have h1 : BagC (L2.upd H d (.frz od (.dK kvs))) b c := hc.upd (.inl h)
  have hdb : d ≠ b := by
    rintro rfl
    obtain ⟨xs, e⟩ := hc.lst
    rw [h] at e
    cases e
  exact (m.bagC c h1).upd (kvs := kvs) (.inr ⟨od, m.get hdb upd_same⟩)
/-- a value that is known behind an expression -/
theorem asg_mid {te : TE} {g : TG} {D : Ends} {σ : L2.St} {H : Hp} (R : V → Hp → Prop) (h1 : ∀ Q : VK, (∀ v H', R v H' → Q v H') → te σ H Q) (h2 : ∀ v H', R v H' → g v σ H' D.nx) : tAsg te g D σ H := h1 _ h2
end Fm
namespace Fm
open PySem PySem.Spec PyProof.Rows L2 SlX
local macro_rules | `(tactic| walk_at "nn") => `(tactic| dsimp only [tC, tNil, tCons, tCB, tCall, gName, tSeq, tAsg, tPar, tDrop, tRet])
local macro_rules | `(tactic| walk_at "nc") => `(tactic| dsimp only [tC, tNil, tCons, tCB, tCall])
def sp_law (K : PySem.W.Frag) : Sp := fun vs H Q _ => ∃ (a : Addr) (ns : List Int), vs = [.ref a] ∧ SqL K H a (ns.map V.int) ∧ ns.length ≤ 63 ∧ ∀ H', Q (.bl true) H'
section
variable {P : Program} {w : World} {K : PySem.W.Frag} {mg : Str → Option Value} {base : Heap}
theorem ok_law (T : TX K mg) (Y : TY P K mg) : FnOkG P w K mg base CX0 60 T.d_law.f T.d_law.fd P_law (sp_law K) := by
  have G__law_bag : FnOk P w K mg base CX0 1 T.d__law_bag.f T.d__law_bag.fd P__law_bag (sp_bag K) := ok__law_bag T
  have G__law_take : FnOk P w K mg base CX0 1 T.d__law_take.f T.d__law_take.fd P__law_take sp_take := ok__law_take T
  have G__law_mixed : FnOk P w K mg base CX0 2 T.d__law_mixed.f T.d__law_mixed.fd P__law_mixed (sp_mixG K) := ok__law_mixed T
  have G__law_acts : FnOk P w K mg base CX0 3 T.d__law_acts.f T.d__law_acts.fd P__law_acts (sp_acts K) := ok__law_acts T
  have G__law_more : FnOk P w K mg base CX0 2 T.d__law_more.f T.d__law_more.fd P__law_more (sp_more K) := ok__law_more T
  have G__law_fourth : FnOk P w K mg base CX0 2 T.d__law_fourth.f T.d__law_fourth.fd P__law_fourth (sp_fourth K) := ok__law_fourth T
  have G__law_near : FnOk P w K mg base CX0 2 T.d__law_near.f T.d__law_near.fd P__law_near (sp_near K) := ok__law_near T
  have G_World___init__ : FnOk P w K mg base CX0 5 T.d_World___init__.f T.d_World___init__.fd P_World___init__ (sp_World K T.C_World) := ok_World___init__ T
  have G_World___eq__ : FnOk P w K mg base CX0 1 T.d_World___eq__.f T.d_World___eq__.fd P_World___eq__ (sp_WorldEq K T.C_World) := ok_World___eq__ T
  have G__law_world_of : FnOk P w K mg base CX0 7 T.d__law_world_of.f T.d__law_world_of.fd P__law_world_of (sp_worldOf K T.C_World) := ok__law_world_of T
  have G__law_right : FnOkG P w K mg base CX0 2 T.d__law_right.f T.d__law_right.fd P__law_right (sp_right K T.C_World) := ok__law_right T
  have G__law_alike : FnOkG P w K mg base CX0 1 T.d__law_alike.f T.d__law_alike.fd P__law_alike (sp_alike K) := ok__law_alike T
  refine okG T.d_law.F sc_law (fun vs H Q E h => ?_) (fun cdv A outer s H vs Q E hgd hr h => ?_)
  · obtain ⟨_, _, rfl, _⟩ := h
    rfl
  · obtain ⟨a, sns, rfl, hS, hl63, q⟩ := h
    have hu1 := hu1_of hr
    have hu64 := hr.units
    have hu65 := hu65_of hr
    refine ⟨_, (pss_cons (ps_set (i := 1) sc_law.nd rfl (Or.inr rfl) (pe_call G__law_bag (hr.mono (by omega)) rfl T.d__law_bag.g T.d__law_bag.F.kp T.d__law_bag.b .nil pass0 (pa_cons (pv 0) pa_nil))) (pss_cons (ps_for PassesOwn.never rfl (pi_range1 (by rfl) T.b_range (pa_cons pe_int pa_nil)) (pg_name (i := 2) sc_law.nd rfl (Or.inl rfl)) (pss_cons (ps_set (i := 3) sc_law.nd rfl (Or.inl rfl) (pe_ifExp (pt_cmpR op_gt (pe_call G__law_take (hr.mono (by omega)) rfl T.d__law_take.g T.d__law_take.F.kp T.d__law_take.b .nil pass0 (pa_cons (pv 1) (pa_cons pe_int pa_nil))) pe_int (nomark _)) (pe_call G__law_more (hr.mono (by omega)) rfl T.d__law_more.g T.d__law_more.F.kp T.d__law_more.b .nil pass0 (pa_cons (pv 1) (pa_cons (pe_call G__law_fourth (hr.mono (by omega)) rfl T.d__law_fourth.g T.d__law_fourth.F.kp T.d__law_fourth.b .nil pass0 (pa_cons (pv 1) (pa_cons (pe_call G__law_acts (hr.mono (by omega)) rfl T.d__law_acts.g T.d__law_acts.F.kp T.d__law_acts.b .nil pass0 (pa_cons (pv 1) (pa_cons pe_int pa_nil))) pa_nil))) pa_nil))) pe_dnewK)) (pss_cons (ps_asg (pe_tup (pa_cons (pe_lst (pa_cons (pv 3) (pa_cons (pe_call G__law_near (hr.mono (by omega)) rfl T.d__law_near.g T.d__law_near.F.kp T.d__law_near.b .nil pass0 (pa_cons (pv 1) (pa_cons (pv 3) pa_nil))) pa_nil))) (pa_cons (pe_lst pa_nil) pa_nil))) (pg_tup rfl (pgs_cons (pg_name (i := 4) sc_law.nd rfl (Or.inl rfl)) (pgs_cons (pg_name (i := 5) sc_law.nd rfl (Or.inr rfl)) pgs_nil)))) (pss_cons (ps_for PassesOwn.never rfl (pi_seq (pv 4)) (pg_name (i := 6) sc_law.nd rfl (Or.inr rfl)) (pss_cons (ps_set (i := 7) sc_law.nd rfl (Or.inl rfl) (pe_callTy (r := rDictG K) (call_dictG rfl) (by rfl) T.b_dict bt_dict (pa_cons (pe_lock (pe_lc (own := [("_law_act", 8)]) (g := gName 8) (by rfl) sc_law.nd (pi_keys (pv 6)) (blkOk_by (own := [("_law_act", 8)]) (N := N_law) (sc := defScope s_law) (by decide +kernel)) (fun _ _ _ _ _ => pg_name (i := 8) sc_law.nd rfl (Or.inl rfl)) (fun _ _ _ _ _ => pts_nil) (fun _ _ _ _ _ => (pe_tup (pa_cons (pv 8) (pa_cons (pe_tup (pa_cons (pe_ix (r := rIx K) ix_seq (pe_dget hu1 (pv 6) (pv 8) (fun _ _ => rfl)) pe_int (fun _ _ => rfl)) (pa_cons (pe_callTy (r := rDictG K) (call_dictG rfl) (by rfl) T.b_dict bt_dict (pa_cons (pe_call G__law_mixed (hr.mono (by omega)) rfl T.d__law_mixed.g T.d__law_mixed.F.kp T.d__law_mixed.b .nil pass0 (pa_cons (pv 1) (pa_cons (pe_callB (r := rSortSI) (cr_sortSI rfl) (by rfl) T.b_sorted bt_sorted (pa_cons (pe_bm0C (K := K) rfl PySem.F.plainAttrs_dict PySem.F.slot_dict_items PySem.F.type_dict_items mt_itemsK (pe_ix (r := rIx K) ix_seq (pe_dget hu1 (pv 6) (pv 8) (fun _ _ => rfl)) pe_int (fun _ _ => rfl))) pa_nil)) pa_nil))) pa_nil)) pa_nil))) pa_nil)))))) pa_nil))) (pss_cons (ps_expr (pe_bm PySem.F.plainAttrs_list PySem.F.slot_list_append PySem.F.type_list_append mt_append (pv 5) (pa_cons (pe_make ⟨T.mk_World, T.d_World___init__.M.at_, T.d_World___init__.M.fn, T.k_World⟩ G_World___init__ (hr.mono (by omega)) rfl T.g_World T.d_World___init__.b .nil pass0 (pa_cons (pv 7) pa_nil)) pa_nil))) (pss_cons (ps_for PassesOwn.never rfl (pi_seq (pe_callB (r := rSortA K) (cr_sortA rfl) (by rfl) T.b_sorted bt_sorted (pa_cons (pv 7) pa_nil))) (pg_name (i := 8) sc_law.nd rfl (Or.inl rfl)) (pss_one (ps_expr (pe_dclear (pe_ix (r := rIx K) ix_seq (pe_dget hu1 (pv 7) (pv 8) (fun _ _ => rfl)) pe_int (fun _ _ => rfl)))))) (pss_one (ps_dput hu1 (pv 7) pe_str pe_non rfl)))))) (pss_cons (ps_for PassesOwn.never rfl (pi_seq (pe_tup (pa_cons pe_int (pa_cons pe_int (pa_cons pe_int (pa_cons pe_int (pa_cons pe_int pa_nil))))))) (pg_name (i := 9) sc_law.nd rfl (Or.inl rfl)) (pss_one (ps_if (pt_not (pt_val (pe_callG G__law_right hgd (hr.mono (by omega)) rfl T.d__law_right.g T.d__law_right.F.kp T.d__law_right.b .nil pass0 (pa_cons (pe_ix (r := rIx K) ix_seq (pv 5) (pv 9) (fun _ _ => rfl)) (pa_cons (pe_ix (r := rIx K) ix_seq (pv 4) (pv 9) (fun _ _ => rfl)) pa_nil))))) (pss_one (ps_ret pe_bl)) pss_nil))) (pss_cons (ps_par (i := 10) (j := 11) rfl sc_law.nd rfl rfl (by decide) rfl rfl (pa_cons (pe_cmpR (r := rEqA K) (op_eqA hu64) (pe_ix (r := rIx K) ix_seq (pv 4) pe_int (fun _ _ => rfl)) (pe_ix (r := rIx K) ix_seq (pv 4) pe_int (fun _ _ => rfl)) (nomark _)) (pa_cons (pe_call G__law_world_of (hr.mono (by omega)) rfl T.d__law_world_of.g T.d__law_world_of.F.kp T.d__law_world_of.b .nil pass0 (pa_cons (pv 1) (pa_cons (pv 3) pa_nil))) pa_nil)) rfl) (pss_cons (ps_set (i := 12) sc_law.nd rfl (Or.inl rfl) (pe_lst (pa_cons (pe_cmpR (r := rOwnG K T.C_World (sp_WorldEq K T.C_World) _) (op_ownG T.d_World___eq__.M.at_ T.d_World___eq__.M.fn (fnR_of G_World___eq__ T.d_World___eq__.b) (hr.mono (by omega)) pass0) (pe_ix (r := rIx K) ix_seq (pv 5) pe_int (fun _ _ => rfl)) (pe_ix (r := rIx K) ix_seq (pv 5) pe_int (fun _ _ => rfl)) (nomark _)) (pa_cons (pe_cmpR (r := rOwnG K T.C_World (sp_WorldEq K T.C_World) _) (op_ownG T.d_World___eq__.M.at_ T.d_World___eq__.M.fn (fnR_of G_World___eq__ T.d_World___eq__.b) (hr.mono (by omega)) pass0) (pe_ix (r := rIx K) ix_seq (pv 5) pe_int (fun _ _ => rfl)) (pe_ix (r := rIx K) ix_seq (pv 5) pe_int (fun _ _ => rfl)) (nomark _)) (pa_cons (pe_cmpR (r := rOwnG K T.C_World (sp_WorldEq K T.C_World) _) (op_ownG T.d_World___eq__.M.at_ T.d_World___eq__.M.fn (fnR_of G_World___eq__ T.d_World___eq__.b) (hr.mono (by omega)) pass0) (pe_ix (r := rIx K) ix_seq (pv 5) pe_int (fun _ _ => rfl)) (pv 11) (nomark _)) (pa_cons (pe_cmpR (r := rNeOwn K T.C_World (sp_WorldEq K T.C_World) _) (op_neOwn T.ne_World T.is_World.cm T.d_World___eq__.M.at_ T.d_World___eq__.M.fn (fnR_of G_World___eq__ T.d_World___eq__.b) (hr.mono (by omega)) pass0) (pe_ix (r := rIx K) ix_seq (pv 5) pe_int (fun _ _ => rfl)) (pe_ix (r := rIx K) ix_seq (pv 5) pe_int (fun _ _ => rfl)) (nomark _)) pa_nil)))))) (pss_cons (ps_if (pt_not (pt_val (pe_callG G__law_alike hgd (hr.mono (by omega)) rfl T.d__law_alike.g T.d__law_alike.F.kp T.d__law_alike.b .nil pass0 (pa_cons (pv 12) (pa_cons (pe_lst (pa_cons (pv 10) (pa_cons (pv 10) (pa_cons pe_bl (pa_cons (pe_not (pv 10)) pa_nil))))) pa_nil))))) (pss_one (ps_ret pe_bl)) pss_nil) (pss_one (ps_if (pt_cmpR (r := rNeNil K) (op_neNil (Nat.lt_of_le_of_lt (Nat.le_add_right _ 65) hu65)) (pe_lc (own := [("_law_other", 13)]) (g := gName 13) (by rfl) sc_law.nd (pi_seq (pe_tup (pa_cons pe_non (pa_cons (pv 3) (pa_cons (pe_tup pa_nil) (pa_cons pe_str (pa_cons pe_int pa_nil))))))) (blkOk_by (own := [("_law_other", 13)]) (N := N_law) (sc := defScope s_law) (by decide +kernel)) (fun _ _ _ _ _ => pg_name (i := 13) sc_law.nd rfl (Or.inl rfl)) (fun _ _ _ _ _ => (pts_one (PW.pt (pw_or (pt_cmpR (r := rOwnG K T.C_World (sp_WorldEq K T.C_World) _) (op_ownG T.d_World___eq__.M.at_ T.d_World___eq__.M.fn (fnR_of G_World___eq__ T.d_World___eq__.b) (hr.mono (by omega)) pass0) (pe_ix (r := rIx K) ix_seq (pv 5) pe_int (fun _ _ => rfl)) (pv 13) (nomark _)) (pw_or1 (pt_not (pt_cmpR (r := rNeOwn K T.C_World (sp_WorldEq K T.C_World) _) (op_neOwn T.ne_World T.is_World.cm T.d_World___eq__.M.at_ T.d_World___eq__.M.fn (fnR_of G_World___eq__ T.d_World___eq__.b) (hr.mono (by omega)) pass0) (pe_ix (r := rIx K) ix_seq (pv 5) pe_int (fun _ _ => rfl)) (pv 13) (nomark _)))))))) (fun _ _ _ _ _ => pe_int)) (pe_lst pa_nil) (nomark _)) (pss_one (ps_ret pe_bl)) pss_nil)))))))))) (pss_one (ps_ret pe_bl)))), ?_⟩
    refine ⟨.ref a, rfl, a, sns, rfl, hS, hl63, fun H1 b m1 nb hB1 => ?_⟩
    refine ⟨4, rfl, by decide, by decide, ?_⟩
    refine for_range (lo := 0) (n := (4 : Int).toNat) (fun i σ H3 => ∃ (y2 y3 y4 y5 y6 y7 y8 y9 y10 y11 y12 : Option V), σ = [some (.ref a), some (.ref b), y2, y3, y4, y5, y6, y7, y8, y9, y10, y11, y12, none] ∧ Bag H3 b)
      ⟨_, _, _, _, _, _, _, _, _, _, _, rfl, hB1⟩ (fun i σ H3 hi h3 => ?_) (fun σ H3 h3 => q H3)
    obtain ⟨y2, y3, y4, y5, y6, y7, y8, y9, y10, y11, y12, rfl, hB3⟩ := h3
    -- acts
    refine asg_mid (fun v H4 => ∃ d zs, v = .ref d ∧ ActsAt K H4 d zs ∧ (∀ z ∈ zs, z.r.ok) ∧ zs.length ≤ 4 ∧ Bag H4 b) (fun Q' qq => ?_) (fun v H4 h4 => ?_)
    · refine ⟨.ref b, rfl, b, 8, rfl, hB3, by decide, by decide, fun n H4 n0 n1 d4 => ?_⟩
      have hB4 := d4.bag hB3
      refine ⟨_, _, rfl, rfl, _, rfl, ?_⟩
      refine ite2 (fun e => ?_) (fun e => ?_)
      · refine ⟨.ref b, rfl, .ref b, rfl, .ref b, rfl, b, 2, rfl, hB4, by decide, by decide, fun d zs H5 nd hA5 hD hz1 ht hz3 d5 => ?_⟩
        have hB5 := d5.bag hB4
        refine ⟨b, d, zs, rfl, hB5, hA5, fun z hz => ⟨hD.ok _ (List.mem_map.mpr ⟨z, hz, rfl⟩), ht z hz⟩, hz3, fun d' zs' H6 hA6 hk6 hl6 d6 => ?_⟩
        have hB6 := d6.bag hB5
        refine ⟨b, d', zs', rfl, hB6, hA6, hk6, by omega, fun d2 zs2 H7 hO7 _ _ hk7 hl7 d7 => ?_⟩
        exact qq _ _ ⟨d2, zs2, rfl, hO7.at_, hk7, by omega, d7.bag hB6⟩
      · refine fun p np => qq _ _ ⟨p, [], rfl, ⟨upd_same, by simp, by simp, by simp, by simp⟩, by simp, by simp, hB4.mv (.new np)⟩
    obtain ⟨d0, zs0, rfl, hA4, hk0, hl0, hB4⟩ := h4
    -- sides
    refine ⟨.ref d0, rfl, .ref b, rfl, .ref d0, rfl, b, d0, zs0, rfl, hB4, hA4, hk0, hl0, fun d1 zs1 H5 hA15 hk1 hl1 d45 => ?_⟩
    have hB5 := d45.bag hB4
    have hA05 := hA4.dr d45 hB4
    refine ⟨(by decide : 2 ≤ sizeLine), fun sl nsl => ?_⟩
    have esl : upd H5 sl (.lst [.ref d0, .ref d1]) sl = some (.lst [.ref d0, .ref d1]) := upd_same
    have ms : Mv [] H5 (upd H5 sl (.lst [.ref d0, .ref d1])) := .new nsl
    generalize upd H5 sl (.lst [.ref d0, .ref d1]) = H6 at esl ms ⊢
    refine ⟨(by decide : 0 ≤ sizeLine), fun wl nwl => ?_⟩
    have ewl : upd H6 wl (.lst []) wl = some (.lst []) := upd_same
    have mw : Mv [] H6 (upd H6 wl (.lst [])) := .new nwl
    have nwl5 : H5 wl = none := ms.free nwl
    generalize upd H6 wl (.lst []) = H7 at ewl mw ⊢
    refine ⟨(by decide : 2 ≤ sizeLine), fun tp ntp => ?_⟩
    have mt : Mv [] H7 (upd H7 tp (.tup [.ref sl, .ref wl])) := .new ntp
    have et : SqT K (upd H7 tp (.tup [.ref sl, .ref wl])) tp [.ref sl, .ref wl] := .inl (.inl upd_same)
    generalize upd H7 tp (.tup [.ref sl, .ref wl]) = H8 at mt et ⊢
    refine ⟨tp, _, rfl, et, rfl, _, _, rfl, _, _, rfl, rfl, ?_⟩
    have m58 := ms.trans (mw.trans mt)
    have esl8 := (mw.trans mt).same _ _ esl
    have ewl8 := mt.same _ _ ewl
    have nebs : sl ≠ b := hB5.fneq nsl
    have nebw : wl ≠ b := hB5.fneq nwl5
    have nesw : sl ≠ wl := ne_of_none esl nwl
    obtain ⟨sds, hsds⟩ : ∃ sds : List (Addr × List ActA), sds = [(d0, zs0), (d1, zs1)] := ⟨_, rfl⟩
    have hsv : ([.ref d0, .ref d1] : List V) = sds.map fun p => V.ref p.1 := by rw [hsds]; rfl
    have hsdA : ∀ p ∈ sds, ActsAt K H5 p.1 p.2 ∧ (∀ z ∈ p.2, z.r.ok) ∧ p.2.length ≤ 4 := by
      rw [hsds]
      intro p hp
      rcases List.mem_cons.mp hp with rfl | hp
      · exact ⟨hA05, hk0, hl0⟩
      · rw [List.mem_singleton] at hp
        subst hp
        exact ⟨hA15, hk1, hl1⟩
    have hsl2 : sds.length = 2 := by rw [hsds]; rfl
    rw [hsv] at esl8
    refine ⟨.ref sl, rfl, sl, rfl, Or.inl ⟨⟨_, .inl (.inl esl8)⟩, ?_⟩⟩
    refine for_list (K := K) (a := sl) (xs := sds.map fun p => V.ref p.1) (fun i σ H9 => ∃ (ws : List Addr) (y2 y6 y7 y8 : Option V), σ = [some (.ref a), some (.ref b), y2, some (.ref d0), some (.ref sl), some (.ref wl), y6, y7, y8, y9, y10, y11, y12, none] ∧
        H9 sl = some (.lst (sds.map fun p => V.ref p.1)) ∧ H9 wl = some (.lst (ws.map V.ref)) ∧ ws.length = i ∧ (∀ (j : Nat) (x : Addr) (p : Addr × List ActA), ws[j]? = some x → sds[j]? = some p → WldAt K H9 T.C_World x (normW (p.2.map (·.r)))) ∧ Dr b H5 H9)
      ⟨[], _, _, _, _, rfl, esl8, ewl8, rfl, by simp, .of m58⟩ (fun i σ H9 _ h9 => ?_) (fun i x σ H9 hx h9 => ?_) (fun σ H9 h9 => ?_)
    · obtain ⟨_, _, _, _, _, _, e9, _⟩ := h9
      exact .inl (.inl e9)
    · obtain ⟨ws, y2, y6, y7, y8, rfl, esl9, ewl9, lw9, hW9, d59⟩ := h9
      rw [List.getElem?_map] at hx
      obtain ⟨⟨ds, zss⟩, hsd, rfl⟩ := Option.map_eq_some_iff.mp hx
      obtain ⟨hA5, hks, hls⟩ := hsdA _ (List.mem_of_getElem? hsd)
      simp only at hA5 hks hls
      have hil : i < 2 := by rw [← hsl2]; exact (List.getElem?_eq_some_iff.mp hsd).1
      have hA9 := hA5.dr d59 hB5
      have hB9 := d59.bag hB5
      have hd := hA9.at_
      refine ⟨ds, _, hd, trivial, fun od => ?_⟩
      have e0 : upd H9 ds (.frz od (.dK (zss.map ActA.kv))) ds = some (.frz od (.dK (zss.map ActA.kv))) := upd_same
      have lk0 : Mv [ds] H9 (upd H9 ds (.frz od (.dK (zss.map ActA.kv)))) := Mv.lock hd (fun _ z => by cases z) (fun _ _ z => by cases z)
      have un : ∀ H', Dr b (upd H9 ds (.frz od (.dK (zss.map ActA.kv)))) H' → Dr b H9 (upd H' ds (.dK (zss.map ActA.kv))) := fun H' m => Dr.unlock hd hB9 m
      have hBL : Bag (upd H9 ds (.frz od (.dK (zss.map ActA.kv)))) b := hB9.upd (.inl hd)
      have fr0 : ∀ p, upd H9 ds (.frz od (.dK (zss.map ActA.kv))) p = none → H9 p = none := fun p np => by
        by_cases e : p = ds
        · rw [e, upd_same] at np
          cases np
        · rwa [upd_ne e] at np
      generalize upd H9 ds (.frz od (.dK (zss.map ActA.kv))) = HL at e0 un lk0 fr0 hBL ⊢
      have tupL : ∀ z ∈ zss, SqT K HL z.a [.int z.r.ar, .ref z.o] := fun z hz => lk0.sqT (hA9.tup z hz)
      have outL : ∀ z ∈ zss, HL z.o = some (.dK (z.r.outs.map rowK)) := fun z hz => lk0.keep _ _ (by simpa using hA9.o_ne hz) (hA9.out z hz)
      have ndb : ds ≠ b := by
        rintro rfl
        obtain ⟨xs, e⟩ := hBL.lst
        rw [e0] at e
        cases e
      refine ⟨.ref ds, rfl, ds, od, rfl, Or.inl ⟨_, e0, fun D nD => ?_⟩⟩
      have hDd : D ≠ ds := by
        rintro rfl
        rw [e0] at nD
        cases nD
      have hDb : D ≠ b := hBL.fneq nD
      refine lc_it walk_keys (fun i H2 => ∃ tw : List (Addr × ActA), H2 D = some (.lst ((tw.map (·.1)).map V.ref)) ∧ RowsAt K H2 tw ∧ tw.map (·.2.r.norm) = (zss.take i).map (·.r.norm) ∧ (∀ z ∈ tw, z.2.r.ok) ∧ (∀ z ∈ tw, HL z.2.o = none ∧ z.2.o ≠ D) ∧ Dr b HL H2)
        ⟨[], upd_same, ⟨by simp, by simp, by simp, by simp⟩, by simp, by simp, by simp, .new nD⟩ (fun i H2 _ h2 => h2.choose_spec.2.2.2.2.2.get ndb e0) (fun i y H2 H3 hi h2 yy => ?_) (fun H2 h2 => ?_)
      · obtain ⟨tw, e2, hR2, n2, k2, f2, m2⟩ := h2
        obtain ⟨rfl, k, v, hk, rfl⟩ := yy
        rw [List.getElem?_map] at hk
        obtain ⟨z, hz, hk⟩ := Option.map_eq_some_iff.mp hk
        obtain ⟨rfl, rfl⟩ := Prod.mk.inj hk
        have hzm := List.mem_of_getElem? hz
        have hil' := (List.getElem?_eq_some_iff.mp hz).1
        have hB3 := m2.bag hBL
        have dg : DGet H3 ds (.str z.r.nm) (some (.ref z.a)) := Or.inl ⟨_, .inr z.r.nm, .inr ⟨od, m2.get ndb e0⟩, rfl, (hA9.val hzm).symm⟩
        have tz := m2.mv.sqT (tupL z hzm)
        have oz : H3 z.o = some (.dK (z.r.outs.map rowK)) := m2.getK hBL (outL z hzm) (fun _ z => by cases z)
        refine ⟨rfl, .str z.r.nm, rfl, .ref ds, rfl, .str z.r.nm, rfl, ds, .ref z.a, rfl, dg, rd_ixT tz (by decide) (v := .int z.r.ar) rfl ?_⟩
        refine ⟨.ref b, rfl, .ref ds, rfl, .str z.r.nm, rfl, ds, .ref z.a, rfl, dg, rd_ixT tz (by decide) (v := .ref z.o) rfl ?_⟩
        refine ⟨.inr (.inr (.inl ⟨rfl, .inl ⟨_, oz⟩⟩)), z.o, _, rfl, rfl, oz, fun p8 np8 => ?_⟩
        have hzo : z.o ≠ p8 := ne_of_none oz np8
        refine ⟨p8, z.o, z.r.outs, rfl, upd_same, by rw [upd_ne hzo]; exact oz, fun H9' l9 ps k9 nl9 hpm hpw hl9 hps => ?_⟩
        have m39 : Mv [] H3 H9' := (Mv.new np8).trans (.of_same k9)
        have d39 : Dr b H3 H9' := .of m39
        have hB9' := d39.bag hB3
        have nl9H : H3 l9 = none := (Mv.new (S := []) np8).free nl9
        have hl9b : l9 ≠ b := hB3.fneq nl9H
        have hpl : ps.length = z.r.outs.length := by
          have := hpm.length_eq
          rwa [List.length_map] at this
        have ho6 := (hks z hzm).o6
        refine ⟨b, l9, _, rfl, hB9', .inl ⟨hl9, hl9b⟩, by rw [List.length_map]; omega, fun pm ms H10 hms npm e10 d10 => ?_⟩
        obtain ⟨ps', hps', rfl⟩ := perm_lift (f := fun z : Addr × Str × Int => V.ref z.1) hms
        have hps10 : ∀ y ∈ ps', SqT K H10 y.1 [.str y.2.1, .int y.2.2] := fun y hy => d10.mv.sqT (.inl (.inl (hps y (hps'.mem_iff.mp hy))))
        have hq : (ps'.map (·.2)).Perm z.r.outs := (hps'.map _).trans hpm
        have hqn : ((ps'.map (·.2)).map (·.1)).Nodup := ((hq.map _).nodup_iff).mpr (hA9.ond z hzm)
        refine Or.inl ⟨pm, ps'.map (·.1), (ps'.map (·.2)).map rowK, rfl, .inl (.inl (by rw [e10, List.map_map]; rfl)), paired_rows2 ps' hps10, fun p11 np11 => ?_⟩
        rw [mergeK_nd _ _ (by rw [List.nil_append, row_keys]; exact nd_inr hqn), List.nil_append]
        have d310 := d39.trans d10
        have nL11 : HL p11 = none := (m2.trans d310).free hBL np11
        have hoD : p11 ≠ D := by
          rintro rfl
          rw [d310.get hDb e2] at np11
          cases np11
        have d311 : Dr b H3 (upd H10 p11 (.dK ((ps'.map (·.2)).map rowK))) := d310.trans (.new np11)
        have e11 : upd H10 p11 (.dK ((ps'.map (·.2)).map rowK)) p11 = some (.dK ((ps'.map (·.2)).map rowK)) := upd_same
        generalize upd H10 p11 (.dK ((ps'.map (·.2)).map rowK)) = H11 at d311 e11 ⊢
        refine ⟨(by decide : 2 ≤ sizeLine), fun p12 np12 => ?_⟩
        have m12 : Mv [] H11 (upd H11 p12 (.tup [.int z.r.ar, .ref p11])) := .new np12
        have e12' : SqT K (upd H11 p12 (.tup [.int z.r.ar, .ref p11])) p12 [.int z.r.ar, .ref p11] := .inl (.inl upd_same)
        generalize upd H11 p12 (.tup [.int z.r.ar, .ref p11]) = H12 at m12 e12' ⊢
        refine ⟨(by decide : 2 ≤ sizeLine), fun p13 np13 => ?_⟩
        have m13 : Mv [] H12 (upd H12 p13 (.tup [.str z.r.nm, .ref p12])) := .new np13
        have e13 : SqT K (upd H12 p13 (.tup [.str z.r.nm, .ref p12])) p13 [.str z.r.nm, .ref p12] := .inl (.inl upd_same)
        generalize upd H12 p13 (.tup [.str z.r.nm, .ref p12]) = H13 at m13 e13 ⊢
        have d313 : Dr b H3 H13 := d311.trans (.of (m12.trans m13))
        have el13 := d313.get hDb e2
        have hnl := congrArg List.length n2
        rw [List.length_map, List.length_map, List.length_take] at hnl
        have hw : Mv [D] H13 (upd H13 D (.lst ((tw.map (·.1)).map V.ref ++ [.ref p13]))) := .set el13 (by simp)
        refine ⟨_, el13, ?_, tw ++ [(p13, ⟨⟨z.r.nm, z.r.ar, ps'.map (·.2)⟩, p12, p11⟩)], ?_, ?_, ?_, ?_, ?_, (m2.trans d313).wr nD⟩
        · rw [List.length_map, List.length_map]
          exact Nat.lt_of_le_of_lt (show tw.length ≤ 1000 by omega) (by decide)
        · rw [upd_same]
          simp
        · have hR13 := (hR2.dr d313 hB3).lst (H' := H) (o := .lst ((tw.map (·.1)).map V.ref ++ [.ref p13])) el13
          have e1113 := m13.same _ _ (m12.same _ _ e11)
          refine ⟨fun y hy => ?_, fun y hy => ?_, fun y hy => ?_, fun y hy => ?_⟩
          all_goals
            rcases List.mem_append.mp hy with hy | hy
          · exact hR13.row y hy
          · rw [List.mem_singleton] at hy
            subst hy
            exact hw.sqT e13
          · exact hR13.tup y hy
          · rw [List.mem_singleton] at hy
            subst hy
            exact hw.sqT (m13.sqT e12')
          · exact hR13.out y hy
          · rw [List.mem_singleton] at hy
            subst hy
            exact hw.keep _ _ (by simp; rintro rfl; rw [el13] at e1113; cases e1113) e1113
          · exact hR13.ond y hy
          · rw [List.mem_singleton] at hy
            subst hy
            exact hqn
        · rw [List.map_append, n2, List.take_add_one, hz, List.map_append]
          congr 1
          show [ActR.norm _] = [z.r.norm]
          rw [norm_outs (r := ⟨z.r.nm, z.r.ar, ps'.map (·.2)⟩) (q := z.r) rfl rfl (hA9.ond z hzm) hq]
        · intro y hy
          rcases List.mem_append.mp hy with hy | hy
          · exact k2 y hy
          · rw [List.mem_singleton] at hy
            subst hy
            have hz' := hks z hzm
            have hql := hq.length_eq
            exact ⟨hz'.nm, hz'.ar0, hz'.ar2, by show 1 ≤ (ps'.map (·.2)).length; rw [hql]; exact hz'.o1, by show (ps'.map (·.2)).length ≤ 6; rw [hql]; exact hz'.o6, fun e he => hz'.on e (hq.mem_iff.mp he)⟩
        · intro y hy
          rcases List.mem_append.mp hy with hy | hy
          · exact f2 y hy
          · rw [List.mem_singleton] at hy
            subst hy
            exact ⟨nL11, hoD⟩
      obtain ⟨tw, e2, hR2, n2, k2, f2, m2⟩ := h2
      rw [List.length_map, List.take_length] at n2
      have e02 := m2.get ndb e0
      refine ⟨e02, ?_⟩
      have m3 := un H2 m2
      have oD : ∀ z ∈ tw, z.2.o ≠ ds := fun z hz e => by
        have := (f2 z hz).1
        rw [e, e0] at this
        cases this
      have hR3 : RowsAt K (upd H2 ds (.dK (zss.map ActA.kv))) tw := hR2.put e02 (fun _ z => by cases z) (fun _ _ z => by cases z) oD
      have e3 : upd H2 ds (.dK (zss.map ActA.kv)) D = some (.lst ((tw.map (·.1)).map V.ref)) := by
        rw [upd_ne hDd]
        exact e2
      generalize upd H2 ds (.dK (zss.map ActA.kv)) = H3' at m3 hR3 e3 ⊢
      have ntw : ((tw.map (·.2)).map (·.r.norm)) = zss.map (·.r.norm) := by rw [List.map_map]; exact n2
      have nmt : ((tw.map (·.2)).map (·.r.nm)).Nodup := by
        have : (tw.map (·.2)).map (·.r.nm) = zss.map (·.r.nm) := by
          have h1 := congrArg (List.map ActR.nm) ntw
          rw [List.map_map (f := fun z : ActA => z.r.norm), List.map_map (f := fun z : ActA => z.r.norm)] at h1
          exact h1
        rw [this]
        exact hA9.nd
      refine Or.inl ⟨D, tw.map (·.1), (tw.map (·.2)).map ActA.kv, rfl, .inl (.inl e3), paired_acts tw hR3.row, fun d' nd' => ?_⟩
      rw [mergeK_nd _ _ (by rw [List.nil_append, kv_keys]; exact nd_inr nmt), List.nil_append]
      have nd0 : H9 d' = none := m3.free hB9 nd'
      have m4 : Dr b H9 (upd H3' d' (.dK ((tw.map (·.2)).map ActA.kv))) := m3.trans (.new nd')
      have hO : ActsAt K (upd H3' d' (.dK ((tw.map (·.2)).map ActA.kv))) d' (tw.map (·.2)) := by
        have mm : Mv [] H3' (upd H3' d' (.dK ((tw.map (·.2)).map ActA.kv))) := .new nd'
        refine ⟨upd_same, nmt, fun z hz => ?_, fun z hz => ?_, fun z hz => ?_⟩
        all_goals obtain ⟨y, hy, rfl⟩ := List.mem_map.mp hz
        · exact mm.sqT (hR3.tup y hy)
        · exact mm.same _ _ (hR3.out y hy)
        · exact hR3.ond y hy
      have fo : ∀ z ∈ tw.map (·.2), H9 z.o = none := fun z hz => by
        obtain ⟨y, hy, rfl⟩ := List.mem_map.mp hz
        exact fr0 _ (f2 y hy).1
      have hkH : ∀ z ∈ tw.map (·.2), z.r.ok := fun z hz => by
        obtain ⟨y, hy, rfl⟩ := List.mem_map.mp hz
        exact k2 y hy
      generalize tw.map (·.2) = zsH at ntw nmt hO fo m4 hkH ⊢
      generalize upd H3' d' (.dK (zsH.map ActA.kv)) = H4' at m4 hO ⊢
      have hlH : zsH.length ≤ 4 := by
        have := congrArg List.length ntw
        rw [List.length_map, List.length_map] at this
        omega
      have nrm : normW (zsH.map (·.r)) = normW (zss.map (·.r)) := by
        unfold normW
        rw [List.map_map, List.map_map]
        exact congrArg _ ntw
      have ewl4 := m4.get nebw ewl9
      have esl4 := m4.get nebs esl9
      refine ⟨.ref wl, rfl, .inl ⟨rfl, _, .inl (.inl ewl4)⟩, .ref d', rfl, fun x dx nx ndx hne => ⟨x, dx, d', zsH, H4', rfl, rfl, nx, ndx, hne, hO, hkH, by omega, fun H6' m6 hW6 => ⟨rfl, ?_⟩⟩⟩
      rw [nrm] at hW6
      have ewl6 := m6.same _ _ ewl4
      refine ⟨wl, _, _, rfl, rfl, ewl6, ?_, ?_⟩
      · rw [List.length_map, lw9]
        exact Nat.lt_of_le_of_lt (show i ≤ 100 by omega) (by decide)
      have d96 : Dr b H9 H6' := m4.trans (.of m6)
      have mA : Mv [wl] H6' (upd H6' wl (.lst (ws.map V.ref ++ [.ref x]))) := .set ewl6 (by simp)
      have d5A : Dr b H5 (upd H6' wl (.lst (ws.map V.ref ++ [.ref x]))) := (d59.trans d96).wr nwl5
      have ewlA : upd H6' wl (.lst (ws.map V.ref ++ [.ref x])) wl = some (.lst (ws.map V.ref ++ [.ref x])) := upd_same
      generalize upd H6' wl (.lst (ws.map V.ref ++ [.ref x])) = HA at mA d5A ewlA ⊢
      have keepA : ∀ p o, H6' p = some o → (∀ xs, o ≠ .lst xs) → HA p = some o := fun p o e hn => mA.keep p o (by simp; rintro rfl; rw [ewl6] at e; exact hn _ (Option.some.inj e).symm) e
      have eslA : HA sl = some (.lst (sds.map fun p => V.ref p.1)) := mA.keep _ _ (by simpa using nesw) (m6.same _ _ esl4)
      have hO6 := hO.mv m6
      have hOA : ActsAt K HA d' zsH := ⟨keepA _ _ hO6.at_ (fun _ z => by cases z), hO6.nd, fun z hz => mA.sqT (hO6.tup z hz), fun z hz => keepA _ _ (hO6.out z hz) (fun _ z => by cases z), hO6.ond⟩
      -- the dicts that are emptied
      obtain ⟨S, hSd⟩ : ∃ S : List Addr, S = d' :: zsH.map (·.o) := ⟨_, rfl⟩
      have hS4 : ∀ p ∈ S, (∃ kvs, H4' p = some (.dK kvs)) ∧ H9 p = none := fun p hp => by
        rw [hSd] at hp
        rcases List.mem_cons.mp hp with rfl | hp
        · exact ⟨⟨_, hO.at_⟩, nd0⟩
        · obtain ⟨z, hz, rfl⟩ := List.mem_map.mp hp
          exact ⟨⟨_, hO.out z hz⟩, fo z hz⟩
      have hSA : ∀ p ∈ S, ∃ kvs, HA p = some (.dK kvs) := fun p hp => by
        obtain ⟨⟨kvs, e⟩, _⟩ := hS4 p hp
        exact ⟨kvs, keepA _ _ (m6.same _ _ e) (fun _ z => by cases z)⟩
      have sltA : ∀ {x C dx vs}, Slt H6' x C dx vs → Slt HA x C dx vs := fun {x C dx vs} h => h.imp (fun h => ⟨keepA _ _ h.1 (fun _ z => by cases z), h.2⟩) fun h => ⟨keepA _ _ h.1 slO_nolst, keepA _ _ h.2 (fun _ z => by cases z)⟩
      have actA : ∀ {d zs}, ActsAt K H6' d zs → ActsAt K HA d zs := fun {d zs} h => ⟨keepA _ _ h.at_ (fun _ z => by cases z), h.nd, fun z hz => mA.sqT (h.tup z hz), fun z hz => keepA _ _ (h.out z hz) (fun _ z => by cases z), h.ond⟩
      have hWs : ∀ H', Mv S HA H' → ∀ (j : Nat) (y : Addr) (p : Addr × List ActA), (ws ++ [x])[j]? = some y → sds[j]? = some p → WldAt K H' T.C_World y (normW (p.2.map (·.r))) := fun H' mS j y p hy hp => by
        by_cases hj : j < ws.length
        · rw [List.getElem?_append_left hj] at hy
          obtain ⟨dw, ew, zw, hs, hAw, e⟩ := hW9 j y p hy hp
          rw [← e]
          refine WldAt.mvS (sltA (Slt.mv (Slt.dr hs m4 hB9) m6)) (actA ((hAw.dr m4 hB9).mv m6)) mS hSA (fun h => ?_) (fun z hz h => ?_)
          · have := (hS4 _ h).2
            rw [hAw.at_] at this
            cases this
          · have := (hS4 _ h).2
            rw [hAw.out z hz] at this
            cases this
        · have hj' : j = ws.length := by
            have := (List.getElem?_eq_some_iff.mp hy).1
            rw [List.length_append] at this
            have : j < ws.length + 1 := this
            omega
          subst hj'
          rw [List.getElem?_append_right (Nat.le_refl _), Nat.sub_self] at hy
          obtain rfl : x = y := Option.some.inj hy
          rw [lw9, hsd] at hp
          obtain rfl := Option.some.inj hp
          obtain ⟨dw, ew, zw, hs, hAw, e, fd, fz⟩ := hW6
          rw [← e]
          refine WldAt.mvS (sltA hs) (actA hAw) mS hSA (fun h => ?_) (fun z hz h => ?_)
          · obtain ⟨⟨kvs, e⟩, _⟩ := hS4 _ h
            rw [fd] at e
            cases e
          · obtain ⟨⟨kvs, e⟩, _⟩ := hS4 _ h
            rw [fz z hz] at e
            cases e
      have lH : (zsH.map (·.r.nm)).length < 64 := by rw [List.length_map]; omega
      refine ⟨.ref d', rfl, Or.inl ⟨d', _, zsH.map (·.r.nm), rfl, .inl hOA.at_, kv_keys zsH, lH, fun ys p hp hs np => ⟨p, rfl, ?_⟩⟩⟩
      have eB : upd HA p (.lst (ys.map V.str)) p = some (.lst (ys.map V.str)) := upd_same
      have mB : Mv [] HA (upd HA p (.lst (ys.map V.str))) := .new np
      generalize upd HA p (.lst (ys.map V.str)) = HB at eB mB ⊢
      have free5 : ∀ p ∈ S, H5 p = none := fun p hp => d59.free hB5 (hS4 p hp).2
      refine Or.inl ⟨⟨_, .inl (.inl eB)⟩, ?_⟩
      refine for_list (K := K) (a := p) (xs := ys.map V.str) (fun i σ HC => ∃ (y8 : Option V), σ = [some (.ref a), some (.ref b), y2, some (.ref d0), some (.ref sl), some (.ref wl), some (.ref ds), some (.ref d'), y8, y9, y10, y11, y12, none] ∧
          HC p = some (.lst (ys.map V.str)) ∧ HC d' = some (.dK (zsH.map ActA.kv)) ∧ (∀ z ∈ zsH, ∃ kvs, HC z.o = some (.dK kvs)) ∧ Mv S HA HC ∧ Dr b H5 HC)
        ⟨_, rfl, eB, mB.same _ _ hOA.at_, fun z hz => ⟨_, mB.same _ _ (hOA.out z hz)⟩, mB.mono (by simp), d5A.trans (.of mB)⟩ (fun i σ HC _ hC => ?_) (fun i y σ HC hy hC => ?_) (fun σ HC hC => ?_)
      · obtain ⟨_, _, e, _⟩ := hC
        exact .inl (.inl e)
      · obtain ⟨y8', rfl, epC, edC, ezC, mSC, d5C⟩ := hC
        rw [List.getElem?_map] at hy
        obtain ⟨nm, hnm, rfl⟩ := Option.map_eq_some_iff.mp hy
        obtain ⟨z, hz, rfl⟩ := List.mem_map.mp (hp.mem_iff.mp (List.mem_of_getElem? hnm))
        obtain ⟨kvs, ez⟩ := ezC z hz
        refine ⟨.ref d', rfl, .str z.r.nm, rfl, d', .ref z.a, rfl, Or.inl ⟨_, .inr z.r.nm, .inl edC, rfl, (hOA.val hz).symm⟩, rd_ixT (mSC.sqT (hOA.tup z hz)) (by decide) (v := .ref z.o) rfl ?_⟩
        refine ⟨.inr (.inr (.inl ⟨rfl, .inl ⟨_, ez⟩⟩)), z.o, kvs, rfl, rfl, ez, ?_⟩
        have hzS : z.o ∈ S := by rw [hSd]; exact List.mem_cons_of_mem _ (List.mem_map.mpr ⟨z, hz, rfl⟩)
        refine ⟨_, rfl, ?_, ?_, fun u hu => ?_, mSC.trans ((Mv.putD ez).mono (by simpa using hzS)), d5C.wr (free5 _ hzS)⟩
        · rw [upd_ne (by rintro rfl; rw [epC] at ez; cases ez)]
          exact epC
        · rw [upd_ne (hOA.o_ne hz).symm]
          exact edC
        · by_cases e : u.o = z.o
          · exact ⟨[], by rw [e, upd_same]⟩
          · obtain ⟨kvs', eu⟩ := ezC u hu
            exact ⟨kvs', by rw [upd_ne e]; exact eu⟩
      obtain ⟨y8', rfl, epC, edC, ezC, mSC, d5C⟩ := hC
      have hdS : d' ∈ S := by rw [hSd]; exact List.mem_cons_self
      refine ⟨.ref d', rfl, d', _, rfl, Or.inl ⟨_, .inr (Str.ofString "zz"), edC, rfl, ?_, rfl⟩, ?_⟩
      · rw [List.length_map]
        exact Nat.lt_of_le_of_lt (show zsH.length ≤ 100 by omega) (by decide)
      have mSE := mSC.trans ((Mv.putD (o := .dK (putK (zsH.map ActA.kv) (.inr (Str.ofString "zz")) .non)) edC).mono (T := S) (by simpa using hdS))
      have nS : ∀ q xs, HA q = some (.lst xs) → q ∉ S := fun q xs e h => by
        obtain ⟨kvs, e'⟩ := hSA q h
        rw [e] at e'
        cases e'
      refine ⟨ws ++ [x], _, _, _, _, rfl, mSE.keep _ _ (nS _ _ eslA) eslA, ?_, by rw [List.length_append, lw9]; rfl, hWs _ mSE, d5C.wr (free5 _ hdS)⟩
      rw [mSE.keep _ _ (nS _ _ ewlA) ewlA, List.map_append]
      rfl
    obtain ⟨ws, y2, y6, y7, y8, rfl, esl9, ewl9, lw9, hW9, d59⟩ := h9
    have hwl2 : ws.length = 2 := by rw [lw9, List.length_map, hsl2]
    obtain ⟨x0, x1, rfl⟩ : ∃ x0 x1, ws = [x0, x1] := by
      match ws, hwl2 with
      | [x0, x1], _ => exact ⟨x0, x1, rfl⟩
    have hW0 := hW9 0 x0 (d0, zs0) rfl (by rw [hsds]; rfl)
    have hW1 := hW9 1 x1 (d1, zs1) rfl (by rw [hsds]; rfl)
    simp only at hW0 hW1
    rw [← hsv] at esl9
    have hA0 := hA05.dr d59 hB5
    have hA1 := hA15.dr d59 hB5
    have hB9 := d59.bag hB5
    clear hW9 hsdA hsl2 hsv hsds esl8 ewl8 m58
    refine ⟨(by decide : 5 ≤ sizeLine), fun tp2 ntp2 => ?_⟩
    have et2 : SqT K (upd H9 tp2 (.tup [.int 0, .int 1, .int 0, .int 1, .int 0])) tp2 ([0, 1, 0, 1, 0].map V.int) := .inl (.inl upd_same)
    have mt2 : Mv [] H9 (upd H9 tp2 (.tup [.int 0, .int 1, .int 0, .int 1, .int 0])) := .new ntp2
    generalize upd H9 tp2 (.tup [.int 0, .int 1, .int 0, .int 1, .int 0]) = H10 at et2 mt2 ⊢
    refine ⟨tp2, rfl, ?_⟩
    refine for_seq (xs := [0, 1, 0, 1, 0].map V.int) (.inr et2) (fun i σ H11 => ∃ (y9 : Option V), σ = [some (.ref a), some (.ref b), y2, some (.ref d0), some (.ref sl), some (.ref wl), y6, y7, y8, y9, y10, y11, y12, none] ∧ Mv [] H10 H11)
      ⟨_, rfl, .refl⟩ (fun i σ H11 h11 => h11.choose_spec.2) (fun i x σ H11 hx h11 => ?_) (fun σ H11 h11 => ?_)
    · obtain ⟨y9', rfl, m11⟩ := h11
      rw [List.getElem?_map] at hx
      obtain ⟨k, hk, rfl⟩ := Option.map_eq_some_iff.mp hx
      have hk01 : k = 0 ∨ k = 1 := by
        have := List.mem_of_getElem? hk
        simp only [List.mem_cons, List.not_mem_nil, or_false] at this
        omega
      have m911 := mt2.trans m11
      obtain ⟨x, d, zs, hW, hA, hkz, hlz, e1, e2⟩ : ∃ x d zs, WldAt K H9 T.C_World x (normW (zs.map (·.r))) ∧ ActsAt K H9 d zs ∧ (∀ z ∈ zs, z.r.ok) ∧ zs.length ≤ 4 ∧ ([.ref x0, .ref x1] : List V)[k.toNat]? = some (.ref x) ∧ ([.ref d0, .ref d1] : List V)[k.toNat]? = some (.ref d) := by
        rcases hk01 with rfl | rfl
        · exact ⟨x0, d0, zs0, hW0, hA0, hk0, hl0, rfl, rfl⟩
        · exact ⟨x1, d1, zs1, hW1, hA1, hk1, hl1, rfl, rfl⟩
      refine ⟨.ref wl, rfl, .int k, rfl, rd_ixL (.inl (.inl (m911.same _ _ ewl9))) (by omega) (v := .ref x) e1 ?_⟩
      refine ⟨.ref sl, rfl, .int k, rfl, rd_ixL (.inl (.inl (m911.same _ _ esl9))) (by omega) (v := .ref d) e2 ?_⟩
      exact ⟨x, d, zs, rfl, hW.mv m911, hA.mv m911, hkz, by omega, fun H12 m12 => ⟨_, rfl, ⟨_, rfl, m11.trans m12⟩⟩⟩
    obtain ⟨y9', rfl, m11⟩ := h11
    have m911 := mt2.trans m11
    have esl11 := m911.same _ _ esl9
    have ewl11 := m911.same _ _ ewl9
    have hA0' := hA0.mv m911
    have hA1' := hA1.mv m911
    have hW0' := hW0.mv m911
    have hW1' := hW1.mv m911
    have hB11 := hB9.mv m911
    have wf0 := hA0.wf
    have wf1 := hA1.wf
    refine ⟨.ref sl, rfl, rd_ixL (.inl (.inl esl11)) (by decide) (v := .ref d0) rfl ?_⟩
    refine ⟨.ref sl, rfl, rd_ixL (.inl (.inl esl11)) (by decide) (v := .ref d1) rfl ?_⟩
    refine ⟨d0, d1, zs0, zs1, rfl, rfl, hA0', hA1', ?_⟩
    refine ⟨.ref b, rfl, .ref d0, rfl, b, d0, zs0, rfl, hB11, hA0', hk0, by omega, fun x2 H12 hW2 d12 => ?_⟩
    have hB12 := d12.bag hB11
    have esl12 := d12.get nebs esl11
    have ewl12 := d12.get nebw ewl11
    have hW012 := hW0'.dr d12 hB11
    have hW112 := hW1'.dr d12 hB11
    have hA012 := hA0'.dr d12 hB11
    refine ⟨_, _, rfl, ?_⟩
    obtain ⟨dx0, _, _, hs0, _⟩ := id hW012
    obtain ⟨dx1, _, _, hs1, _⟩ := id hW112
    obtain ⟨dx2, _, _, hs2, _⟩ := id hW2
    have oth : ∀ {x dx vs}, Slt H12 x T.C_World dx vs → Oth K H12 T.C_World (.ref x) := fun {x dx vs} h => .inl ⟨x, _, _, _, rfl, h, notFirst_self⟩
    refine ⟨.ref wl, rfl, rd_ixL (.inl (.inl ewl12)) (by decide) (v := .ref x0) rfl ⟨.ref wl, rfl, rd_ixL (.inl (.inl ewl12)) (by decide) (v := .ref x1) rfl ⟨x0, dx0, _, rfl, hs0, oth hs1, x0, _, _, rfl, hW012, .inl ⟨x1, _, rfl, hW112, ?_⟩⟩⟩⟩
    refine ⟨.ref wl, rfl, rd_ixL (.inl (.inl ewl12)) (by decide) (v := .ref x1) rfl ⟨.ref wl, rfl, rd_ixL (.inl (.inl ewl12)) (by decide) (v := .ref x0) rfl ⟨x1, dx1, _, rfl, hs1, oth hs0, x1, _, _, rfl, hW112, .inl ⟨x0, _, rfl, hW012, ?_⟩⟩⟩⟩
    refine ⟨.ref wl, rfl, rd_ixL (.inl (.inl ewl12)) (by decide) (v := .ref x0) rfl ⟨.ref x2, rfl, ⟨x0, dx0, _, rfl, hs0, oth hs2, x0, _, _, rfl, hW012, .inl ⟨x2, _, rfl, hW2, ?_⟩⟩⟩⟩
    refine ⟨.ref wl, rfl, rd_ixL (.inl (.inl ewl12)) (by decide) (v := .ref x0) rfl ⟨.ref wl, rfl, rd_ixL (.inl (.inl ewl12)) (by decide) (v := .ref x1) rfl ⟨x0, dx0, _, rfl, hs0, oth hs1, x0, _, _, rfl, hW012, .inl ⟨x1, _, rfl, hW112, _, rfl, ?_⟩⟩⟩⟩
    rw [rsEq_norm wf0 wf1, rsEq_norm wf1 wf0, ← rsEq_symm wf0 wf1, rsEq_refl (wf_norm wf0)]
    generalize rsEq (zs0.map (·.r)) (zs1.map (·.r)) = due
    refine ⟨(by decide : 4 ≤ sizeLine), fun tl ntl => ?_⟩
    have m13 : Mv [] H12 (upd H12 tl (.lst [.bl due, .bl due, .bl true, .bl (!due)])) := .new ntl
    have e13 : upd H12 tl (.lst [.bl due, .bl due, .bl true, .bl (!due)]) tl = some (.lst [.bl due, .bl due, .bl true, .bl (!due)]) := upd_same
    generalize upd H12 tl (.lst [.bl due, .bl due, .bl true, .bl (!due)]) = H13 at m13 e13 ⊢
    refine ⟨.ref tl, rfl, .bl due, rfl, .bl due, rfl, .bl due, rfl, due, rfl, (by decide : 4 ≤ sizeLine), fun ul nul => ?_⟩
    have m14 : Mv [] H13 (upd H13 ul (.lst [.bl due, .bl due, .bl true, .bl (!due)])) := .new nul
    have e14 : upd H13 ul (.lst [.bl due, .bl due, .bl true, .bl (!due)]) ul = some (.lst [.bl due, .bl due, .bl true, .bl (!due)]) := upd_same
    generalize upd H13 ul (.lst [.bl due, .bl due, .bl true, .bl (!due)]) = H14 at m14 e14 ⊢
    have dpB : DpAll K H14 [.bl due, .bl due, .bl true, .bl (!due)] [.bool due, .bool due, .bool true, .bool (!due)] := .cons (.bl _) (.cons (.bl _) (.cons (.bl _) (.cons (.bl _) .nil)))
    have shB : Shw (.list [.bool due, .bool due, .bool true, .bool (!due)]) := by
      refine ⟨⟨trivial, trivial, trivial, trivial, trivial⟩, by simp [PyData.depth, PyData.depthAll], by simp [Fm.wl, Fm.wls]⟩
    refine ⟨_, _, .list [.bool due, .bool due, .bool true, .bool (!due)], rfl, .lst (.inl (.inl (m14.same _ _ e13))) dpB, .lst (.inl (.inl e14)) dpB, shB, ⟨_, rfl, ?_⟩⟩
    -- other things
    refine ⟨.ref d0, rfl, (by decide : 0 ≤ sizeLine), fun ep nep => ?_⟩
    have m15 : Mv [] H14 (upd H14 ep (.tup [])) := .new nep
    have e15 : SqT K (upd H14 ep (.tup [])) ep [] := .inl (.inl upd_same)
    generalize upd H14 ep (.tup []) = H15 at m15 e15 ⊢
    refine ⟨(by decide : 5 ≤ sizeLine), fun op nop => ?_⟩
    have m16 : Mv [] H15 (upd H15 op (.tup [.non, .ref d0, .ref ep, .str (Str.ofString "world"), .int 5])) := .new nop
    have e16 : SqT K (upd H15 op (.tup [.non, .ref d0, .ref ep, .str (Str.ofString "world"), .int 5])) op [.non, .ref d0, .ref ep, .str (Str.ofString "world"), .int 5] := .inl (.inl upd_same)
    generalize upd H15 op (.tup [.non, .ref d0, .ref ep, .str (Str.ofString "world"), .int 5]) = H16 at m16 e16 ⊢
    have m1216 := m13.trans (m14.trans (m15.trans m16))
    have tys : ∀ x ∈ ([.non, .ref d0, .ref ep, .str (Str.ofString "world"), .int 5] : List V), ∀ H', Mv [] H16 H' → ∃ ty, TyX K H' x (.type ty) ∧ plainTy ty = true := fun x hx H' m => by
      simp only [List.mem_cons, List.not_mem_nil, or_false] at hx
      rcases hx with rfl | rfl | rfl | rfl | rfl
      · exact ⟨"NoneType", .base .non, by decide +kernel⟩
      · exact ⟨"dict", .base (.dK (m.same _ _ (m1216.same _ _ hA012.at_))), by decide +kernel⟩
      · exact ⟨"tuple", tyx_sqT (m.sqT (m16.sqT e15)), by decide +kernel⟩
      · exact ⟨"str", .base (.str _), by decide +kernel⟩
      · exact ⟨"int", .base (.int _), by decide +kernel⟩
    refine ⟨op, rfl, ?_⟩
    refine lc_seq (.inr e16) (fun i D H17 => H17 D = some (.lst []) ∧ Mv [] H16 H17) (fun D nD => ⟨upd_same, .new nD⟩) (fun i D H17 nD h17 => h17.2) (fun D nD i x H17 hx h17 => ?_) (fun D H17 nD h17 => ?_)
    · obtain ⟨e17, m17⟩ := h17
      obtain ⟨ty, ht, hp⟩ := tys x (List.mem_of_getElem? hx) H17 m17
      have m1217 := m1216.trans m17
      have ewl17 := m1217.same _ _ ewl12
      refine ⟨rfl, ?_⟩
      refine ⟨.ref wl, rfl, rd_ixL (.inl (.inl ewl17)) (by decide) (v := .ref x0) rfl ⟨x, rfl, ⟨x0, dx0, _, rfl, Slt.mv hs0 m1217, .inr ⟨_, ht, notFirst_plain hp⟩, x0, _, x, rfl, hW012.mv m1217, .inr ⟨ty, ht, hp, ⟨_, rfl, ?_⟩⟩⟩⟩⟩
      refine ⟨.ref wl, rfl, rd_ixL (.inl (.inl ewl17)) (by decide) (v := .ref x0) rfl ⟨x, rfl, ⟨x0, dx0, _, rfl, Slt.mv hs0 m1217, .inr ⟨_, ht, notFirst_plain hp⟩, x0, _, x, rfl, hW012.mv m1217, .inr ⟨ty, ht, hp, ⟨_, rfl, ⟨_, rfl, ?_⟩⟩⟩⟩⟩⟩
      exact ⟨e17, m17⟩
    obtain ⟨e17, m17⟩ := h17
    refine ⟨(by decide : 0 ≤ sizeLine), fun p18 np18 => ?_⟩
    refine ⟨D, p18, [], rfl, rfl, .inl (.inl (same_new np18 _ _ e17)), .inl (.inl upd_same), ⟨_, rfl, ?_⟩⟩
    exact ⟨_, _, _, _, _, _, _, _, _, _, _, rfl, hB12.mv (m1216.trans (m17.trans (.new np18)))⟩
end
end Fm
namespace Fm
open PySem PySem.Spec PyProof.Rows L2 SlX
section
variable {l : PySem.W.OpenLaw} {w : World} {K : PySem.W.Frag} {mg : Str → Option Value} {fa : Addr}
theorem all_mk {h : Heap} (X : K.In h) (G : h.Ns mainGlobals mg) (hfa : mg "law" = some (.ref fa))
    {f0 : Addr} {od0 an0 : Option Addr} {sl0 : Array (Option Value)} {oc0 kV0 dc0 pm0 cd0 ct0 : Value}
    (a0 : PySem.W.nsIn K mainGlobals "is_integer" = some (some (.ref f0))) (l0 : K.lookup f0 = some ⟨oc0, od0, .func (PySem.W.fnOf "is_integer" "is_integer" (defArgs s_is_integer) (defBody s_is_integer) (defScope s_is_integer) .none kV0 dc0 pm0 an0 cd0 ct0), sl0⟩) (c0 : PySem.W.codeIn K cd0 "is_integer" = true) (k0 : PySem.W.keepIn K (.ref f0) = true)
    {f1 : Addr} {od1 an1 : Option Addr} {sl1 : Array (Option Value)} {oc1 kV1 dc1 pm1 cd1 ct1 : Value}
    (a1 : PySem.W.nsIn K mainGlobals "is_name" = some (some (.ref f1))) (l1 : K.lookup f1 = some ⟨oc1, od1, .func (PySem.W.fnOf "is_name" "is_name" (defArgs s_is_name) (defBody s_is_name) (defScope s_is_name) .none kV1 dc1 pm1 an1 cd1 ct1), sl1⟩) (c1 : PySem.W.codeIn K cd1 "is_name" = true) (k1 : PySem.W.keepIn K (.ref f1) = true)
    {f2 : Addr} {od2 an2 : Option Addr} {sl2 : Array (Option Value)} {oc2 kV2 dc2 pm2 cd2 ct2 : Value}
    (a2 : PySem.W.nsIn K mainGlobals "is_outcome" = some (some (.ref f2))) (l2 : K.lookup f2 = some ⟨oc2, od2, .func (PySem.W.fnOf "is_outcome" "is_outcome" (defArgs s_is_outcome) (defBody s_is_outcome) (defScope s_is_outcome) .none kV2 dc2 pm2 an2 cd2 ct2), sl2⟩) (c2 : PySem.W.codeIn K cd2 "is_outcome" = true) (k2 : PySem.W.keepIn K (.ref f2) = true)
    {f3 : Addr} {od3 an3 : Option Addr} {sl3 : Array (Option Value)} {oc3 kV3 dc3 pm3 cd3 ct3 : Value}
    (a3 : PySem.W.nsIn K mainGlobals "is_within" = some (some (.ref f3))) (l3 : K.lookup f3 = some ⟨oc3, od3, .func (PySem.W.fnOf "is_within" "is_within" (defArgs s_is_within) (defBody s_is_within) (defScope s_is_within) .none kV3 dc3 pm3 an3 cd3 ct3), sl3⟩) (c3 : PySem.W.codeIn K cd3 "is_within" = true) (k3 : PySem.W.keepIn K (.ref f3) = true)
    {f4 : Addr} {od4 an4 : Option Addr} {sl4 : Array (Option Value)} {oc4 kV4 dc4 pm4 cd4 ct4 : Value}
    (a4 : PySem.W.nsIn K mainGlobals "are_outcomes" = some (some (.ref f4))) (l4 : K.lookup f4 = some ⟨oc4, od4, .func (PySem.W.fnOf "are_outcomes" "are_outcomes" (defArgs s_are_outcomes) (defBody s_are_outcomes) (defScope s_are_outcomes) .none kV4 dc4 pm4 an4 cd4 ct4), sl4⟩) (c4 : PySem.W.codeIn K cd4 "are_outcomes" = true) (k4 : PySem.W.keepIn K (.ref f4) = true)
    {f5 : Addr} {od5 an5 : Option Addr} {sl5 : Array (Option Value)} {oc5 kV5 dc5 pm5 cd5 ct5 : Value}
    (a5 : PySem.W.nsIn K mainGlobals "is_act" = some (some (.ref f5))) (l5 : K.lookup f5 = some ⟨oc5, od5, .func (PySem.W.fnOf "is_act" "is_act" (defArgs s_is_act) (defBody s_is_act) (defScope s_is_act) .none kV5 dc5 pm5 an5 cd5 ct5), sl5⟩) (c5 : PySem.W.codeIn K cd5 "is_act" = true) (k5 : PySem.W.keepIn K (.ref f5) = true)
    {f6 : Addr} {od6 an6 : Option Addr} {sl6 : Array (Option Value)} {oc6 kV6 dc6 pm6 cd6 ct6 : Value}
    (a6 : PySem.W.nsIn K mainGlobals "_law_bag" = some (some (.ref f6))) (l6 : K.lookup f6 = some ⟨oc6, od6, .func (PySem.W.fnOf "_law_bag" "_law_bag" (defArgs s__law_bag) (defBody s__law_bag) (defScope s__law_bag) .none kV6 dc6 pm6 an6 cd6 ct6), sl6⟩) (c6 : PySem.W.codeIn K cd6 "_law_bag" = true) (k6 : PySem.W.keepIn K (.ref f6) = true)
    {f7 : Addr} {od7 an7 : Option Addr} {sl7 : Array (Option Value)} {oc7 kV7 dc7 pm7 cd7 ct7 : Value}
    (a7 : PySem.W.nsIn K mainGlobals "_law_take" = some (some (.ref f7))) (l7 : K.lookup f7 = some ⟨oc7, od7, .func (PySem.W.fnOf "_law_take" "_law_take" (defArgs s__law_take) (defBody s__law_take) (defScope s__law_take) .none kV7 dc7 pm7 an7 cd7 ct7), sl7⟩) (c7 : PySem.W.codeIn K cd7 "_law_take" = true) (k7 : PySem.W.keepIn K (.ref f7) = true)
    {f8 : Addr} {od8 an8 : Option Addr} {sl8 : Array (Option Value)} {oc8 kV8 dc8 pm8 cd8 ct8 : Value}
    (a8 : PySem.W.nsIn K mainGlobals "_law_alike" = some (some (.ref f8))) (l8 : K.lookup f8 = some ⟨oc8, od8, .func (PySem.W.fnOf "_law_alike" "_law_alike" (defArgs s__law_alike) (defBody s__law_alike) (defScope s__law_alike) .none kV8 dc8 pm8 an8 cd8 ct8), sl8⟩) (c8 : PySem.W.codeIn K cd8 "_law_alike" = true) (k8 : PySem.W.keepIn K (.ref f8) = true)
    {f9 : Addr} {od9 an9 : Option Addr} {sl9 : Array (Option Value)} {oc9 kV9 dc9 pm9 cd9 ct9 : Value}
    (a9 : PySem.W.nsIn K mainGlobals "_law_mixed" = some (some (.ref f9))) (l9 : K.lookup f9 = some ⟨oc9, od9, .func (PySem.W.fnOf "_law_mixed" "_law_mixed" (defArgs s__law_mixed) (defBody s__law_mixed) (defScope s__law_mixed) .none kV9 dc9 pm9 an9 cd9 ct9), sl9⟩) (c9 : PySem.W.codeIn K cd9 "_law_mixed" = true) (k9 : PySem.W.keepIn K (.ref f9) = true)
    {f10 : Addr} {od10 an10 : Option Addr} {sl10 : Array (Option Value)} {oc10 kV10 dc10 pm10 cd10 ct10 : Value}
    (a10 : PySem.W.nsIn K mainGlobals "_law_names" = some (some (.ref f10))) (l10 : K.lookup f10 = some ⟨oc10, od10, .func (PySem.W.fnOf "_law_names" "_law_names" (defArgs s__law_names) (defBody s__law_names) (defScope s__law_names) .none kV10 dc10 pm10 an10 cd10 ct10), sl10⟩) (c10 : PySem.W.codeIn K cd10 "_law_names" = true) (k10 : PySem.W.keepIn K (.ref f10) = true)
    {f11 : Addr} {od11 an11 : Option Addr} {sl11 : Array (Option Value)} {oc11 kV11 dc11 pm11 cd11 ct11 : Value}
    (a11 : PySem.W.nsIn K mainGlobals "_law_acts" = some (some (.ref f11))) (l11 : K.lookup f11 = some ⟨oc11, od11, .func (PySem.W.fnOf "_law_acts" "_law_acts" (defArgs s__law_acts) (defBody s__law_acts) (defScope s__law_acts) .none kV11 dc11 pm11 an11 cd11 ct11), sl11⟩) (c11 : PySem.W.codeIn K cd11 "_law_acts" = true) (k11 : PySem.W.keepIn K (.ref f11) = true)
    {f12 : Addr} {od12 an12 : Option Addr} {sl12 : Array (Option Value)} {oc12 kV12 dc12 pm12 cd12 ct12 : Value}
    (a12 : PySem.W.nsIn K mainGlobals "_law_world_of" = some (some (.ref f12))) (l12 : K.lookup f12 = some ⟨oc12, od12, .func (PySem.W.fnOf "_law_world_of" "_law_world_of" (defArgs s__law_world_of) (defBody s__law_world_of) (defScope s__law_world_of) .none kV12 dc12 pm12 an12 cd12 ct12), sl12⟩) (c12 : PySem.W.codeIn K cd12 "_law_world_of" = true) (k12 : PySem.W.keepIn K (.ref f12) = true)
    {f13 : Addr} {od13 an13 : Option Addr} {sl13 : Array (Option Value)} {oc13 kV13 dc13 pm13 cd13 ct13 : Value}
    (a13 : PySem.W.nsIn K mainGlobals "_law_more" = some (some (.ref f13))) (l13 : K.lookup f13 = some ⟨oc13, od13, .func (PySem.W.fnOf "_law_more" "_law_more" (defArgs s__law_more) (defBody s__law_more) (defScope s__law_more) .none kV13 dc13 pm13 an13 cd13 ct13), sl13⟩) (c13 : PySem.W.codeIn K cd13 "_law_more" = true) (k13 : PySem.W.keepIn K (.ref f13) = true)
    {f14 : Addr} {od14 an14 : Option Addr} {sl14 : Array (Option Value)} {oc14 kV14 dc14 pm14 cd14 ct14 : Value}
    (a14 : PySem.W.nsIn K mainGlobals "_law_fourth" = some (some (.ref f14))) (l14 : K.lookup f14 = some ⟨oc14, od14, .func (PySem.W.fnOf "_law_fourth" "_law_fourth" (defArgs s__law_fourth) (defBody s__law_fourth) (defScope s__law_fourth) .none kV14 dc14 pm14 an14 cd14 ct14), sl14⟩) (c14 : PySem.W.codeIn K cd14 "_law_fourth" = true) (k14 : PySem.W.keepIn K (.ref f14) = true)
    {f15 : Addr} {od15 an15 : Option Addr} {sl15 : Array (Option Value)} {oc15 kV15 dc15 pm15 cd15 ct15 : Value}
    (a15 : PySem.W.nsIn K mainGlobals "_law_near" = some (some (.ref f15))) (l15 : K.lookup f15 = some ⟨oc15, od15, .func (PySem.W.fnOf "_law_near" "_law_near" (defArgs s__law_near) (defBody s__law_near) (defScope s__law_near) .none kV15 dc15 pm15 an15 cd15 ct15), sl15⟩) (c15 : PySem.W.codeIn K cd15 "_law_near" = true) (k15 : PySem.W.keepIn K (.ref f15) = true)
    {f16 : Addr} {od16 an16 : Option Addr} {sl16 : Array (Option Value)} {oc16 kV16 dc16 pm16 cd16 ct16 : Value}
    (a16 : PySem.W.nsIn K mainGlobals "_law_right" = some (some (.ref f16))) (l16 : K.lookup f16 = some ⟨oc16, od16, .func (PySem.W.fnOf "_law_right" "_law_right" (defArgs s__law_right) (defBody s__law_right) (defScope s__law_right) .none kV16 dc16 pm16 an16 cd16 ct16), sl16⟩) (c16 : PySem.W.codeIn K cd16 "_law_right" = true) (k16 : PySem.W.keepIn K (.ref f16) = true)
    {f17 : Addr} {od17 an17 : Option Addr} {sl17 : Array (Option Value)} {oc17 kV17 dc17 pm17 cd17 ct17 : Value}
    (a17 : PySem.W.nsIn K mainGlobals "law" = some (some (.ref f17))) (l17 : K.lookup f17 = some ⟨oc17, od17, .func (PySem.W.fnOf "law" "law" (defArgs s_law) (defBody s_law) (defScope s_law) .none kV17 dc17 pm17 an17 cd17 ct17), sl17⟩) (c17 : PySem.W.codeIn K cd17 "law" = true) (k17 : PySem.W.keepIn K (.ref f17) = true)
    {C_World : Addr}
    (g_World : PySem.W.nsIn K mainGlobals "World" = some (some (.ref C_World)))
    (k_World : PySem.W.keepIn K (.ref C_World) = true)
    (pg_World : PySem.W.plainGet K C_World Str.empty = true)
    (ic_World : PySem.W.isClsIn K C_World = true)
    (po_World : PySem.W.plainOver K C_World = true)
    (sa_World : PySem.W.findIn K (.ref C_World) "__setattr__" = some (some (.builtin "object.__setattr__")))
    (mk_World : PySem.W.makesIn K C_World = true)
    (ca_World : PySem.W.findIn K (.ref C_World) "__class__" = some (some (.builtin "object.__class__")))
    (cn_World : PySem.W.specialIn K (.builtin "object.__class__") "__get__" = some (some (.builtin "getset_descriptor.__get__")))
    (ct_World : PySem.W.takesIn K (.builtin "object.__class__") = some true)
    (cm_World : PySem.W.mroIn K C_World (.type "object") = some true)
    (ne_World : PySem.W.findIn K (.ref C_World) "__ne__" = some (some (.builtin "object.__ne__")))
    (tyc_World : PySem.W.typeIn K (.ref C_World) = some (.type "type"))
    {p_World_its_acts : Addr}
    (at_World_its_acts : PySem.W.findIn K (.ref C_World) "its_acts" = some (some (.ref p_World_its_acts)))
    (get_World_its_acts : PySem.W.specialIn K (.ref p_World_its_acts) "__get__" = some (some (.builtin "member_descriptor.__get__")))
    (tk_World_its_acts : PySem.W.takesIn K (.ref p_World_its_acts) = some true)
    (ty_World_its_acts : PySem.W.typeIn K (.ref p_World_its_acts) = some (.type "member_descriptor"))
    (ix_World_its_acts : PySem.W.slotIn K p_World_its_acts C_World = some 0)
    {f_World___init__ : Addr} {od_World___init__ an_World___init__ : Option Addr} {sl_World___init__ : Array (Option Value)} {oc_World___init__ kV_World___init__ dc_World___init__ pm_World___init__ cd_World___init__ cc_World___init__ : Value}
    (am_World___init__ : PySem.W.findIn K (.ref C_World) "__init__" = some (some (.ref f_World___init__)))
    (im_World___init__ : PySem.W.isFn K (.ref f_World___init__) = true)
    (lm_World___init__ : K.lookup f_World___init__ = some ⟨oc_World___init__, od_World___init__, .func (PySem.W.fnOf "__init__" "World.__init__" (defArgs s_World___init__) (defBody s_World___init__) (defScope s_World___init__) .none kV_World___init__ dc_World___init__ pm_World___init__ an_World___init__ cd_World___init__ cc_World___init__), sl_World___init__⟩)
    (co_World___init__ : PySem.W.codeIn K cd_World___init__ "World.__init__" = true)
    (km_World___init__ : PySem.W.keepIn K (.ref f_World___init__) = true)
    {f_World_acts : Addr} {od_World_acts an_World_acts : Option Addr} {sl_World_acts : Array (Option Value)} {oc_World_acts kV_World_acts dc_World_acts pm_World_acts cd_World_acts cc_World_acts : Value}
    (am_World_acts : PySem.W.findIn K (.ref C_World) "acts" = some (some (.ref f_World_acts)))
    (im_World_acts : PySem.W.isFn K (.ref f_World_acts) = true)
    (lm_World_acts : K.lookup f_World_acts = some ⟨oc_World_acts, od_World_acts, .func (PySem.W.fnOf "acts" "World.acts" (defArgs s_World_acts) (defBody s_World_acts) (defScope s_World_acts) .none kV_World_acts dc_World_acts pm_World_acts an_World_acts cd_World_acts cc_World_acts), sl_World_acts⟩)
    (co_World_acts : PySem.W.codeIn K cd_World_acts "World.acts" = true)
    (km_World_acts : PySem.W.keepIn K (.ref f_World_acts) = true)
    {f_World_arguments : Addr} {od_World_arguments an_World_arguments : Option Addr} {sl_World_arguments : Array (Option Value)} {oc_World_arguments kV_World_arguments dc_World_arguments pm_World_arguments cd_World_arguments cc_World_arguments : Value}
    (am_World_arguments : PySem.W.findIn K (.ref C_World) "arguments" = some (some (.ref f_World_arguments)))
    (im_World_arguments : PySem.W.isFn K (.ref f_World_arguments) = true)
    (lm_World_arguments : K.lookup f_World_arguments = some ⟨oc_World_arguments, od_World_arguments, .func (PySem.W.fnOf "arguments" "World.arguments" (defArgs s_World_arguments) (defBody s_World_arguments) (defScope s_World_arguments) .none kV_World_arguments dc_World_arguments pm_World_arguments an_World_arguments cd_World_arguments cc_World_arguments), sl_World_arguments⟩)
    (co_World_arguments : PySem.W.codeIn K cd_World_arguments "World.arguments" = true)
    (km_World_arguments : PySem.W.keepIn K (.ref f_World_arguments) = true)
    {f_World_outcomes : Addr} {od_World_outcomes an_World_outcomes : Option Addr} {sl_World_outcomes : Array (Option Value)} {oc_World_outcomes kV_World_outcomes dc_World_outcomes pm_World_outcomes cd_World_outcomes cc_World_outcomes : Value}
    (am_World_outcomes : PySem.W.findIn K (.ref C_World) "outcomes" = some (some (.ref f_World_outcomes)))
    (im_World_outcomes : PySem.W.isFn K (.ref f_World_outcomes) = true)
    (lm_World_outcomes : K.lookup f_World_outcomes = some ⟨oc_World_outcomes, od_World_outcomes, .func (PySem.W.fnOf "outcomes" "World.outcomes" (defArgs s_World_outcomes) (defBody s_World_outcomes) (defScope s_World_outcomes) .none kV_World_outcomes dc_World_outcomes pm_World_outcomes an_World_outcomes cd_World_outcomes cc_World_outcomes), sl_World_outcomes⟩)
    (co_World_outcomes : PySem.W.codeIn K cd_World_outcomes "World.outcomes" = true)
    (km_World_outcomes : PySem.W.keepIn K (.ref f_World_outcomes) = true)
    {f_World_brings : Addr} {od_World_brings an_World_brings : Option Addr} {sl_World_brings : Array (Option Value)} {oc_World_brings kV_World_brings dc_World_brings pm_World_brings cd_World_brings cc_World_brings : Value}
    (am_World_brings : PySem.W.findIn K (.ref C_World) "brings" = some (some (.ref f_World_brings)))
    (im_World_brings : PySem.W.isFn K (.ref f_World_brings) = true)
    (lm_World_brings : K.lookup f_World_brings = some ⟨oc_World_brings, od_World_brings, .func (PySem.W.fnOf "brings" "World.brings" (defArgs s_World_brings) (defBody s_World_brings) (defScope s_World_brings) .none kV_World_brings dc_World_brings pm_World_brings an_World_brings cd_World_brings cc_World_brings), sl_World_brings⟩)
    (co_World_brings : PySem.W.codeIn K cd_World_brings "World.brings" = true)
    (km_World_brings : PySem.W.keepIn K (.ref f_World_brings) = true)
    {f_World___eq__ : Addr} {od_World___eq__ an_World___eq__ : Option Addr} {sl_World___eq__ : Array (Option Value)} {oc_World___eq__ kV_World___eq__ dc_World___eq__ pm_World___eq__ cd_World___eq__ cc_World___eq__ : Value}
    (am_World___eq__ : PySem.W.findIn K (.ref C_World) "__eq__" = some (some (.ref f_World___eq__)))
    (im_World___eq__ : PySem.W.isFn K (.ref f_World___eq__) = true)
    (lm_World___eq__ : K.lookup f_World___eq__ = some ⟨oc_World___eq__, od_World___eq__, .func (PySem.W.fnOf "__eq__" "World.__eq__" (defArgs s_World___eq__) (defBody s_World___eq__) (defScope s_World___eq__) .none kV_World___eq__ dc_World___eq__ pm_World___eq__ an_World___eq__ cd_World___eq__ cc_World___eq__), sl_World___eq__⟩)
    (co_World___eq__ : PySem.W.codeIn K cd_World___eq__ "World.__eq__" = true)
    (km_World___eq__ : PySem.W.keepIn K (.ref f_World___eq__) = true)
    (topS_ : (l.prog.main.scope.names.lookup ("super" : Str)).isSome = false)
    (sup_ : PySem.W.nsIn K mainGlobals "super" = some none)
    (opq_ : PySem.W.nsIn K PySem.cStatics "thirdparty.any" = some none)
    {C_MoveError : Addr}
    (g_MoveError : PySem.W.nsIn K mainGlobals "MoveError" = some (some (.ref C_MoveError)))
    (ex_MoveError : PySem.W.subIn K (.ref C_MoveError) (.type "BaseException") = some true)
    (hd_MoveError : PySem.W.hasDictIn K C_MoveError = true)
    (ty_MoveError : PySem.W.typeIn K (.ref C_MoveError) = some (.type "type"))
    {C_Wrong : Addr}
    (g_Wrong : PySem.W.nsIn K mainGlobals "Wrong" = some (some (.ref C_Wrong)))
    (ex_Wrong : PySem.W.subIn K (.ref C_Wrong) (.type "BaseException") = some true)
    (hd_Wrong : PySem.W.hasDictIn K C_Wrong = true)
    (ty_Wrong : PySem.W.typeIn K (.ref C_Wrong) = some (.type "type"))
    {nm_Wrong q_Wrong : Str} {N_Wrong : Addr} {bs_Wrong bm_Wrong sub_Wrong : List Value} {sn_Wrong : List Str} {ab_Wrong : Bool} {col_Wrong : Option Bool} {dd_Wrong : Option Addr} {k0_Wrong k1_Wrong k2_Wrong k3_Wrong k5_Wrong : Option Value}
    (cls_Wrong : K.lookup C_Wrong = some (excClassObj nm_Wrong q_Wrong C_Wrong N_Wrong bs_Wrong bm_Wrong true sn_Wrong sub_Wrong ab_Wrong col_Wrong dd_Wrong k0_Wrong k1_Wrong k2_Wrong k3_Wrong k5_Wrong "ValueError.__new__"))
    (ve_Wrong : PySem.HandSPX.refsVE bm_Wrong = true)
    (sa_Wrong : PySem.W.findIn K (.ref C_Wrong) "__setattr__" = some (some (.builtin "object.__setattr__")))
    (no_Wrong : PySem.W.findIn K (.ref C_Wrong) "place" = some none)
    (k_Wrong : PySem.W.keepIn K (.ref C_Wrong) = true)
    (vs_Wrong : PySem.W.subIn K (.ref C_Wrong) (.type "ValueError") = some true)
    (up_Wrong : PySem.W.ks_superIn K C_Wrong C_Wrong "__init__" = some (some (.builtin "ValueError.__init__")))
    (self_Wrong : PySem.W.mroIn K C_Wrong (.ref C_Wrong) = some true)
    {fI_Wrong cda_Wrong cc_Wrong : Addr} {oc_Wrong kV_Wrong doc_Wrong pm_Wrong ct_Wrong cl_Wrong ccl_Wrong : Value} {od_Wrong an_Wrong cld_Wrong cdd_Wrong : Option Addr} {osl_Wrong csl_Wrong ccs_Wrong : Array (Option Value)} {ql_Wrong file_Wrong : Str} {vv_Wrong : Array Value} {tf_Wrong : Tok} {p1_Wrong p2_Wrong q1_Wrong q2_Wrong q3_Wrong q4_Wrong q5_Wrong q6_Wrong q7_Wrong q8_Wrong q9_Wrong q10_Wrong : Pos}
    (fi_Wrong : PySem.W.findIn K (.ref C_Wrong) "__init__" = some (some (.ref fI_Wrong)))
    (tI_Wrong : PySem.W.typeIn K (.ref fI_Wrong) = some (.type "function"))
    (lI_Wrong : K.lookup fI_Wrong = some ⟨oc_Wrong, od_Wrong, .func (PySem.W.ksFn "__init__" ql_Wrong (xA "place" p1_Wrong p2_Wrong) (xB "place" q1_Wrong q2_Wrong q3_Wrong q4_Wrong q5_Wrong q6_Wrong q7_Wrong q8_Wrong q9_Wrong q10_Wrong) (xS "place") .none kV_Wrong doc_Wrong pm_Wrong an_Wrong (.ref cda_Wrong) ct_Wrong cc_Wrong), osl_Wrong⟩)
    (cd_Wrong : PySem.W.codeIn K (.ref cda_Wrong) ql_Wrong = true)
    (ce_Wrong : K.lookup cc_Wrong = some ⟨cl_Wrong, cld_Wrong, .cell (some (.ref C_Wrong)), csl_Wrong⟩)
    (co_Wrong : K.lookup cda_Wrong = some ⟨ccl_Wrong, cdd_Wrong, .fields vv_Wrong, ccs_Wrong⟩)
    (cv_Wrong : vv_Wrong[2]? = some (.str file_Wrong tf_Wrong))
    (cf_Wrong : ((l.prog.main.file : Str) == file_Wrong) = true)
    (bi_Wrong : ∀ e v, bindArgs (PySem.W.ksFn "__init__" ql_Wrong (xA "place" p1_Wrong p2_Wrong) (xB "place" q1_Wrong q2_Wrong q3_Wrong q4_Wrong q5_Wrong q6_Wrong q7_Wrong q8_Wrong q9_Wrong q10_Wrong) (xS "place") .none kV_Wrong doc_Wrong pm_Wrong an_Wrong (.ref cda_Wrong) ct_Wrong cc_Wrong) ⟨[.ref e, v], []⟩ = pure [((PySem.Str.ofString "self" : Str), .ref e), ("place", v)])
    (ev_Wrong : ∀ L : Addr, ∃ pl, eval (xCall "place" q1_Wrong q2_Wrong q3_Wrong q4_Wrong q5_Wrong) (PySem.W.ksEnv ql_Wrong (xS "place") L fI_Wrong (.ref cda_Wrong) cc_Wrong) = (do
      let ov ← attributeBase (.Call (.Name "super" q1_Wrong) [] [] q2_Wrong) "__init__" (PySem.W.ksEnv ql_Wrong (xS "place") L fI_Wrong (.ref cda_Wrong) cc_Wrong) (eval (.Call (.Name "super" q1_Wrong) [] [] q2_Wrong) (PySem.W.ksEnv ql_Wrong (xS "place") L fI_Wrong (.ref cda_Wrong) cc_Wrong))
      standAt q3_Wrong.atName
      let (g, first) ← holding [ov] (getMethod ov "__init__" pl)
      callWith q5_Wrong g first (backTo q5_Wrong (starEach [.Name "place" q4_Wrong] (PySem.W.ksEnv ql_Wrong (xS "place") L fI_Wrong (.ref cda_Wrong) cc_Wrong))) []))
    {C_BadAct : Addr}
    (g_BadAct : PySem.W.nsIn K mainGlobals "BadAct" = some (some (.ref C_BadAct)))
    (ex_BadAct : PySem.W.subIn K (.ref C_BadAct) (.type "BaseException") = some true)
    (hd_BadAct : PySem.W.hasDictIn K C_BadAct = true)
    (ty_BadAct : PySem.W.typeIn K (.ref C_BadAct) = some (.type "type"))
    {nm_BadAct q_BadAct : Str} {N_BadAct : Addr} {bs_BadAct bm_BadAct sub_BadAct : List Value} {sn_BadAct : List Str} {ab_BadAct : Bool} {col_BadAct : Option Bool} {dd_BadAct : Option Addr} {k0_BadAct k1_BadAct k2_BadAct k3_BadAct k5_BadAct : Option Value}
    (cls_BadAct : K.lookup C_BadAct = some (excClassObj nm_BadAct q_BadAct C_BadAct N_BadAct bs_BadAct bm_BadAct true sn_BadAct sub_BadAct ab_BadAct col_BadAct dd_BadAct k0_BadAct k1_BadAct k2_BadAct k3_BadAct k5_BadAct "ValueError.__new__"))
    (ve_BadAct : PySem.HandSPX.refsVE bm_BadAct = true)
    (sa_BadAct : PySem.W.findIn K (.ref C_BadAct) "__setattr__" = some (some (.builtin "object.__setattr__")))
    (no_BadAct : PySem.W.findIn K (.ref C_BadAct) "name" = some none)
    (k_BadAct : PySem.W.keepIn K (.ref C_BadAct) = true)
    (vs_BadAct : PySem.W.subIn K (.ref C_BadAct) (.type "ValueError") = some true)
    (up_BadAct : PySem.W.ks_superIn K C_BadAct C_BadAct "__init__" = some (some (.builtin "ValueError.__init__")))
    (self_BadAct : PySem.W.mroIn K C_BadAct (.ref C_BadAct) = some true)
    {fI_BadAct cda_BadAct cc_BadAct : Addr} {oc_BadAct kV_BadAct doc_BadAct pm_BadAct ct_BadAct cl_BadAct ccl_BadAct : Value} {od_BadAct an_BadAct cld_BadAct cdd_BadAct : Option Addr} {osl_BadAct csl_BadAct ccs_BadAct : Array (Option Value)} {ql_BadAct file_BadAct : Str} {vv_BadAct : Array Value} {tf_BadAct : Tok} {p1_BadAct p2_BadAct q1_BadAct q2_BadAct q3_BadAct q4_BadAct q5_BadAct q6_BadAct q7_BadAct q8_BadAct q9_BadAct q10_BadAct : Pos}
    (fi_BadAct : PySem.W.findIn K (.ref C_BadAct) "__init__" = some (some (.ref fI_BadAct)))
    (tI_BadAct : PySem.W.typeIn K (.ref fI_BadAct) = some (.type "function"))
    (lI_BadAct : K.lookup fI_BadAct = some ⟨oc_BadAct, od_BadAct, .func (PySem.W.ksFn "__init__" ql_BadAct (xA "name" p1_BadAct p2_BadAct) (xB "name" q1_BadAct q2_BadAct q3_BadAct q4_BadAct q5_BadAct q6_BadAct q7_BadAct q8_BadAct q9_BadAct q10_BadAct) (xS "name") .none kV_BadAct doc_BadAct pm_BadAct an_BadAct (.ref cda_BadAct) ct_BadAct cc_BadAct), osl_BadAct⟩)
    (cd_BadAct : PySem.W.codeIn K (.ref cda_BadAct) ql_BadAct = true)
    (ce_BadAct : K.lookup cc_BadAct = some ⟨cl_BadAct, cld_BadAct, .cell (some (.ref C_BadAct)), csl_BadAct⟩)
    (co_BadAct : K.lookup cda_BadAct = some ⟨ccl_BadAct, cdd_BadAct, .fields vv_BadAct, ccs_BadAct⟩)
    (cv_BadAct : vv_BadAct[2]? = some (.str file_BadAct tf_BadAct))
    (cf_BadAct : ((l.prog.main.file : Str) == file_BadAct) = true)
    (bi_BadAct : ∀ e v, bindArgs (PySem.W.ksFn "__init__" ql_BadAct (xA "name" p1_BadAct p2_BadAct) (xB "name" q1_BadAct q2_BadAct q3_BadAct q4_BadAct q5_BadAct q6_BadAct q7_BadAct q8_BadAct q9_BadAct q10_BadAct) (xS "name") .none kV_BadAct doc_BadAct pm_BadAct an_BadAct (.ref cda_BadAct) ct_BadAct cc_BadAct) ⟨[.ref e, v], []⟩ = pure [((PySem.Str.ofString "self" : Str), .ref e), ("name", v)])
    (ev_BadAct : ∀ L : Addr, ∃ pl, eval (xCall "name" q1_BadAct q2_BadAct q3_BadAct q4_BadAct q5_BadAct) (PySem.W.ksEnv ql_BadAct (xS "name") L fI_BadAct (.ref cda_BadAct) cc_BadAct) = (do
      let ov ← attributeBase (.Call (.Name "super" q1_BadAct) [] [] q2_BadAct) "__init__" (PySem.W.ksEnv ql_BadAct (xS "name") L fI_BadAct (.ref cda_BadAct) cc_BadAct) (eval (.Call (.Name "super" q1_BadAct) [] [] q2_BadAct) (PySem.W.ksEnv ql_BadAct (xS "name") L fI_BadAct (.ref cda_BadAct) cc_BadAct))
      standAt q3_BadAct.atName
      let (g, first) ← holding [ov] (getMethod ov "__init__" pl)
      callWith q5_BadAct g first (backTo q5_BadAct (starEach [.Name "name" q4_BadAct] (PySem.W.ksEnv ql_BadAct (xS "name") L fI_BadAct (.ref cda_BadAct) cc_BadAct))) []))
    (z0 : PySem.W.nsIn K mainGlobals "ValueError" = some none)
    (z1 : PySem.W.nsIn K mainGlobals "abs" = some none)
    (z2 : PySem.W.nsIn K mainGlobals "all" = some none)
    (z3 : PySem.W.nsIn K mainGlobals "bool" = some none)
    (z4 : PySem.W.nsIn K mainGlobals "dict" = some none)
    (z5 : PySem.W.nsIn K mainGlobals "int" = some none)
    (z6 : PySem.W.nsIn K mainGlobals "isinstance" = some none)
    (z7 : PySem.W.nsIn K mainGlobals "len" = some none)
    (z8 : PySem.W.nsIn K mainGlobals "list" = some none)
    (z9 : PySem.W.nsIn K mainGlobals "min" = some none)
    (z10 : PySem.W.nsIn K mainGlobals "range" = some none)
    (z11 : PySem.W.nsIn K mainGlobals "repr" = some none)
    (z12 : PySem.W.nsIn K mainGlobals "sorted" = some none)
    (z13 : PySem.W.nsIn K mainGlobals "str" = some none)
    (z14 : PySem.W.nsIn K mainGlobals "tuple" = some none)
    {tk0 : Tok}
    (y0 : PySem.W.nsIn K mainGlobals "LETTERS" = some (some (.str "abcdefghijklmnopqrstuvwxyz" tk0)))
    {tk1 : Tok}
    (y1 : PySem.W.nsIn K mainGlobals "MOST_LETTERS" = some (some (.int 8 tk1)))
    {tk2 : Tok}
    (y2 : PySem.W.nsIn K mainGlobals "MOST_ARGUMENTS" = some (some (.int 2 tk2)))
    {tk3 : Tok}
    (y3 : PySem.W.nsIn K mainGlobals "MOST_OUTCOMES" = some (some (.int 6 tk3)))
    {tk4 : Tok}
    (y4 : PySem.W.nsIn K mainGlobals "MOST_BROUGHT" = some (some (.int 2 tk4)))
    : ∃ fd : FuncData, (∀ (t : Shared) (u : Value), BindsTo t fd ⟨[u], []⟩ [("_law_script", u)]) ∧ ∀ base : Heap, K.In base → base.Ns mainGlobals mg → FnOkG l.prog w K mg base CX0 60 fa fd P_law (sp_law K) := by
  have e := hfa.symm.trans (PySem.W.mg_of X G a17)
  cases e
  exact ⟨_, fun s v => .of_eq rfl, fun base _ _ => ok_law (T := {
    d_is_integer := ⟨_, _, fun_mk l0 c0 k0, PySem.W.mg_of X G a0, (fun_mk l0 c0 k0).binds fun _ _ _ _ _ _ us hl => match us, hl with | [_], _ => rfl⟩
    d_is_name := ⟨_, _, fun_mk l1 c1 k1, PySem.W.mg_of X G a1, (fun_mk l1 c1 k1).binds fun _ _ _ _ _ _ us hl => match us, hl with | [_], _ => rfl⟩
    d_is_outcome := ⟨_, _, fun_mk l2 c2 k2, PySem.W.mg_of X G a2, (fun_mk l2 c2 k2).binds fun _ _ _ _ _ _ us hl => match us, hl with | [_], _ => rfl⟩
    d_is_within := ⟨_, _, fun_mk l3 c3 k3, PySem.W.mg_of X G a3, (fun_mk l3 c3 k3).binds fun _ _ _ _ _ _ us hl => match us, hl with | [_, _], _ => rfl⟩
    d_are_outcomes := ⟨_, _, fun_mk l4 c4 k4, PySem.W.mg_of X G a4, (fun_mk l4 c4 k4).binds fun _ _ _ _ _ _ us hl => match us, hl with | [_], _ => rfl⟩
    d_is_act := ⟨_, _, fun_mk l5 c5 k5, PySem.W.mg_of X G a5, (fun_mk l5 c5 k5).binds fun _ _ _ _ _ _ us hl => match us, hl with | [_], _ => rfl⟩
    d__law_bag := ⟨_, _, fun_mk l6 c6 k6, PySem.W.mg_of X G a6, (fun_mk l6 c6 k6).binds fun _ _ _ _ _ _ us hl => match us, hl with | [_], _ => rfl⟩
    d__law_take := ⟨_, _, fun_mk l7 c7 k7, PySem.W.mg_of X G a7, (fun_mk l7 c7 k7).binds fun _ _ _ _ _ _ us hl => match us, hl with | [_, _], _ => rfl⟩
    d__law_alike := ⟨_, _, fun_mk l8 c8 k8, PySem.W.mg_of X G a8, (fun_mk l8 c8 k8).binds fun _ _ _ _ _ _ us hl => match us, hl with | [_, _], _ => rfl⟩
    d__law_mixed := ⟨_, _, fun_mk l9 c9 k9, PySem.W.mg_of X G a9, (fun_mk l9 c9 k9).binds fun _ _ _ _ _ _ us hl => match us, hl with | [_, _], _ => rfl⟩
    d__law_names := ⟨_, _, fun_mk l10 c10 k10, PySem.W.mg_of X G a10, (fun_mk l10 c10 k10).binds fun _ _ _ _ _ _ us hl => match us, hl with | [_, _], _ => rfl⟩
    d__law_acts := ⟨_, _, fun_mk l11 c11 k11, PySem.W.mg_of X G a11, (fun_mk l11 c11 k11).binds fun _ _ _ _ _ _ us hl => match us, hl with | [_, _], _ => rfl⟩
    d__law_world_of := ⟨_, _, fun_mk l12 c12 k12, PySem.W.mg_of X G a12, (fun_mk l12 c12 k12).binds fun _ _ _ _ _ _ us hl => match us, hl with | [_, _], _ => rfl⟩
    d__law_more := ⟨_, _, fun_mk l13 c13 k13, PySem.W.mg_of X G a13, (fun_mk l13 c13 k13).binds fun _ _ _ _ _ _ us hl => match us, hl with | [_, _], _ => rfl⟩
    d__law_fourth := ⟨_, _, fun_mk l14 c14 k14, PySem.W.mg_of X G a14, (fun_mk l14 c14 k14).binds fun _ _ _ _ _ _ us hl => match us, hl with | [_, _], _ => rfl⟩
    d__law_near := ⟨_, _, fun_mk l15 c15 k15, PySem.W.mg_of X G a15, (fun_mk l15 c15 k15).binds fun _ _ _ _ _ _ us hl => match us, hl with | [_, _], _ => rfl⟩
    d__law_right := ⟨_, _, fun_mk l16 c16 k16, PySem.W.mg_of X G a16, (fun_mk l16 c16 k16).binds fun _ _ _ _ _ _ us hl => match us, hl with | [_, _], _ => rfl⟩
    d_law := ⟨_, _, fun_mk l17 c17 k17, PySem.W.mg_of X G a17, (fun_mk l17 c17 k17).binds fun _ _ _ _ _ _ us hl => match us, hl with | [_], _ => rfl⟩
    C_World := C_World
    g_World := PySem.W.mg_of X G g_World
    k_World := k_World
    c_World := ⟨pg_World, ic_World, po_World, sa_World⟩
    mk_World := mk_World
    is_World := ⟨ca_World, cn_World, ct_World, cm_World⟩
    ne_World := ne_World
    ty_World := tyc_World
    p_World_its_acts := p_World_its_acts
    sl_World_its_acts := ⟨at_World_its_acts, get_World_its_acts, tk_World_its_acts, ty_World_its_acts, ix_World_its_acts, by decide⟩
    d_World___init__ := ⟨_, _, fun_mk lm_World___init__ co_World___init__ km_World___init__, ⟨am_World___init__, im_World___init__, km_World___init__⟩, (fun_mk lm_World___init__ co_World___init__ km_World___init__).binds fun _ _ _ _ _ _ us hl => match us, hl with | [_, _], _ => rfl⟩
    d_World_acts := ⟨_, _, fun_mk lm_World_acts co_World_acts km_World_acts, ⟨am_World_acts, im_World_acts, km_World_acts⟩, (fun_mk lm_World_acts co_World_acts km_World_acts).binds fun _ _ _ _ _ _ us hl => match us, hl with | [_], _ => rfl⟩
    d_World_arguments := ⟨_, _, fun_mk lm_World_arguments co_World_arguments km_World_arguments, ⟨am_World_arguments, im_World_arguments, km_World_arguments⟩, (fun_mk lm_World_arguments co_World_arguments km_World_arguments).binds fun _ _ _ _ _ _ us hl => match us, hl with | [_, _], _ => rfl⟩
    d_World_outcomes := ⟨_, _, fun_mk lm_World_outcomes co_World_outcomes km_World_outcomes, ⟨am_World_outcomes, im_World_outcomes, km_World_outcomes⟩, (fun_mk lm_World_outcomes co_World_outcomes km_World_outcomes).binds fun _ _ _ _ _ _ us hl => match us, hl with | [_, _], _ => rfl⟩
    d_World_brings := ⟨_, _, fun_mk lm_World_brings co_World_brings km_World_brings, ⟨am_World_brings, im_World_brings, km_World_brings⟩, (fun_mk lm_World_brings co_World_brings km_World_brings).binds fun _ _ _ _ _ _ us hl => match us, hl with | [_, _, _], _ => rfl⟩
    d_World___eq__ := ⟨_, _, fun_mk lm_World___eq__ co_World___eq__ km_World___eq__, ⟨am_World___eq__, im_World___eq__, km_World___eq__⟩, (fun_mk lm_World___eq__ co_World___eq__ km_World___eq__).binds fun _ _ _ _ _ _ us hl => match us, hl with | [_, _], _ => rfl⟩
    b_ValueError := PySem.W.mg_none_of X G z0
    b_abs := PySem.W.mg_none_of X G z1
    b_all := PySem.W.mg_none_of X G z2
    b_bool := PySem.W.mg_none_of X G z3
    b_dict := PySem.W.mg_none_of X G z4
    b_int := PySem.W.mg_none_of X G z5
    b_isinstance := PySem.W.mg_none_of X G z6
    b_len := PySem.W.mg_none_of X G z7
    b_list := PySem.W.mg_none_of X G z8
    b_min := PySem.W.mg_none_of X G z9
    b_range := PySem.W.mg_none_of X G z10
    b_repr := PySem.W.mg_none_of X G z11
    b_sorted := PySem.W.mg_none_of X G z12
    b_str := PySem.W.mg_none_of X G z13
    b_tuple := PySem.W.mg_none_of X G z14
    v_LETTERS := _
    c_LETTERS := PySem.W.mg_of X G y0
    r_LETTERS := ⟨_, rfl⟩
    v_MOST_LETTERS := _
    c_MOST_LETTERS := PySem.W.mg_of X G y1
    r_MOST_LETTERS := ⟨_, rfl⟩
    v_MOST_ARGUMENTS := _
    c_MOST_ARGUMENTS := PySem.W.mg_of X G y2
    r_MOST_ARGUMENTS := ⟨_, rfl⟩
    v_MOST_OUTCOMES := _
    c_MOST_OUTCOMES := PySem.W.mg_of X G y3
    r_MOST_OUTCOMES := ⟨_, rfl⟩
    v_MOST_BROUGHT := _
    c_MOST_BROUGHT := PySem.W.mg_of X G y4
    r_MOST_BROUGHT := ⟨_, rfl⟩
  }) (Y := {
    C_MoveError := C_MoveError
    x_MoveError := ⟨PySem.W.mg_of X G g_MoveError, ex_MoveError, hd_MoveError, ty_MoveError⟩
    C_Wrong := C_Wrong
    x_Wrong := ⟨PySem.W.mg_of X G g_Wrong, ⟨_, _, _, _, _, _, _, _, _, _, _, _, _, _, _, cls_Wrong, ve_Wrong⟩, sa_Wrong, no_Wrong, k_Wrong, ex_Wrong, vs_Wrong, ty_Wrong, hd_Wrong, up_Wrong, opq_, self_Wrong, ⟨_, _, _, _, _, _, _, _, _, _, _, _, _, _, _, _, _, _, _, _, _, _, _, _, fi_Wrong, tI_Wrong, lI_Wrong, cd_Wrong, ⟨_, _, _, ce_Wrong⟩, _, _, _, _, _, _, co_Wrong, cv_Wrong, cf_Wrong, bi_Wrong, ev_Wrong⟩, topS_, PySem.W.mg_none_of X G sup_, by decide +kernel, by decide +kernel, by decide +kernel, by decide +kernel, by decide +kernel⟩
    C_BadAct := C_BadAct
    x_BadAct := ⟨PySem.W.mg_of X G g_BadAct, ⟨_, _, _, _, _, _, _, _, _, _, _, _, _, _, _, cls_BadAct, ve_BadAct⟩, sa_BadAct, no_BadAct, k_BadAct, ex_BadAct, vs_BadAct, ty_BadAct, hd_BadAct, up_BadAct, opq_, self_BadAct, ⟨_, _, _, _, _, _, _, _, _, _, _, _, _, _, _, _, _, _, _, _, _, _, _, _, fi_BadAct, tI_BadAct, lI_BadAct, cd_BadAct, ⟨_, _, _, ce_BadAct⟩, _, _, _, _, _, _, co_BadAct, cv_BadAct, cf_BadAct, bi_BadAct, ev_BadAct⟩, topS_, PySem.W.mg_none_of X G sup_, by decide +kernel, by decide +kernel, by decide +kernel, by decide +kernel, by decide +kernel⟩
  })⟩
end
end Fm
open PySem PySem.W PyProof.Rows
set_option maxHeartbeats 0 in
theorem PySem.Challenge.cw_framemoves_k20_worlds_made_holds : PySem.Challenge.rw_framemoves_k20_worlds_made.Holds := by
  w_on; o_law; k_head; (case hw => w_witness2)
  k_fill
  refine Fm.walk_G (l := PySem.Challenge.rw_framemoves_k20_worlds_made) (n := 63) (k := 60) (x := "_law_script") (sp := Fm.sp_law) rfl (by decide) rfl ⟨rfl, by decide, by decide⟩ (fun w h Y => PySem.W.kIn_of Y) ?F (fun K H a ns hl hS => ⟨a, ns, rfl, hS, hl, fun _ => rfl⟩)
  case F =>
    intro w mg fa h KX G hmg
    refine' Fm.all_mk KX G hmg ?a0 ?l0 ?c0 ?k0 ?a1 ?l1 ?c1 ?k1 ?a2 ?l2 ?c2 ?k2 ?a3 ?l3 ?c3 ?k3 ?a4 ?l4 ?c4 ?k4 ?a5 ?l5 ?c5 ?k5 ?a6 ?l6 ?c6 ?k6 ?a7 ?l7 ?c7 ?k7 ?a8 ?l8 ?c8 ?k8 ?a9 ?l9 ?c9 ?k9 ?a10 ?l10 ?c10 ?k10 ?a11 ?l11 ?c11 ?k11 ?a12 ?l12 ?c12 ?k12 ?a13 ?l13 ?c13 ?k13 ?a14 ?l14 ?c14 ?k14 ?a15 ?l15 ?c15 ?k15 ?a16 ?l16 ?c16 ?k16 ?a17 ?l17 ?c17 ?k17 ?g_World ?k_World ?pg_World ?ic_World ?po_World ?sa_World ?mk_World ?ca_World ?cn_World ?ct_World ?cm_World ?ne_World ?tyc_World ?at_World_its_acts ?get_World_its_acts ?tk_World_its_acts ?ty_World_its_acts ?ix_World_its_acts ?am_World___init__ ?im_World___init__ ?lm_World___init__ ?co_World___init__ ?km_World___init__ ?am_World_acts ?im_World_acts ?lm_World_acts ?co_World_acts ?km_World_acts ?am_World_arguments ?im_World_arguments ?lm_World_arguments ?co_World_arguments ?km_World_arguments ?am_World_outcomes ?im_World_outcomes ?lm_World_outcomes ?co_World_outcomes ?km_World_outcomes ?am_World_brings ?im_World_brings ?lm_World_brings ?co_World_brings ?km_World_brings ?am_World___eq__ ?im_World___eq__ ?lm_World___eq__ ?co_World___eq__ ?km_World___eq__ ?topS_ ?sup_ ?opq_ ?g_MoveError ?ex_MoveError ?hd_MoveError ?ty_MoveError ?g_Wrong ?ex_Wrong ?hd_Wrong ?ty_Wrong ?cls_Wrong ?ve_Wrong ?sa_Wrong ?no_Wrong ?k_Wrong ?vs_Wrong ?up_Wrong ?self_Wrong ?fi_Wrong ?tI_Wrong ?lI_Wrong ?cd_Wrong ?ce_Wrong ?co_Wrong ?cv_Wrong ?cf_Wrong ?bi_Wrong ?ev_Wrong ?g_BadAct ?ex_BadAct ?hd_BadAct ?ty_BadAct ?cls_BadAct ?ve_BadAct ?sa_BadAct ?no_BadAct ?k_BadAct ?vs_BadAct ?up_BadAct ?self_BadAct ?fi_BadAct ?tI_BadAct ?lI_BadAct ?cd_BadAct ?ce_BadAct ?co_BadAct ?cv_BadAct ?cf_BadAct ?bi_BadAct ?ev_BadAct ?z0 ?z1 ?z2 ?z3 ?z4 ?z5 ?z6 ?z7 ?z8 ?z9 ?z10 ?z11 ?z12 ?z13 ?z14 ?y0 ?y1 ?y2 ?y3 ?y4
    (case a0 => k_is); (case l0 => k_is); (case c0 => k_is); (case k0 => k_is); (case a1 => k_is); (case l1 => k_is); (case c1 => k_is); (case k1 => k_is); (case a2 => k_is); (case l2 => k_is); (case c2 => k_is); (case k2 => k_is); (case a3 => k_is); (case l3 => k_is); (case c3 => k_is); (case k3 => k_is); (case a4 => k_is); (case l4 => k_is); (case c4 => k_is); (case k4 => k_is); (case a5 => k_is); (case l5 => k_is); (case c5 => k_is); (case k5 => k_is); (case a6 => k_is); (case l6 => k_is); (case c6 => k_is); (case k6 => k_is); (case a7 => k_is); (case l7 => k_is); (case c7 => k_is); (case k7 => k_is); (case a8 => k_is); (case l8 => k_is); (case c8 => k_is); (case k8 => k_is); (case a9 => k_is); (case l9 => k_is); (case c9 => k_is); (case k9 => k_is); (case a10 => k_is); (case l10 => k_is); (case c10 => k_is); (case k10 => k_is); (case a11 => k_is); (case l11 => k_is); (case c11 => k_is); (case k11 => k_is); (case a12 => k_is); (case l12 => k_is); (case c12 => k_is); (case k12 => k_is); (case a13 => k_is); (case l13 => k_is); (case c13 => k_is); (case k13 => k_is); (case a14 => k_is); (case l14 => k_is); (case c14 => k_is); (case k14 => k_is); (case a15 => k_is); (case l15 => k_is); (case c15 => k_is); (case k15 => k_is); (case a16 => k_is); (case l16 => k_is); (case c16 => k_is); (case k16 => k_is); (case a17 => k_is); (case l17 => k_is); (case c17 => k_is); (case k17 => k_is); (case g_World => k_is); (case k_World => k_is); (case pg_World => k_is); (case ic_World => k_is); (case po_World => k_is); (case sa_World => k_is); (case mk_World => k_is); (case ca_World => k_is); (case cn_World => k_is); (case ct_World => k_is); (case cm_World => k_is); (case ne_World => k_is); (case tyc_World => k_is); (case at_World_its_acts => k_is); (case get_World_its_acts => k_is); (case tk_World_its_acts => k_is); (case ty_World_its_acts => k_is); (case ix_World_its_acts => k_is); (case am_World___init__ => k_is); (case im_World___init__ => k_is); (case lm_World___init__ => k_is); (case co_World___init__ => k_is); (case km_World___init__ => k_is); (case am_World_acts => k_is); (case im_World_acts => k_is); (case lm_World_acts => k_is); (case co_World_acts => k_is); (case km_World_acts => k_is); (case am_World_arguments => k_is); (case im_World_arguments => k_is); (case lm_World_arguments => k_is); (case co_World_arguments => k_is); (case km_World_arguments => k_is); (case am_World_outcomes => k_is); (case im_World_outcomes => k_is); (case lm_World_outcomes => k_is); (case co_World_outcomes => k_is); (case km_World_outcomes => k_is); (case am_World_brings => k_is); (case im_World_brings => k_is); (case lm_World_brings => k_is); (case co_World_brings => k_is); (case km_World_brings => k_is); (case am_World___eq__ => k_is); (case im_World___eq__ => k_is); (case lm_World___eq__ => k_is); (case co_World___eq__ => k_is); (case km_World___eq__ => k_is); (case topS_ => rfl); (case sup_ => k_is); (case opq_ => k_is); (case g_MoveError => k_is); (case ex_MoveError => k_is); (case hd_MoveError => k_is); (case ty_MoveError => k_is); (case g_Wrong => k_is); (case ex_Wrong => k_is); (case hd_Wrong => k_is); (case ty_Wrong => k_is); (case cls_Wrong => k_is); (case ve_Wrong => decide +kernel); (case sa_Wrong => k_is); (case no_Wrong => k_is); (case k_Wrong => k_is); (case vs_Wrong => k_is); (case up_Wrong => ks_is); (case self_Wrong => k_is); (case fi_Wrong => k_is); (case tI_Wrong => k_is); (case lI_Wrong => k_is); (case cd_Wrong => k_is); (case ce_Wrong => k_is); (case co_Wrong => k_is); (case cv_Wrong => rfl); (case cf_Wrong => decide +kernel); (case bi_Wrong => exact fun _ _ => rfl); (case ev_Wrong => exact fun _ => ⟨_, rfl⟩); (case g_BadAct => k_is); (case ex_BadAct => k_is); (case hd_BadAct => k_is); (case ty_BadAct => k_is); (case cls_BadAct => k_is); (case ve_BadAct => decide +kernel); (case sa_BadAct => k_is); (case no_BadAct => k_is); (case k_BadAct => k_is); (case vs_BadAct => k_is); (case up_BadAct => ks_is); (case self_BadAct => k_is); (case fi_BadAct => k_is); (case tI_BadAct => k_is); (case lI_BadAct => k_is); (case cd_BadAct => k_is); (case ce_BadAct => k_is); (case co_BadAct => k_is); (case cv_BadAct => rfl); (case cf_BadAct => decide +kernel); (case bi_BadAct => exact fun _ _ => rfl); (case ev_BadAct => exact fun _ => ⟨_, rfl⟩); (case z0 => k_is); (case z1 => k_is); (case z2 => k_is); (case z3 => k_is); (case z4 => k_is); (case z5 => k_is); (case z6 => k_is); (case z7 => k_is); (case z8 => k_is); (case z9 => k_is); (case z10 => k_is); (case z11 => k_is); (case z12 => k_is); (case z13 => k_is); (case z14 => k_is); (case y0 => k_is); (case y1 => k_is); (case y2 => k_is); (case y3 => k_is); (case y4 => k_is)
