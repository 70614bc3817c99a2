import PyProof.Rows.All
import Wide.All
import OpenK.AllK
import Wide.FinOn
import HandS.ForMost
import HandS.IsInst
import HandS.TupAny
import HandS.Wide
import HandS.Deep
import HandS.SetKeys
import HandS.Style
import HandS.Conv
import PyProof.ReprRoads
import HandS.SetFor
import HandS.Strs
import HandS.Evl
import HandS.Walk
import HandS.Sort
import HandS.TupLe
import PyProof.NeKinds
import PyProof.EqAt
import PyProof.Draws
import PyProof.EnumMake
import HandS.Slots
import KE.KDictOf
import HandS.More
import HandS.ExcOwn
import HandS.Small
import PyProof.ConsumeS
import HandS.ForExc
import HandS.ExcField
import HandS.ExcIs
import KE.KExcSuper
import HandS.ListItems
import HandS.SlotsOwn
import KE.KExcIs
import HandS.DictTup
import HandS.SortOrd
import PyProof.Rows.SortKeyStr
import HandS.SortInts
import HandS.SortKw
import KE.KSortKey
import PyProof.Rows.SortStr
import PyProof.TupleOfSeq
import PyProof.InstNe
import HandS.DictComp
import PySem.Challenge.RW_framemoves_k72_rings_and_depth
import HandS.OwnEq
import KE.KEqDict
set_option Elab.async false
set_option linter.all false
set_option maxRecDepth 100000
set_option maxHeartbeats 8000000
namespace Fm
open PySem PySem.Spec PyProof.Rows L2

/-! built-in names -/
theorem bt_len : bootBuiltins "len" = some (.builtin "len") := by decide +kernel
theorem bt_abs : bootBuiltins "abs" = some (.builtin "abs") := by decide +kernel
theorem bt_isinstance : bootBuiltins "isinstance" = some (.builtin "isinstance") := by decide +kernel
theorem bt_repr : bootBuiltins "repr" = some (.builtin "repr") := by decide +kernel
theorem bt_sum : bootBuiltins "sum" = some (.builtin "sum") := by decide +kernel
theorem bt_sorted : bootBuiltins "sorted" = some (.builtin "sorted") := by decide +kernel
theorem bt_all : bootBuiltins "all" = some (.builtin "all") := by decide +kernel
theorem bt_int : bootBuiltins "int" = some (.type "int") := by decide +kernel
theorem bt_tuple : bootBuiltins "tuple" = some (.type "tuple") := by decide +kernel
theorem bt_list : bootBuiltins "list" = some (.type "list") := by decide +kernel
theorem bt_dict : bootBuiltins "dict" = some (.type "dict") := by decide +kernel
theorem bt_set : bootBuiltins "set" = some (.type "set") := by decide +kernel
theorem bt_str : bootBuiltins "str" = some (.type "str") := by decide +kernel
theorem bt_bool : bootBuiltins "bool" = some (.type "bool") := by decide +kernel

section
variable {X : Cx} {e l : Expr} {pos : Pos}
theorem pe_ty {x : Str} {n : String} (hm : X.mg x = none) (hv : bootBuiltins x = some (.type n)) (hg : Gl X x := by rfl)
    (h1 : x ≠ "__name__" := by decide) (h2 : (x == ("__debug__" : Str)) = false := by decide) : PE X (.Name x pos) (tC (.ty n)) :=
  pe_bltn hg hm hv rfl h1 h2
/-- one of two readings, chosen ahead -/
theorem pe_or2 {t u : TE} (h : PE X e t) (k : PE X e u) : PE X e (fun σ H Q => t σ H Q ∨ u σ H Q) :=
  ⟨fun pins s σ H Q I q => q.elim (h.run pins s σ H Q I) (k.run pins s σ H Q I)⟩
theorem pi_or2 {tg : Expr} {t u : TI} (h : PI X tg e t) (k : PI X tg e u) : PI X tg e (fun σ H R => t σ H R ∨ u σ H R) :=
  ⟨fun pins s σ H R I q => q.elim (h.run pins s σ H R I) (k.run pins s σ H R I)⟩

def iSeq (K : PySem.W.Frag) (tl : TE) : TI := fun σ H R => tl σ H fun x H1 => ∃ a, x = .ref a ∧
  (((∃ xs, SqL K H1 a xs) ∧ R (Itl K a) H1) ∨ ((∃ xs, SqT K H1 a xs) ∧ R (Itt K a) H1))
theorem pi_seq {tg : Expr} {tl : TE} (hl : PE X l tl) : PI X tg l (iSeq X.K tl) := by
  refine ⟨fun pins s σ H R I h => thn (hl.run pins s σ H _ I h) ?_⟩
  rintro v s1 ⟨x, H1, I1, r1, a, rfl, q⟩
  cases r1
  have fp : ∀ b ∈ [s1.heap.objs.size], FpOk X pins H1 b := fun b hb => by
    rw [List.mem_singleton.mp hb]
    exact I1.fpOk (Nat.le_refl _) (I1.hok.fresh (Nat.le_refl _))
  rcases q with ⟨⟨xs, hq⟩, q⟩ | ⟨⟨xs, hq⟩, q⟩
  · obtain ⟨its, rv, p, hz⟩ := I1.list hq
    exact wpAny_pyIter_list p.isList ⟨_, _, _, _, H1, rfl, I1.kept (t' := s1.toks) fun b o e => Heap.get?_push_of_some _ e, turn_list a _,
      ⟨_, Heap.get?_push_size _ rfl, rfl, rfl⟩, fp, q⟩
  · obtain ⟨its, rv, p, hz⟩ := I1.tuple hq
    exact wpAny_pyIter_tuple (show s1.heap.IsTuple a its.toArray from p) ⟨_, _, _, _, H1, rfl, I1.kept (t' := s1.toks) fun b o e => Heap.get?_push_of_some _ e, turn_tuple a _,
      ⟨_, Heap.get?_push_size _ rfl, rfl, rfl⟩, fp, q⟩

/-! operators by what stands there -/
def rAddS : R2 := fun x y H Q => ∃ i j, x = .str i ∧ y = .str j ∧ i.length + j.length ≤ sizeLine ∧ Q (.str (i ++ j)) H
def rAddG (K : PySem.W.Frag) : R2 := fun x y H Q => rI0 (fun i j => .int (i + j)) x y H Q ∨ (rAddS x y H Q ∨ (rCatA K x y H Q ∨ rCat x y H Q))
theorem op_addG : OpR X (binaryOp .Add) (rAddG X.K) := OpR.or op_add (OpR.or op_add_str (OpR.or op_catA op_cat))
def rMulG : R2 := fun x y H Q => rI CMul (fun i j => .int (i * j)) x y H Q ∨ rRep x y H Q
theorem op_mulG : OpR X (binaryOp .Mult) rMulG := OpR.or op_mul op_rep
def rEqG (K : PySem.W.Frag) : R2 := fun x y H Q => rEq x y H Q ∨ rEqD K x y H Q
theorem op_eqG (hu : X.A.units + 64 < cLine) : OpR X (compareOp .Eq) (rEqG X.K) := OpR.or op_eq (op_eqD hu)
def rNeG (K : PySem.W.Frag) : R2 := fun x y H Q => rNe x y H Q ∨ rNeD K x y H Q
theorem op_neG (hu : X.A.units + 64 < cLine) : OpR X (compareOp .NotEq) (rNeG X.K) := OpR.or op_ne (op_neD hu)
def rInSig : R2 := fun x y H Q => ∃ (c : Nat) (z : Str), x = .str ⟨#[c]⟩ ∧ y = .str z ∧ Q (.bl (decide (c ∈ z.cps.toList))) H
def rInG (K : PySem.W.Frag) : R2 := fun x y H Q => rInD K x y H Q ∨ rInSig x y H Q
theorem op_inG (hu : X.A.units + 65 < cLine) : OpR X (compareOp .In) (rInG X.K) := OpR.or (op_inD hu) op_in_sign
def rNotInSig : R2 := fun x y H Q => ∃ (c : Nat) (z : Str), x = .str ⟨#[c]⟩ ∧ y = .str z ∧ Q (.bl (!decide (c ∈ z.cps.toList))) H
def rNotInG (K : PySem.W.Frag) : R2 := fun x y H Q => rNotInD K x y H Q ∨ rNotInSig x y H Q
theorem op_notInG (hu : X.A.units + 65 < cLine) : OpR X (compareOp .NotIn) (rNotInG X.K) := OpR.or (op_notInD hu) op_notIn_sign
/-- len -/
def rLenG (K : PySem.W.Frag) : List V → Hp → VK → Prop := fun xs H Q =>
  (∃ p ys, xs = [.ref p] ∧ (SqL K H p ys ∨ SqT K H p ys) ∧ Q (.int ys.length) H) ∨ ((∃ z : Str, xs = [.str z] ∧ z.length ≤ sizeLine ∧ Q (.int z.length) H) ∨
    (∃ a kvs, xs = [V.ref a] ∧ H a = some (.dK kvs) ∧ Q (.int kvs.length) H))
theorem call_lenG : CallR X (.builtin "len") (rLenG X.K) := CallR.or call_len_seq (CallR.or call_len_str call_lenD)
/-- tuple(x), list(x) -/
def rTupOf (K : PySem.W.Frag) : List V → Hp → VK → Prop := fun xs H Q => ∃ p ys, xs = [.ref p] ∧ ((SqL K H p ys ∧ ∀ l, H l = none → Q (.ref l) (upd H l (.tup ys))) ∨ (SqT K H p ys ∧ Q (.ref p) H))
theorem call_tupG : CallR X (.type "tuple") (rTupOf X.K) := call_tuple_of
def rListOf (K : PySem.W.Frag) : List V → Hp → VK → Prop := fun xs H Q => ∃ p ys, xs = [.ref p] ∧ (SqL K H p ys ∨ SqT K H p ys) ∧ ∀ l, H l = none → Q (.ref l) (upd H l (.lst ys))
theorem call_listG : CallR X (.type "list") (rListOf X.K) := call_list_of
/-- slices -/
def rSlG (K : PySem.W.Frag) : V → Option Int → Option Int → Hp → VK → Prop := fun x lo hi H Q => rSlL K x lo hi H Q ∨ (rSlA K x lo hi H Q ∨ rSlS x lo hi H Q)
theorem sl_G : SlR X (rSlG X.K) := SlR.or sl_list (SlR.or sl_tupA sl_str)
end
end Fm
namespace Fm
open PySem PySem.Spec PyProof.Rows L2
/-! list.extend by a tuple, whatever its own dict and slots -/
theorem ext_tup (l b : Addr) (as bs : Array Value) (n m : Nat) (dd : Option Addr) (sl : Array (Option Value))
    (h0 : ¬(!as.isEmpty && Builtin.List.listTooLong (as.size + bs.size)) = true) (h1 : as.size ≤ sizeLine) (h2 : as.size + bs.size ≤ sizeLine + 1) :
    Meets (Builtin.«list.extend» ⟨[.ref l, .ref b], []⟩) (fun _ R s =>
      s.heap.get? l = some { cls := .type "list", dict := none, data := .seq as n, slots := #[] } ∧
      s.heap.get? b = some { cls := .type "tuple", dict := dd, data := .seq bs m, slots := sl } ∧
      R (.ok (.ret Value.none)) { s with heap := s.heap.update l (Obj.mapSeq fun x => x ++ bs), toks := s.toks }) := by
  refine .of_wp fun prog w A R s h => ?_
  obtain ⟨hp, g, d, tk, os⟩ := s
  obtain ⟨ha, hb, hr⟩ := h
  have q1 := AutoSeq1.idx_int
  have q2 := AutoSeq1.sub_tuple_tuple
  have q3 := AutoSeq1.sub_list_list
  have q4 := AutoSeq1.sub_tuple_list
  have q5 := AutoSeq1.sub_list_tuple
  have hz : (as ++ bs).size ≤ sizeLine + 1 := by
    rw [Array.size_append]
    exact h2
  wp_walk using (wpAny_updateSeq ha rfl (hz := h1) (_hz' := hz)), AutoSeq1.wpAny_loadPart' ha, AutoSeq1.wpAny_loadPart' hb
  exact ⟨_, rfl, hr⟩
section
variable {X : Cx}
def rExtT (K : PySem.W.Frag) : V → List V → Hp → VK → Prop := fun x vs H Q => ∃ l b xs zs, x = .ref l ∧ vs = [.ref b] ∧ H l = some (.lst xs) ∧ SqT K H b zs ∧
  xs.length + zs.length ≤ sizeLine ∧ Q .non (upd H l (.lst (xs ++ zs)))
theorem mt_extT : MtR X "list.extend" (rExtT X.K) := by
  intro pins s σ H x vs v us Q I rx rv h
  obtain ⟨l, b, xs, zs, rfl, rfl, hH, hB, hz, q⟩ := h
  cases rx
  obtain ⟨u, rfl, ru⟩ := rv.one
  cases ru
  obtain ⟨z, its, n, r, hl, e⟩ := I.lstM hH
  obtain ⟨its2, r2, ⟨⟨cls, dd, data, sl⟩, ho, hc, m, hd⟩, hz2⟩ := I.tuple hB
  simp only at hc hd
  subst hc hd
  have e1 := r.length
  have e2 := r2.length
  have hs : its.toArray.size + its2.toArray.size ≤ sizeLine := by
    rw [List.size_toArray, List.size_toArray]
    omega
  have hlong : ¬ (!its.toArray.isEmpty && Builtin.List.listTooLong (its.toArray.size + its2.toArray.size)) = true := by
    rw [notLongL hs, Bool.and_false]
    exact Bool.false_ne_true
  refine call_meets PySem.F.slot_list_extend ⟨_, e, rfl⟩ PySem.F.entry_list_extend (PySem.F.args_list_extend_2 _ _)
    (ext_tup l b its.toArray its2.toArray n m dd sl hlong (by rw [List.size_toArray]; omega) (by omega)) ⟨e, ho, ?_⟩
  refine ⟨.non, _, I.lset (its' := its ++ its2) hH e (by simp) (r.append r2) ?_, rfl, q⟩
  rw [List.length_append]
  omega
def rExtG (K : PySem.W.Frag) : V → List V → Hp → VK → Prop := fun x vs H Q => rExtend x vs H Q ∨ rExtT K x vs H Q
theorem mt_extendG : MtR X "list.extend" (rExtG X.K) := MtR.or mt_extend mt_extT

/-! repr of data, where no repr is under way -/
def rReprG (K : PySem.W.Frag) : List V → Hp → VK → Prop := fun xs H Q => ∃ (x : V) (d : PyData), xs = [x] ∧ Dp K H x d ∧ d.showable = true ∧ d.hasDict = false ∧ d.depth ≤ 60 ∧ d.shown.length ≤ sizeLine ∧ Q (.str d.shown) H
theorem call_reprG (hg : X.A.guards = some []) (hu : X.A.units + 64 < cLine) : CallR X (.builtin "repr") (rReprG X.K) := by
  intro pins s σ H xs us Q I rv h
  obtain ⟨x, d, rfl, hd, hs, hn, hdp, hz, q⟩ := h
  obtain ⟨u, rfl, ru⟩ := rv.one
  obtain ⟨as, R⟩ := Dp.reads I d x u hd ru
  have fin : ∀ h' (t : Tok) tk, (∀ b o, s.heap.get? b = some o → h'.get? b = some o) → EP X pins σ Q (.str d.shown t) { s with heap := h', toks := tk } := fun h' t tk hk =>
    ⟨.str d.shown, H, I.kept (h' := h') (t' := tk) hk, ⟨t, rfl⟩, q⟩
  cases hd with
  | non =>
    cases ru
    exact PySem.P.repr_of_none (fin s.heap _ _ fun _ _ e => e)
  | bl b =>
    cases ru
    exact PySem.P.repr_of_bool (fin s.heap _ _ fun _ _ e => e)
  | int i =>
    obtain ⟨t, rfl⟩ := ru
    exact PySem.P.repr_of_int (by simpa [PyData.showable] using hs) (fin s.heap _ _ fun _ _ e => e)
  | str y =>
    obtain ⟨t, rfl⟩ := ru
    exact PySem.P.repr_of_str (fin s.heap _ _ fun _ _ e => e) hz
  | lst h1 h2 =>
    cases ru
    exact PySem.repr_of_reads' R hs (fun c => by rw [hn] at c; cases c) hg (by omega) (fun _ _ e => e) (fun h' t tk hk => fin h' t tk hk) hz
  | tup h1 h2 =>
    cases ru
    exact PySem.repr_of_reads' R hs (fun c => by rw [hn] at c; cases c) hg (by omega) (fun _ _ e => e) (fun h' t tk hk => fin h' t tk hk) hz
end

/-! defs that may ask for a repr: called where none is under way -/
structure FnOkG (P : Program) (w : World) (K : PySem.W.Frag) (mg : Str → Option Value) (base : Heap) (CX : CXT) (k : Nat) (f : Addr) (fd : FuncData) (ps : List Str) (sp : Sp) : Prop where
  len : ∀ vs H Q E, sp vs H Q E → vs.length = ps.length
  run : ∀ (A : Around) (outer : List Env) (s : Shared) (H : Hp) (args : Args) (us : List Value) (vs : List V) (Q : VK) (E : XK), A.guards = some [] → Room k A →
    Env0 P w K mg base A outer s H → BindsTo s fd args (ps.zip us) → Vals vs us → sp vs H Q E → codeAny (model P w) A (.call (.ref f) args) (CR CX outer P w H s Q E) s
section
variable {P : Program} {w : World} {K : PySem.W.Frag} {mg : Str → Option Value} {base : Heap} {CX : CXT}
theorem FnOkG.mono {j k : Nat} {f : Addr} {fd : FuncData} {ps : List Str} {sp : Sp} (F : FnOkG P w K mg base CX j f fd ps sp) (h : j ≤ k) : FnOkG P w K mg base CX k f fd ps sp :=
  ⟨F.len, fun A outer s H args us vs Q E hg hr => F.run A outer s H args us vs Q E hg (hr.mono h)⟩
theorem guards_deeper (A : Around) (env : Env) (h : A.guards = some []) : (A.deeper env).guards = some [] := by
  first | exact h | simpa [Around.deeper] using h
/-- a def's promise by its body, as Fun.ok says it, with the guards known -/
theorem okG {x qual : Str} {st : Stmt} {f : Addr} {fd : FuncData} {N ps : List Str} {k : Nat} {sp : Sp} (F : Fun K x qual st f fd) (S : FnScope N ps (defScope st))
    (len : ∀ vs H Q E, sp vs H Q E → vs.length = ps.length)
    (body : ∀ (cdv : Value) (A : Around) (outer : List Env) (s : Shared) (H : Hp) (vs : List V) (Q : VK) (E : XK),
      (A.deeper (envOfC qual (defScope st) s.heap.objs.size f cdv)).guards = some [] → Room k (A.deeper (envOfC qual (defScope st) s.heap.objs.size f cdv)) → sp vs H Q E →
      ∃ t, PSs (cxOf CX0 P w K mg base N qual (defScope st) f cdv A outer s H E).nox (defBody st) t ∧ t { nx := fun _ H' => Q .non H', rt := Q } (start N vs) H) :
    FnOkG P w K mg base CX0 (k + 1) f fd ps sp := by
  obtain ⟨oc, od, kV, doc, pm, an, cdv, ct, osl, rfl, lk, hcd⟩ := F.ex
  refine ⟨len, fun A outer s H args us vs Q E hg hr e0 hb rv hsp => ?_⟩
  have KX : K.In s.heap := e0.mod.kin.keeps fun b o e => (e0.bs b o e).1
  have lim : s.heap.NoLimit := e0.mod.nolimit.keeps fun b o e => (e0.bs b o e).1
  refine codeAny_call_function hr.depth (KX _ _ lk) rfl S.co S.gen rfl (PySem.W.codeRec_of KX hcd) (hb _ _ _ _ ?_)
  refine wpAny_newFunctionEnv_cells S.kind (fun y hy => ?_) fun env he s1 ic => ?_
  · rcases S.par y.1 (List.of_mem_zip (show (y.1, y.2) ∈ ps.zip us from hy)).1 with q | q
    · exact .inl q
    · exact .inr ⟨q, PySem.W.cellsFrom_some _ _ _ (.inl q)⟩
  · subst he
    refine ⟨lim.keeps ic.toInCall.keep, codeAny_func ?_⟩
    obtain ⟨t, ht, hq⟩ := body cdv A outer s H vs Q E (guards_deeper A _ hg) (hr.deeper _) hsp
    have I := inv_start (CX := CX0) (N := N) (E := E) S hr.hd e0 (len _ _ _ _ hsp) rv ic
    refine wpAny_mono (ht.nox.run [] s1 (start N vs) H _ I hq) (fun fl s' hs => ?_) fun e s' hs => hs
    cases fl with
    | ret u =>
      obtain ⟨v, σ', H', J, r', q⟩ := hs
      exact ⟨v, H', J.os, J.bare, J.base, J.hok, r', q⟩
    | next =>
      obtain ⟨σ', H', J, q⟩ := hs
      exact ⟨.non, H', J.os, J.bare, J.base, J.hok, rfl, q⟩
    | brk =>
      obtain ⟨_, _, _, q⟩ := hs
      exact q.elim
    | cont =>
      obtain ⟨_, _, _, q⟩ := hs
      exact q.elim
end
section
variable {X : Cx} {CX : CXT} {k : Nat} {f : Addr} {fd : FuncData} {ps : List Str} {sp : Sp} {dvs : List V} {ds : List Value} {E : XK} {x : Str} {p pos : Pos} {e : Expr} {es : List Expr} {t : TA}
theorem pe_callG (F : FnOkG X.prog X.w X.K X.mg X.base CX k f fd ps sp) (hgd : X.A.guards = some []) (hr : Room k X.A) (hg : Gl X x) (hm : X.mg x = some (.ref f))
    (hk : PySem.W.keepIn X.K (.ref f) = true) (hb : Binds X.K fd ps ds) (hd : Vals dvs ds) (hx : Passes CX X E) (ha : PA X (e :: es) t) (hdb : (x == ("__debug__" : Str)) = false := by decide)
    (he : starEach (e :: es) X.env = (false, eval e X.env) :: starEach es X.env := by rfl) (hpl : (backTo pos (starEach es X.env)).any (·.1) = false := by rfl) :
    PE X (.Call (.Name x p) (e :: es) [] pos) (tCall sp dvs E t) := by
  refine ⟨fun pins s σ H Q I h => wpAny_Call_Name_kw (ld_glob I hg hm ?_ hdb)⟩
  refine PySem.W.callWith_K (h₀ := X.base) I.ok.mod.kin hk (thn (ha.run pos pins s σ H _ I h) ?_) he hpl
  rintro us s1 ⟨vs, H1, I1, rv, q⟩
  refine ⟨I1.kIn, ?_⟩
  have r2 := rv.append hd
  have hl : (us ++ ds).length = ps.length := by
    rw [← r2.length]
    exact F.len _ _ _ _ q
  refine wpAny_call (codeAny_mono (F.run X.A X.stack s1 H1 ⟨us, []⟩ _ _ Q E hgd hr I1.env0 (hb s1 us I1.kIn hl) r2 q) fun r s' hq => ?_)
  match r, hq with
  | .error e, hq => exact hx pins σ H1 s1 e s' I1 hq
  | .ok (.ret u), hq => exact I1.after hq
end
end Fm
namespace Fm
open PySem PySem.Spec PyProof.Rows L2

/-! heaps: what a step leaves -/
/-- tuples stay; all else stays but what stands in S -/
structure Mv (S : List Addr) (H H' : Hp) : Prop where
  tk : ∀ a xs, Rd H a (.tup xs) → Rd H' a (.tup xs)
  keep : ∀ a o, a ∉ S → H a = some o → H' a = some o
section
variable {S T : List Addr} {H H1 H2 : Hp} {p : Addr} {o : HO}
theorem Mv.refl : Mv S H H := ⟨fun _ _ h => h, fun _ _ _ h => h⟩
theorem Mv.trans (a : Mv S H H1) (b : Mv S H1 H2) : Mv S H H2 := ⟨fun c xs h => b.tk c xs (a.tk c xs h), fun c u n h => b.keep c u n (a.keep c u n h)⟩
theorem Mv.mono (a : Mv S H H1) (h : ∀ x ∈ S, x ∈ T) : Mv T H H1 := ⟨a.tk, fun c u n e => a.keep c u (fun z => n (h c z)) e⟩
theorem Mv.of_same (h : Same H H1) : Mv S H H1 := ⟨fun a xs r => r.elim (fun r => .inl (h _ _ r)) fun ⟨o, r⟩ => .inr ⟨o, h _ _ r⟩, fun a o _ e => h a o e⟩
theorem same_new (h : H p = none) : Same H (upd H p o) := fun a u e => by
  rw [upd_ne (ne_of_none e h)]
  exact e
theorem Mv.new (h : H p = none) : Mv S H (upd H p o) := .of_same (same_new h)
theorem Mv.free (a : Mv [] H H1) (h : H1 p = none) : H p = none := by
  cases q : H p with
  | none => rfl
  | some u =>
    rw [a.keep p u (List.not_mem_nil) q] at h
    cases h
theorem Mv.same (a : Mv [] H H1) : Same H H1 := fun c u e => a.keep c u List.not_mem_nil e
/-- what H does not know may be written -/
theorem Mv.wr (a : Mv S H H1) (h : H p = none) : Mv S H (upd H1 p o) := by
  refine ⟨fun c xs r => ?_, fun c u n e => ?_⟩
  · have hc : c ≠ p := by
      rintro rfl
      rcases r with r | ⟨u, r⟩ <;> (rw [h] at r; cases r)
    rcases a.tk c xs r with r | ⟨u, r⟩
    · exact .inl (by rw [upd_ne hc]; exact r)
    · exact .inr ⟨u, by rw [upd_ne hc]; exact r⟩
  · rw [upd_ne (ne_of_none e h)]
    exact a.keep c u n e
/-- a list that stands in S may be written -/
theorem Mv.set {xs : List V} (h : H p = some (.lst xs)) (hp : p ∈ S) : Mv S H (upd H p o) := by
  refine ⟨fun c ys r => ?_, fun c u n e => ?_⟩
  · have hc : c ≠ p := by
      rintro rfl
      rcases r with r | ⟨u, r⟩ <;> (rw [h] at r; cases r)
    rcases r with r | ⟨u, r⟩
    · exact .inl (by rw [upd_ne hc]; exact r)
    · exact .inr ⟨u, by rw [upd_ne hc]; exact r⟩
  · have hc : c ≠ p := fun z => n (by rw [z]; exact hp)
    rw [upd_ne hc]
    exact e
theorem Mv.sqT {K : PySem.W.Frag} {a : Addr} {xs : List V} (m : Mv S H H1) (h : SqT K H a xs) : SqT K H1 a xs := h.elim (fun h => .inl (m.tk a xs h)) .inr
end

/-! data without lists and dicts -/
mutual
def imm : PyData → Bool
  | .none | .bool _ | .int _ | .str _ => true
  | .tuple xs => immAll xs
  | .list _ => false
  | .dict _ => false
def immAll : List PyData → Bool
  | [] => true
  | x :: xs => imm x && immAll xs
end
theorem immAll_iff : ∀ {xs : List PyData}, immAll xs = true ↔ ∀ x ∈ xs, imm x = true
  | [] => by simp [immAll]
  | x :: xs => by simp [immAll, immAll_iff]
structure Im (K : PySem.W.Frag) (H : Hp) (v : V) (d : PyData) : Prop where
  dp : Dp K H v d
  im : imm d = true
structure Ims (K : PySem.W.Frag) (H : Hp) (vs : List V) (ds : List PyData) : Prop where
  dp : DpAll K H vs ds
  im : immAll ds = true
section
variable {K : PySem.W.Frag} {S : List Addr} {H H' : Hp}
mutual
theorem dp_mv (m : Mv S H H') : ∀ (d : PyData) (v : V), imm d = true → Dp K H v d → Dp K H' v d
  | .none, _, _, h => by cases h; exact .non
  | .bool b, _, _, h => by cases h; exact .bl b
  | .int i, _, _, h => by cases h; exact .int i
  | .str x, _, _, h => by cases h; exact .str x
  | .tuple ds, _, i, h => by
    cases h with
    | tup hs ha => exact .tup (m.sqT hs) (dps_mv m ds _ (by simpa [imm] using i) ha)
  | .list ds, _, i, _ => by simp [imm] at i
  | .dict _, _, _, h => by cases h
theorem dps_mv (m : Mv S H H') : ∀ (ds : List PyData) (vs : List V), immAll ds = true → DpAll K H vs ds → DpAll K H' vs ds
  | [], _, _, h => by cases h; exact .nil
  | d :: ds, _, i, h => by
    cases h with
    | cons h1 h2 =>
      have i' : imm d = true ∧ immAll ds = true := by simpa [immAll] using i
      exact .cons (dp_mv m d _ i'.1 h1) (dps_mv m ds _ i'.2 h2)
end
theorem Im.mv {v : V} {d : PyData} (h : Im K H v d) (m : Mv S H H') : Im K H' v d := ⟨dp_mv m d v h.im h.dp, h.im⟩
theorem Ims.mv {vs : List V} {ds : List PyData} (h : Ims K H vs ds) (m : Mv S H H') : Ims K H' vs ds := ⟨dps_mv m ds vs h.im h.dp, h.im⟩
theorem Ims.nil : Ims K H [] [] := ⟨.nil, rfl⟩
theorem Ims.cons {v : V} {vs : List V} {d : PyData} {ds : List PyData} (h : Im K H v d) (k : Ims K H vs ds) : Ims K H (v :: vs) (d :: ds) := ⟨.cons h.dp k.dp, by simp [immAll, h.im, k.im]⟩
theorem Ims.inv {v : V} {vs : List V} {ds : List PyData} (h : Ims K H (v :: vs) ds) : ∃ d ds', ds = d :: ds' ∧ Im K H v d ∧ Ims K H vs ds' := by
  obtain ⟨h, i⟩ := h
  cases h with
  | cons h1 h2 =>
    simp only [immAll, Bool.and_eq_true] at i
    exact ⟨_, _, rfl, ⟨h1, i.1⟩, h2, i.2⟩
theorem Ims.invD {vs : List V} {d : PyData} {ds : List PyData} (h : Ims K H vs (d :: ds)) : ∃ v vs', vs = v :: vs' ∧ Im K H v d ∧ Ims K H vs' ds := by
  obtain ⟨h, i⟩ := h
  cases h with
  | cons h1 h2 =>
    simp only [immAll, Bool.and_eq_true] at i
    exact ⟨_, _, rfl, ⟨h1, i.1⟩, h2, i.2⟩
theorem Ims.nilV {ds : List PyData} (h : Ims K H [] ds) : ds = [] := by
  obtain ⟨h, i⟩ := h
  cases h
  rfl
theorem Ims.nilD {vs : List V} (h : Ims K H vs []) : vs = [] := by
  obtain ⟨h, i⟩ := h
  cases h
  rfl
theorem Ims.length : ∀ {ds : List PyData} {vs : List V}, Ims K H vs ds → vs.length = ds.length
  | [], _, h => by rw [h.nilD]; rfl
  | d :: ds, _, h => by
    obtain ⟨v, vs', rfl, _, k⟩ := h.invD
    simp [k.length]
theorem Ims.append : ∀ {ds es : List PyData} {vs us : List V}, Ims K H vs ds → Ims K H us es → Ims K H (vs ++ us) (ds ++ es)
  | [], _, _, _, h, k => by rw [h.nilD]; exact k
  | d :: ds, _, _, _, h, k => by
    obtain ⟨v, vs', rfl, h1, h2⟩ := h.invD
    exact .cons h1 (h2.append k)
theorem Ims.get : ∀ {ds : List PyData} {vs : List V} {i : Nat} {v : V}, Ims K H vs ds → vs[i]? = some v → ∃ d, ds[i]? = some d ∧ Im K H v d
  | [], _, _, _, h, e => by rw [h.nilD] at e; simp at e
  | d :: ds, _, 0, _, h, e => by
    obtain ⟨v, vs', rfl, h1, h2⟩ := h.invD
    simp at e
    subst e
    exact ⟨d, rfl, h1⟩
  | d :: ds, _, i + 1, _, h, e => by
    obtain ⟨v, vs', rfl, h1, h2⟩ := h.invD
    exact h2.get (i := i) (by simpa using e)
theorem Ims.getD : ∀ {ds : List PyData} {vs : List V} {i : Nat} {d : PyData}, Ims K H vs ds → ds[i]? = some d → ∃ v, vs[i]? = some v ∧ Im K H v d
  | [], _, _, _, h, e => by simp at e
  | d :: ds, _, 0, _, h, e => by
    obtain ⟨v, vs', rfl, h1, h2⟩ := h.invD
    simp at e
    subst e
    exact ⟨v, rfl, h1⟩
  | d :: ds, _, i + 1, _, h, e => by
    obtain ⟨v, vs', rfl, h1, h2⟩ := h.invD
    exact h2.getD (i := i) (by simpa using e)
theorem Im.tupI {v : V} {ds : List PyData} (h : Im K H v (.tuple ds)) : ∃ a xs, v = .ref a ∧ SqT K H a xs ∧ Ims K H xs ds := by
  obtain ⟨h, i⟩ := h
  cases h with
  | tup hs ha => exact ⟨_, _, rfl, hs, ha, by simpa [imm] using i⟩
theorem Im.tup {a : Addr} {xs : List V} {ds : List PyData} (h : SqT K H a xs) (k : Ims K H xs ds) : Im K H (.ref a) (.tuple ds) := ⟨.tup h k.dp, by simpa [imm] using k.im⟩
theorem Im.int (i : Int) : Im K H (.int i) (.int i) := ⟨.int i, rfl⟩
theorem Im.str (x : Str) : Im K H (.str x) (.str x) := ⟨.str x, rfl⟩
theorem Im.bl (b : Bool) : Im K H (.bl b) (.bool b) := ⟨.bl b, rfl⟩
theorem Im.non : Im K H .non .none := ⟨.non, rfl⟩
theorem Im.intI {v : V} {i : Int} (h : Im K H v (.int i)) : v = .int i := by
  obtain ⟨h, _⟩ := h
  cases h
  rfl
theorem Im.strI {v : V} {x : Str} (h : Im K H v (.str x)) : v = .str x := by
  obtain ⟨h, _⟩ := h
  cases h
  rfl
end

/-! the bag of draws -/
def BagC (H : Hp) (b c : Addr) : Prop := ∃ (s m k : Int) (ns : List Int), H b = some (.lst [.int s, .int m, .int k, .ref c]) ∧ H c = some (.lst (ns.map V.int)) ∧ ns.length ≤ 63 ∧
  (∀ n ∈ ns, 0 ≤ n) ∧ 0 ≤ s ∧ 0 ≤ k ∧ 0 ≤ m
def Bag (H : Hp) (b : Addr) : Prop := ∃ c, BagC H b c
theorem BagC.lst {H : Hp} {b c : Addr} (h : BagC H b c) : ∃ xs, H b = some (.lst xs) := by
  obtain ⟨s, m, k, ns, h, _⟩ := h
  exact ⟨_, h⟩
theorem Bag.lst {H : Hp} {b : Addr} (h : Bag H b) : ∃ xs, H b = some (.lst xs) := h.elim fun _ h => h.lst
theorem Bag.ne {H : Hp} {b c : Addr} {xs : List V} {ns : List Int} (h : H b = some (.lst (xs ++ [.ref c]))) (k : H c = some (.lst (ns.map V.int))) : c ≠ b := by
  rintro rfl
  rw [h] at k
  have e : xs ++ [V.ref c] = ns.map V.int := by
    have := Option.some.inj k
    injection this
  have : V.ref c ∈ ns.map V.int := by
    rw [← e]
    simp
  obtain ⟨n, _, q⟩ := List.mem_map.mp this
  cases q
theorem BagC.mv {H H' : Hp} {b c : Addr} (h : BagC H b c) (m : Mv [] H H') : BagC H' b c := by
  obtain ⟨s, m', k, ns, h1, h2, r⟩ := h
  exact ⟨s, m', k, ns, m.same _ _ h1, m.same _ _ h2, r⟩
theorem Bag.mv {H H' : Hp} {b : Addr} (h : Bag H b) (m : Mv [] H H') : Bag H' b := h.elim fun c h => ⟨c, h.mv m⟩
/-- a step that may draw from the bag -/
structure Dr (b : Addr) (H H' : Hp) : Prop where
  mv : Mv [b] H H'
  bagC : ∀ c, BagC H b c → BagC H' b c
section
variable {b p : Addr} {H H' H1 H2 : Hp} {o : HO}
theorem Dr.bag (x : Dr b H H') (h : Bag H b) : Bag H' b := h.elim fun c h => ⟨c, x.bagC c h⟩
theorem Dr.refl : Dr b H H := ⟨.refl, fun _ h => h⟩
theorem Dr.trans (x : Dr b H H1) (y : Dr b H1 H2) : Dr b H H2 := ⟨x.mv.trans y.mv, fun c h => y.bagC c (x.bagC c h)⟩
theorem Dr.of (x : Mv [] H H1) : Dr b H H1 := ⟨x.mono (by simp), fun _ h => h.mv x⟩
theorem Dr.new (h : H p = none) : Dr b H (upd H p o) := .of (.new h)
theorem Dr.free (d : Dr b H H') (hB : Bag H b) (h : H' p = none) : H p = none := by
  cases q : H p with
  | none => rfl
  | some u =>
    by_cases e : p = b
    · subst e
      obtain ⟨xs, hx⟩ := (d.bag hB).lst
      rw [hx] at h
      cases h
    · rw [d.mv.keep p u (by simpa using e) q] at h
      cases h
theorem Dr.get (d : Dr b H H') (hp : p ≠ b) (h : H p = some o) : H' p = some o := d.mv.keep p o (by simpa using hp) h
theorem Dr.wr (d : Dr b H H') (hp : H p = none) : Dr b H (upd H' p o) := by
  refine ⟨d.mv.wr hp, fun c hB => ?_⟩
  obtain ⟨s', m', k', ns', h1', h2', r'⟩ := d.bagC c hB
  obtain ⟨s, m, k, ns, h1, h2, r⟩ := hB
  exact ⟨s', m', k', ns', by rw [upd_ne (ne_of_none h1 hp)]; exact h1', by rw [upd_ne (ne_of_none h2 hp)]; exact h2', r'⟩
theorem Dr.mkc {c : Addr} (m : Mv [b] H H') (h : BagC H b c) (h' : BagC H' b c) : Dr b H H' := ⟨m, fun d k => by
  obtain ⟨_, _, _, _, h1, _⟩ := h
  obtain ⟨_, _, _, _, k1, _⟩ := k
  rw [h1] at k1
  have e := Option.some.inj k1
  injection e with e
  injection e with _ e
  injection e with _ e
  injection e with _ e
  injection e with e _
  injection e with e
  rw [← e]
  exact h'⟩
theorem Bag.fneq (h : Bag H b) (hp : H p = none) : p ≠ b := by
  rintro rfl
  obtain ⟨xs, e⟩ := h.lst
  rw [e] at hp
  cases hp
end

/-! items of a list, by values -/
section
variable {X : Cx}
def rGetL (K : PySem.W.Frag) : V → V → Hp → VK → Prop := fun o i H Q => ∃ (p : Addr) (xs : List V) (j : Nat) (v : V), o = .ref p ∧ i = .int (j : Nat) ∧ SqL K H p xs ∧ xs[j]? = some v ∧ Q v H
theorem get_G : PGet X (rGetL X.K) := by
  intro pins s σ H o i ov iv Q I ro ri h
  obtain ⟨p, xs, j, v, rfl, rfl, hq, he, q⟩ := h
  cases ro
  obtain ⟨t, rfl⟩ := ri
  obtain ⟨its, r, pl, hz⟩ := I.list hq
  obtain ⟨w, ew, rw'⟩ := r.get he
  have hl := r.length
  have hn := line63
  have hj : j < its.length := (List.getElem?_eq_some_iff.mp ew).1
  exact wpAny_getItem_list pl.isList (by omega) (by omega) (by simpa using ew) ⟨v, H, I, rw', q⟩
end
end Fm
namespace Fm
open PySem PySem.Spec PyProof.Rows L2
/-- small letters, one to eight -/
def Nm (x : Str) : Prop := 1 ≤ x.length ∧ x.length ≤ 8 ∧ ∀ c ∈ x.cps.toList, 97 ≤ c ∧ c ≤ 122
instance (x : Str) : Decidable (Nm x) := by unfold Nm; infer_instance
/-! terms -/
inductive Tm where
  | var (i : Int)
  | op (x : Str) (ts : List Tm)
namespace Tm
mutual
def d : Tm → PyData
  | .var i => .int i
  | .op x ts => .tuple (.str x :: ds ts)
def ds : List Tm → List PyData
  | [] => []
  | t :: ts => d t :: ds ts
end
theorem ds_map : ∀ ts : List Tm, ds ts = ts.map d
  | [] => by simp [ds]
  | t :: ts => by simp [ds, ds_map ts]
mutual
def dep : Tm → Nat
  | .var _ => 0
  | .op _ ts => deps ts + 1
def deps : List Tm → Nat
  | [] => 0
  | t :: ts => max (dep t) (deps ts)
end
mutual
/-- how many unknowns stand there -/
def lv : Tm → Nat
  | .var _ => 1
  | .op _ ts => lvs ts
def lvs : List Tm → Nat
  | [] => 0
  | t :: ts => lv t + lvs ts
end
mutual
/-- the unknowns from left to right -/
def leaves : Tm → List Int
  | .var i => [i]
  | .op _ ts => leavesL ts
def leavesL : List Tm → List Int
  | [] => []
  | t :: ts => leaves t ++ leavesL ts
end
mutual
/-- how many operations -/
def size : Tm → Nat
  | .var _ => 0
  | .op _ ts => sizes ts + 1
def sizes : List Tm → Nat
  | [] => 0
  | t :: ts => size t + sizes ts
end
mutual
def put (f : Int → Tm) : Tm → Tm
  | .var i => f i
  | .op x ts => .op x (puts f ts)
def puts (f : Int → Tm) : List Tm → List Tm
  | [] => []
  | t :: ts => put f t :: puts f ts
end
mutual
/-- names are names, at most three parts, the unknowns keep P -/
def ok (P : Int → Prop) : Tm → Prop
  | .var i => P i
  | .op x ts => Nm x ∧ ts.length ≤ 3 ∧ oks P ts
def oks (P : Int → Prop) : List Tm → Prop
  | [] => True
  | t :: ts => ok P t ∧ oks P ts
end
theorem puts_map (f : Int → Tm) : ∀ ts : List Tm, puts f ts = ts.map (put f)
  | [] => by simp [puts]
  | t :: ts => by simp [puts, puts_map f ts]
theorem oks_iff {P : Int → Prop} : ∀ {ts : List Tm}, oks P ts ↔ ∀ t ∈ ts, ok P t
  | [] => by simp [oks]
  | t :: ts => by simp [oks, oks_iff]
theorem deps_le {n : Nat} : ∀ {ts : List Tm}, deps ts ≤ n ↔ ∀ t ∈ ts, dep t ≤ n
  | [] => by simp [deps]
  | t :: ts => by
    have := deps_le (n := n) (ts := ts)
    simp only [deps, List.mem_cons, forall_eq_or_imp, ← this]
    omega
theorem leavesL_append : ∀ ts us : List Tm, leavesL (ts ++ us) = leavesL ts ++ leavesL us
  | [], _ => by simp [leavesL]
  | t :: ts, us => by simp [leavesL, leavesL_append ts us]
theorem sizes_append : ∀ ts us : List Tm, sizes (ts ++ us) = sizes ts + sizes us
  | [], _ => by simp [sizes]
  | t :: ts, us => by
    simp only [List.cons_append, sizes, sizes_append ts us]
    omega
theorem lvs_append : ∀ ts us : List Tm, lvs (ts ++ us) = lvs ts + lvs us
  | [], _ => by simp [lvs]
  | t :: ts, us => by
    simp only [List.cons_append, lvs, lvs_append ts us]
    omega
mutual
theorem leaves_len : ∀ t : Tm, (leaves t).length = lv t
  | .var _ => by simp [leaves, lv]
  | .op _ ts => by simp [leaves, lv, leavesL_len ts]
theorem leavesL_len : ∀ ts : List Tm, (leavesL ts).length = lvs ts
  | [] => by simp [leavesL, lvs]
  | t :: ts => by simp [leavesL, lvs, leaves_len t, leavesL_len ts]
end
mutual
theorem ok_leaves {P : Int → Prop} : ∀ t : Tm, ok P t → ∀ i ∈ leaves t, P i
  | .var j, h, i, hi => by
    simp only [leaves, List.mem_singleton] at hi
    rw [hi]
    exact h
  | .op _ ts, h, i, hi => oks_leaves ts h.2.2 i (by simpa [leaves] using hi)
theorem oks_leaves {P : Int → Prop} : ∀ ts : List Tm, oks P ts → ∀ i ∈ leavesL ts, P i
  | [], _, i, hi => by simp [leavesL] at hi
  | t :: ts, h, i, hi => by
    rcases List.mem_append.mp (show i ∈ leaves t ++ leavesL ts by simpa [leavesL] using hi) with hi | hi
    · exact ok_leaves t h.1 i hi
    · exact oks_leaves ts h.2 i hi
end
mutual
theorem ok_mono {P R : Int → Prop} (h : ∀ i, P i → R i) : ∀ t : Tm, ok P t → ok R t
  | .var i, k => h i k
  | .op _ ts, k => ⟨k.1, k.2.1, oks_mono h ts k.2.2⟩
theorem oks_mono {P R : Int → Prop} (h : ∀ i, P i → R i) : ∀ ts : List Tm, oks P ts → oks R ts
  | [], _ => trivial
  | t :: ts, k => ⟨ok_mono h t k.1, oks_mono h ts k.2⟩
end
mutual
theorem ok_put {P R : Int → Prop} {f : Int → Tm} (h : ∀ i, P i → ok R (f i)) : ∀ t : Tm, ok P t → ok R (put f t)
  | .var i, k => h i k
  | .op _ ts, k => by
    refine ⟨k.1, ?_, oks_puts h ts k.2.2⟩
    rw [puts_map, List.length_map]
    exact k.2.1
theorem oks_puts {P R : Int → Prop} {f : Int → Tm} (h : ∀ i, P i → ok R (f i)) : ∀ ts : List Tm, oks P ts → oks R (puts f ts)
  | [], _ => trivial
  | t :: ts, k => ⟨ok_put h t k.1, oks_puts h ts k.2⟩
end
mutual
theorem dep_put {P : Int → Prop} {f : Int → Tm} {n : Nat} (h : ∀ i, P i → dep (f i) ≤ n) : ∀ t : Tm, ok P t → dep (put f t) ≤ dep t + n
  | .var i, k => by simpa [put, dep] using h i k
  | .op _ ts, k => by
    have := deps_puts h ts k.2.2
    simp only [put, dep]
    omega
theorem deps_puts {P : Int → Prop} {f : Int → Tm} {n : Nat} (h : ∀ i, P i → dep (f i) ≤ n) : ∀ ts : List Tm, oks P ts → deps (puts f ts) ≤ deps ts + n
  | [], _ => by simp [puts, deps]
  | t :: ts, k => by
    have h1 := dep_put h t k.1
    have h2 := deps_puts h ts k.2
    simp only [puts, deps]
    omega
end
mutual
/-- what a term's text may come to, without its unknowns' figures -/
def cst : Tm → Nat
  | .var _ => 0
  | .op _ ts => csts ts + 90
def csts : List Tm → Nat
  | [] => 0
  | t :: ts => cst t + 2 + csts ts
end
mutual
theorem cst_put {P : Int → Prop} {f : Int → Tm} {c : Nat} (h : ∀ i, P i → cst (f i) ≤ c) : ∀ t : Tm, ok P t → cst (put f t) ≤ cst t + lv t * c
  | .var i, k => by simpa [put, cst, lv] using h i k
  | .op _ ts, k => by
    have := csts_puts h ts k.2.2
    simp only [put, cst, lv]
    omega
theorem csts_puts {P : Int → Prop} {f : Int → Tm} {c : Nat} (h : ∀ i, P i → cst (f i) ≤ c) : ∀ ts : List Tm, oks P ts → csts (puts f ts) ≤ csts ts + lvs ts * c
  | [], _ => by simp [puts, csts]
  | t :: ts, k => by
    have h1 := cst_put h t k.1
    have h2 := csts_puts h ts k.2
    simp only [puts, csts, lvs, Nat.add_mul]
    omega
end
mutual
theorem lv_put {P : Int → Prop} {f : Int → Tm} {c : Nat} (h : ∀ i, P i → lv (f i) ≤ c) : ∀ t : Tm, ok P t → lv (put f t) ≤ lv t * c
  | .var i, k => by simpa [put, lv] using h i k
  | .op _ ts, k => by simpa [put, lv] using lvs_puts h ts k.2.2
theorem lvs_puts {P : Int → Prop} {f : Int → Tm} {c : Nat} (h : ∀ i, P i → lv (f i) ≤ c) : ∀ ts : List Tm, oks P ts → lvs (puts f ts) ≤ lvs ts * c
  | [], _ => by simp [puts, lvs]
  | t :: ts, k => by
    have h1 := lv_put h t k.1
    have h2 := lvs_puts h ts k.2
    simp only [puts, lvs, Nat.add_mul]
    omega
end
mutual
theorem put_congr {f g : Int → Tm} : ∀ t : Tm, (∀ i ∈ leaves t, f i = g i) → put f t = put g t
  | .var i, h => h i (by simp [leaves])
  | .op x ts, h => by
    show Tm.op x (puts f ts) = .op x (puts g ts)
    rw [puts_congr ts fun i hi => h i (by simpa [leaves] using hi)]
theorem puts_congr {f g : Int → Tm} : ∀ ts : List Tm, (∀ i ∈ leavesL ts, f i = g i) → puts f ts = puts g ts
  | [], _ => rfl
  | t :: ts, h => by
    show put f t :: puts f ts = put g t :: puts g ts
    rw [put_congr t fun i hi => h i (by simp [leavesL, hi]), puts_congr ts fun i hi => h i (by simp [leavesL, hi])]
end
/-- trees of bounded depth are small -/
theorem small {P : Int → Prop} : ∀ (n : Nat) (t : Tm), ok P t → dep t ≤ n → lv t ≤ 3 ^ n ∧ cst t + 48 ≤ 48 * 3 ^ n
  | 0, .var i, _, _ => by simp [lv, cst]
  | 0, .op x ts, _, h => by simp [dep] at h
  | n + 1, .var i, _, _ => by
    have := Nat.one_le_pow (n + 1) 3 (by decide)
    simp only [lv, cst]
    omega
  | n + 1, .op x ts, k, h => by
    have hd : ∀ t ∈ ts, dep t ≤ n := deps_le.mp (by simp only [dep] at h; omega)
    have ho := oks_iff.mp k.2.2
    have hl := k.2.1
    have ih : ∀ t ∈ ts, lv t ≤ 3 ^ n ∧ cst t + 48 ≤ 48 * 3 ^ n := fun t ht => small n t (ho t ht) (hd t ht)
    have h1 := Nat.one_le_pow n 3 (by decide)
    rw [Nat.pow_succ]
    simp only [lv, cst]
    match ts, hl, ih with
    | [], _, _ => simp only [lvs, csts]; omega
    | [a], _, ih =>
      have := ih a (by simp)
      simp only [lvs, csts]; omega
    | [a, b], _, ih =>
      have := ih a (by simp)
      have := ih b (by simp)
      simp only [lvs, csts]; omega
    | [a, b, c], _, ih =>
      have := ih a (by simp)
      have := ih b (by simp)
      have := ih c (by simp)
      simp only [lvs, csts]; omega
end Tm
mutual
theorem imm_d : ∀ t : Tm, imm t.d = true
  | .var _ => by simp [Tm.d, imm]
  | .op _ ts => by simp [Tm.d, imm, immAll, imm_ds ts]
theorem imm_ds : ∀ ts : List Tm, immAll (Tm.ds ts) = true
  | [] => by simp [Tm.ds, immAll]
  | t :: ts => by simp [Tm.ds, immAll, imm_d t, imm_ds ts]
end
end Fm
namespace Fm
open PySem PySem.Spec PyProof.Rows L2
/-! what is worth a value, the heap as it is -/
structure TV (t : TE) (σ : L2.St) (H : Hp) (v : V) : Prop where
  go : ∀ Q : VK, Q v H → t σ H Q
structure TB (t : TT) (σ : L2.St) (H : Hp) (b : Bool) : Prop where
  go : ∀ Q : Bool → Hp → Prop, Q b H → t σ H Q
theorem vint_eq {i j : Int} : decide (V.int i = V.int j) = decide (i = j) := by
  by_cases e : i = j
  · rw [e, decide_eq_true rfl, decide_eq_true rfl]
  · rw [decide_eq_false e, decide_eq_false fun z => e (V.int.inj z)]
section
variable {K : PySem.W.Frag} {σ : L2.St} {H : Hp} {ta tb : TE} {t u : TT} {a b : Bool} {i j : Int} {x y v : V} {Q : VK}
theorem tv_var {m : Nat} (h : σ[m]? = some (some v)) : TV (tVar m) σ H v := ⟨fun Q q => ⟨v, h, q⟩⟩
theorem tv_c : TV (tC v) σ H v := ⟨fun Q q => q⟩
theorem tv_I {g : Int → Int → V} (ha : TV ta σ H (.int i)) (hb : TV tb σ H (.int j)) : TV (tOp (rI0 g) ta tb) σ H (g i j) := ⟨fun Q q => ha.go _ (hb.go _ ⟨i, j, rfl, rfl, q⟩)⟩
theorem tv_eq (ha : TV ta σ H x) (hb : TV tb σ H y) (hs : scal x y = true) : TV (tOp (rEqG K) ta tb) σ H (.bl (decide (x = y))) := ⟨fun Q q => ha.go _ (hb.go _ (Or.inl ⟨hs, q⟩))⟩
theorem tv_ne (ha : TV ta σ H x) (hb : TV tb σ H y) (hs : scal x y = true) : TV (tOp (rNeG K) ta tb) σ H (.bl (!decide (x = y))) := ⟨fun Q q => ha.go _ (hb.go _ (Or.inl ⟨hs, q⟩))⟩
theorem tv_eqI (ha : TV ta σ H (.int i)) (hb : TV tb σ H (.int j)) : TV (tOp (rEqG K) ta tb) σ H (.bl (decide (i = j))) := by
  rw [← vint_eq]
  exact tv_eq ha hb rfl
theorem tv_neI (ha : TV ta σ H (.int i)) (hb : TV tb σ H (.int j)) : TV (tOp (rNeG K) ta tb) σ H (.bl (!decide (i = j))) := by
  rw [← vint_eq]
  exact tv_ne ha hb rfl
theorem tb_test (h : TV ta σ H (.bl a)) : TB (tTest ta) σ H a := ⟨fun Q q => h.go _ ⟨a, rfl, q⟩⟩
theorem tb_B (h : TV ta σ H (.bl a)) : TB (tB ta) σ H a := ⟨fun Q q => h.go _ ⟨a, rfl, q⟩⟩
theorem tb_and (h : TB t σ H a) (k : TB u σ H b) : TB (tAnd t u) σ H (a && b) := ⟨fun Q q => h.go _ (by
  cases a with
  | true => exact k.go _ q
  | false => exact q)⟩
theorem tb_or (h : TB t σ H a) (k : TB u σ H b) : TB (tOr t u) σ H (a || b) := ⟨fun Q q => h.go _ (by
  cases a with
  | true => exact q
  | false => exact k.go _ q)⟩
theorem tb_not (h : TB t σ H a) : TB (tNot t) σ H (!a) := ⟨fun Q q => h.go _ q⟩
theorem tv_is {w : V} (h : TV ta σ H v) (e : v = w) : TV ta σ H w := by rw [← e]; exact h
theorem st_if {c : TT} {t u : TS} {D : Ends} (h : TB c σ H b) (h1 : b = true → t D σ H) (h2 : b = false → u D σ H) : tIfS c t u D σ H := h.go _ (by
  cases b with
  | true => exact h1 rfl
  | false => exact h2 rfl)
theorem te_if {c : TT} (h : TB c σ H b) (h1 : b = true → ta σ H Q) (h2 : b = false → tb σ H Q) : tIf c ta tb σ H Q := h.go _ (by
  cases b with
  | true => exact h1 rfl
  | false => exact h2 rfl)
/-- isinstance(x, int) of data -/
def isInt : PyData → Bool
  | .int _ => true
  | .bool _ => true
  | _ => false
theorem tyx_dp {d : PyData} (h : Dp K H v d) (hd : imm d = true) : ∃ t : String, TyX K H v (.type t) ∧ (t = "int" ∧ (∃ i, d = .int i) ∨ t = "bool" ∧ (∃ b, d = .bool b) ∨ t = "str" ∧ (∃ x, d = .str x) ∨ t = "NoneType" ∧ d = .none ∨ t = "tuple" ∧ (∃ ds, d = .tuple ds)) := by
  cases h with
  | non => exact ⟨_, .base .non, .inr (.inr (.inr (.inl ⟨rfl, rfl⟩)))⟩
  | bl b => exact ⟨_, .base (.bl b), .inr (.inl ⟨rfl, b, rfl⟩)⟩
  | int i => exact ⟨_, .base (.int i), .inl ⟨rfl, i, rfl⟩⟩
  | str x => exact ⟨_, .base (.str x), .inr (.inr (.inl ⟨rfl, x, rfl⟩))⟩
  | lst h1 h2 => simp [imm] at hd
  | tup h1 h2 =>
    refine ⟨"tuple", ?_, .inr (.inr (.inr (.inr ⟨rfl, _, rfl⟩)))⟩
    rcases h1 with (h1 | ⟨o, h1⟩) | ⟨o, its, n, hk, hc, _⟩
    · exact .base (.tup h1)
    · exact .fTuple h1
    · exact .kTuple hk hc
theorem kit_i1 : kitB "int" "int" = some true := by decide +kernel
theorem kit_i2 : kitB "bool" "int" = some true := by decide +kernel
theorem kit_i3 : kitB "str" "int" = some false := by decide +kernel
theorem kit_i4 : kitB "NoneType" "int" = some false := by decide +kernel
theorem kit_i5 : kitB "tuple" "int" = some false := by decide +kernel
theorem rd_isInt {d : PyData} (h : Im K H v d) (q : Q (.bl (isInt d)) H) : rIsi K [v, .ty "int"] H Q := by
  obtain ⟨t, ht, k⟩ := tyx_dp h.dp h.im
  refine ⟨v, .ty "int", _, _, isInt d, rfl, .ty "int", ht, ?_, q⟩
  rcases k with ⟨rfl, i, rfl⟩ | ⟨rfl, i, rfl⟩ | ⟨rfl, i, rfl⟩ | ⟨rfl, rfl⟩ | ⟨rfl, i, rfl⟩
  · exact kit_ty kit_i1
  · exact kit_ty kit_i2
  · exact kit_ty kit_i3
  · exact kit_ty kit_i4
  · exact kit_ty kit_i5
/-- t + u of tuples -/
theorem rd_cat {a b : Addr} {xs ys : List V} (ha : SqT K H a xs) (hb : SqT K H b ys) (hs : xs.length + ys.length ≤ sizeLine)
    (h : ∀ p H', Mv [] H H' → SqT K H' p (xs ++ ys) → Q (.ref p) H') : rAddG K (.ref a) (.ref b) H Q := by
  refine Or.inr (Or.inr (Or.inl ⟨a, b, xs, ys, rfl, rfl, ha, hb, hs, fun e => ?_, fun _ e => ?_, fun _ _ p np => ?_⟩))
  · subst e
    exact h b H .refl hb
  · subst e
    exact h a H .refl (by rw [List.append_nil]; exact ha)
  · exact h p _ (.new np) (.inl (.inl upd_same))
/-- list + list -/
theorem rd_catL {a b : Addr} {xs ys : List V} (ha : H a = some (.lst xs)) (hb : H b = some (.lst ys)) (hs : xs.length + ys.length ≤ sizeLine)
    (h : ∀ p H', H p = none → Mv [] H H' → H' p = some (.lst (xs ++ ys)) → Q (.ref p) H') : rAddG K (.ref a) (.ref b) H Q :=
  Or.inr (Or.inr (Or.inr ⟨a, b, xs, ys, rfl, rfl, ha, hb, hs, fun p np => h p _ np (.new np) upd_same⟩))
/-- an item of a list -/
theorem rd_ixL {a : Addr} {xs : List V} {i : Int} {v : V} (ha : SqL K H a xs) (h0 : 0 ≤ i) (hv : xs[i.toNat]? = some v) (h : Q v H) : rIx K (.ref a) (.int i) H Q := by
  obtain ⟨j, rfl⟩ := Int.eq_ofNat_of_zero_le h0
  exact Or.inl ⟨a, xs, j, v, rfl, rfl, ha, atI_nat hv, h⟩
theorem rd_ixT {a : Addr} {xs : List V} {i : Int} {v : V} (ha : SqT K H a xs) (h0 : 0 ≤ i) (hv : xs[i.toNat]? = some v) (h : Q v H) : rIx K (.ref a) (.int i) H Q := by
  obtain ⟨j, rfl⟩ := Int.eq_ofNat_of_zero_le h0
  exact Or.inr (Or.inl ⟨a, xs, j, v, rfl, rfl, ha, atI_nat hv, h⟩)
theorem rd_len {a : Addr} {xs : List V} (ha : SqL K H a xs ∨ SqT K H a xs) (h : Q (.int xs.length) H) : rLenG K [.ref a] H Q := Or.inl ⟨a, xs, rfl, ha, h⟩
/-- tuple(list) -/
theorem rd_tupOf {a : Addr} {xs : List V} (ha : SqL K H a xs) (h : ∀ p H', Mv [] H H' → SqT K H' p xs → Q (.ref p) H') : rTupOf K [.ref a] H Q :=
  ⟨a, xs, rfl, .inl ⟨ha, fun p np => h p _ (.new np) (.inl (.inl upd_same))⟩⟩
/-- list(x) -/
theorem rd_listOf {a : Addr} {xs : List V} (ha : SqL K H a xs ∨ SqT K H a xs) (h : ∀ p H', H p = none → Mv [] H H' → H' p = some (.lst xs) → Q (.ref p) H') : rListOf K [.ref a] H Q :=
  ⟨a, xs, rfl, ha, fun p np => h p _ np (.new np) upd_same⟩
/-- a written tuple, a written list -/
theorem rd_tup {ta : TA} (h : ta σ H fun xs H1 => xs.length ≤ sizeLine ∧ ∀ p H', H1 p = none → Mv [] H1 H' → SqT K H' p xs → Q (.ref p) H') (mono : ∀ {R S : List V → Hp → Prop}, (∀ xs H1, R xs H1 → S xs H1) → ta σ H R → ta σ H S) : tTup ta σ H Q :=
  mono (fun xs H1 k => ⟨k.1, fun p np => k.2 p _ np (.new np) (.inl (.inl upd_same))⟩) h
/-- t[1:], t[:1] of a tuple that is not empty -/
theorem rd_sl1 {a : Addr} {x : V} {xs : List V} (ha : SqT K H a (x :: xs)) (h : ∀ p H', Mv [] H H' → SqT K H' p xs → Q (.ref p) H') : rSlG K (.ref a) (some 1) none H Q := by
  have e : HT.sIx (x :: xs).length 0 (some 1) = 1 := by
    rw [show HT.sIx (x :: xs).length 0 (some 1) = min 1 (x :: xs).length from HT.sIx_nat _ 0 1, List.length_cons]
    omega
  refine Or.inr (Or.inl ⟨a, x :: xs, rfl, ha, fun z => ?_, fun _ p np => h p _ (.new np) (.inl (.inl ?_))⟩)
  · rw [e] at z
    omega
  · rw [upd_same]
    unfold cutV
    rw [e, HT.sIx_none, List.length_cons, Nat.add_sub_cancel]
    show some (HO.tup (xs.take xs.length)) = _
    rw [List.take_length]
theorem rd_slA {a : Addr} {x : V} {xs : List V} (ha : SqT K H a (x :: xs)) (h : ∀ p H', Mv [] H H' → SqT K H' p [x] → Q (.ref p) H') : rSlG K (.ref a) none (some 1) H Q := by
  have e : HT.sIx (x :: xs).length (x :: xs).length (some 1) = 1 := by
    rw [show HT.sIx (x :: xs).length (x :: xs).length (some 1) = min 1 (x :: xs).length from HT.sIx_nat _ _ 1, List.length_cons]
    omega
  refine Or.inr (Or.inl ⟨a, x :: xs, rfl, ha, fun z => ?_, fun _ p np => h p _ (.new np) (.inl (.inl ?_))⟩)
  · rw [e] at z
    have e0 : xs = [] := by
      cases xs with
      | nil => rfl
      | cons y ys =>
        have := z.2
        simp at this
    subst e0
    exact h a H .refl ha
  · rw [upd_same]
    unfold cutV
    rw [e, HT.sIx_none]
    rfl
end

/-! loops over a list or a tuple that stays -/
section
variable {K : PySem.W.Frag} {a : Addr} {xs : List V}
theorem for_seq {g : TG} {tb : TS} {D : Ends} {σ : L2.St} {H : Hp} (hS : SqL K H a xs ∨ SqT K H a xs) (Pv : Nat → L2.St → Hp → Prop) (h0 : Pv 0 σ H) (hk : ∀ i σ' H', Pv i σ' H' → Mv [] H H')
    (hs : ∀ i x σ' H', xs[i]? = some x → Pv i σ' H' → g x σ' H' fun σ2 H2 => tb { D with nx := Pv (i + 1), ct := Pv (i + 1), bk := D.nx } σ2 H2) (hd : ∀ σ' H', Pv xs.length σ' H' → D.nx σ' H') :
    ((∃ xs, SqL K H a xs) ∧ ∃ W : Nat → Nat → L2.St → Hp → Prop, (∃ m, W 0 m σ H) ∧ ∀ i m σ H, W i m σ H →
      ((Itl K a).stop i H ∧ D.nx σ H) ∨ ((Itl K a).go i H ∧ ∃ N : L2.St → Hp → Prop, (∀ σ' H', N σ' H' → ∃ m', m' < m ∧ W (i + 1) m' σ' H') ∧ ∀ x H', (Itl K a).yld i H x H' → g x σ H' fun σ2 H2 => tb { D with nx := N, ct := N, bk := D.nx } σ2 H2)) ∨
    ((∃ xs, SqT K H a xs) ∧ ∃ W : Nat → Nat → L2.St → Hp → Prop, (∃ m, W 0 m σ H) ∧ ∀ i m σ H, W i m σ H →
      ((Itt K a).stop i H ∧ D.nx σ H) ∨ ((Itt K a).go i H ∧ ∃ N : L2.St → Hp → Prop, (∀ σ' H', N σ' H' → ∃ m', m' < m ∧ W (i + 1) m' σ' H') ∧ ∀ x H', (Itt K a).yld i H x H' → g x σ H' fun σ2 H2 => tb { D with nx := N, ct := N, bk := D.nx } σ2 H2)) := by
  rcases hS with hS | hS
  · exact .inl ⟨⟨xs, hS⟩, for_list Pv h0 (fun i σ' H' _ p => (hk i σ' H' p).same.seq hS) hs hd⟩
  · exact .inr ⟨⟨xs, hS⟩, for_tup Pv h0 (fun i σ' H' _ p => (hk i σ' H' p).sqT hS) hs hd⟩
theorem lc_seq {g : TG} {tt : TT} {te : TE} {vs : List Nat} {σ : L2.St} {H : Hp} {Qd : Addr → Hp → Prop} (hS : SqL K H a xs ∨ SqT K H a xs) (Pv : Nat → Addr → Hp → Prop) (h0 : ∀ D, H D = none → Pv 0 D (upd H D (.lst [])))
    (hk : ∀ i D H', H D = none → Pv i D H' → Mv [] H H')
    (hs : ∀ D, H D = none → ∀ i x H', xs[i]? = some x → Pv i D H' → g x (wipe σ vs) H' fun σ2 H2 => wipe σ2 vs = wipe σ vs ∧ tt σ2 H2 fun b H3 =>
      if b = true then te σ2 H3 fun y H4 => ∃ acc, H4 D = some (.lst acc) ∧ acc.length < sizeLine ∧ Pv (i + 1) D (upd H4 D (.lst (acc ++ [y]))) else Pv (i + 1) D H3) (hd : ∀ D H', H D = none → Pv xs.length D H' → Qd D H') :
    ((∃ xs, SqL K H a xs) ∧ ∀ D, H D = none → ∃ W : Nat → Nat → Hp → Prop, (∃ m, W 0 m (upd H D (.lst []))) ∧ ∀ i m H, W i m H →
      ((Itl K a).stop i H ∧ Qd D H) ∨ ((Itl K a).go i H ∧ ∃ Nx : Hp → Prop, (∀ H', Nx H' → ∃ m', m' < m ∧ W (i + 1) m' H') ∧ ∀ x H', (Itl K a).yld i H x H' → g x (wipe σ vs) H' fun σ2 H2 => wipe σ2 vs = wipe σ vs ∧ tt σ2 H2 fun b H3 =>
        if b = true then te σ2 H3 fun y H4 => ∃ acc, H4 D = some (.lst acc) ∧ acc.length < sizeLine ∧ Nx (upd H4 D (.lst (acc ++ [y]))) else Nx H3)) ∨
    ((∃ xs, SqT K H a xs) ∧ ∀ D, H D = none → ∃ W : Nat → Nat → Hp → Prop, (∃ m, W 0 m (upd H D (.lst []))) ∧ ∀ i m H, W i m H →
      ((Itt K a).stop i H ∧ Qd D H) ∨ ((Itt K a).go i H ∧ ∃ Nx : Hp → Prop, (∀ H', Nx H' → ∃ m', m' < m ∧ W (i + 1) m' H') ∧ ∀ x H', (Itt K a).yld i H x H' → g x (wipe σ vs) H' fun σ2 H2 => wipe σ2 vs = wipe σ vs ∧ tt σ2 H2 fun b H3 =>
        if b = true then te σ2 H3 fun y H4 => ∃ acc, H4 D = some (.lst acc) ∧ acc.length < sizeLine ∧ Nx (upd H4 D (.lst (acc ++ [y]))) else Nx H3)) := by
  rcases hS with hS | hS
  · exact .inl ⟨⟨xs, hS⟩, fun D nD => lc_list (Pv · D) (h0 D nD) (fun i H' _ p => (hk i D H' nD p).same.seq hS) (hs D nD) (fun H' p => hd D H' nD p)⟩
  · exact .inr ⟨⟨xs, hS⟩, fun D nD => lc_tup (Pv · D) (h0 D nD) (fun i H' _ p => (hk i D H' nD p).sqT hS) (hs D nD) (fun H' p => hd D H' nD p)⟩
end
section
variable {K : PySem.W.Frag} {H : Hp} {Q : VK}
theorem rd_slT {a : Addr} {xs : List V} {lo hi : Option Int} (ha : SqT K H a xs) (h : ∀ p H', Mv [] H H' → SqT K H' p (cutV xs lo hi) → Q (.ref p) H') : rSlG K (.ref a) lo hi H Q := by
  refine Or.inr (Or.inl ⟨a, xs, rfl, ha, fun z => h a H .refl ?_, fun _ p np => h p _ (.new np) (.inl (.inl upd_same))⟩)
  have e : cutV xs lo hi = xs := by
    unfold cutV
    rw [z.1, z.2, List.drop_zero, Nat.sub_zero, List.take_length]
  rw [e]
  exact ha
theorem cut_hi (xs : List V) (k : Nat) : cutV xs none (some (k : Int)) = xs.take k := by
  unfold cutV
  rw [HT.sIx_none, HT.sIx_nat, List.drop_zero, Nat.sub_zero, List.take_eq_take_iff]
  omega
theorem cut_lo (xs : List V) (k : Nat) : cutV xs (some (k : Int)) none = xs.drop k := by
  unfold cutV
  rw [HT.sIx_none, HT.sIx_nat]
  by_cases h : k ≤ xs.length
  · rw [Nat.min_eq_left h, List.take_of_length_le (by rw [List.length_drop]; omega)]
  · rw [Nat.min_eq_right (by omega), List.drop_of_length_le (Nat.le_refl _), List.drop_of_length_le (by omega)]
    simp
end
end Fm
namespace Fm
open PySem PySem.Spec PyProof.Rows L2 HT
/-! t[:0:-1] of a tuple -/
section
variable {prog : Program} {w : World} {A : Around} {E : Value → Shared → Prop} {s : Shared}
theorem back_adjust (n : Nat) : Builtin.Slice.sliceAdjust none (some 0) (-1) (n : Int) = ((n : Int) - 1, min 0 ((n : Int) - 1)) := by
  unfold Builtin.Slice.sliceAdjust
  simp only [show ((-1 : Int) < 0) from by decide, if_true, show ¬ ((0 : Int) < 0) from by decide, if_false]
theorem back_places (n : Nat) : Builtin.Slice.slicePlaces ((n : Int) - 1) (min 0 ((n : Int) - 1)) (-1) = n - 1 := by
  unfold Builtin.Slice.slicePlaces
  simp only [show ¬ ((-1 : Int) > 0) from by decide, if_false, show (- -1 : Int) = 1 from by decide, Int.ediv_one]
  split <;> omega
theorem back_applied {sl : Addr} {vu vs : Value} {n : Nat} {Q : Int × Int × Nat → Shared → Prop} (hs : s.heap.IsSliceOf sl .none vu vs) (pu : IsPart vu (some 0)) (ps : IsPart vs (some (-1)))
    (h : Q ((n : Int) - 1, -1, n - 1) s) : wpAny (model prog w) A (Builtin.Slice.sliceApplied (.ref sl) (pure (n : Int))) Q E s := by
  obtain ⟨os, hos, hcs, hds⟩ := id hs
  unfold Builtin.Slice.sliceApplied Builtin.Slice.sliceFields
  refine wpAny_bind (wpAny_bind (wpAny_field hos hds (x := .none) rfl (wpAny_bind (wpAny_field hos hds (x := vu) rfl (wpAny_bind (wpAny_field hos hds (x := vs) rfl (wpAny_pure ?_)))))))
  refine wpAny_bind (slicePart_ ps ?_)
  show wpAny _ _ (if ((-1 : Int) == 0) = true then _ else _) _ _ s
  rw [if_neg (by decide)]
  refine wpAny_bind (slicePart_none (wpAny_bind (slicePart_ pu (wpAny_bind (wpAny_pure ?_)))))
  show wpAny _ _ (match Builtin.Slice.sliceAdjust none (some 0) (-1) (n : Int) with | (lo, hi) => pure (lo, (-1 : Int), Builtin.Slice.slicePlaces lo hi (-1))) _ _ s
  rw [back_adjust n]
  show wpAny _ _ (pure ((n : Int) - 1, (-1 : Int), Builtin.Slice.slicePlaces ((n : Int) - 1) (min 0 ((n : Int) - 1)) (-1))) _ _ s
  rw [back_places]
  exact wpAny_pure h
theorem fm_congr {α β : Type} {f g : α → Option β} : ∀ {l : List α}, (∀ m ∈ l, f m = g m) → l.filterMap f = l.filterMap g
  | [], _ => rfl
  | x :: l, h => by
    rw [List.filterMap_cons, List.filterMap_cons, h x List.mem_cons_self, fm_congr fun m hm => h m (List.mem_cons_of_mem _ hm)]
theorem back_pick (y : Value) (l : List Value) : ((List.range l.length).filterMap fun (m : Nat) => (y :: l).toArray[((((y :: l).toArray.size : Nat) : Int) - 1 + (m : Int) * (-1)).toNat]?).toArray = l.reverse.toArray := by
  congr 1
  have e : ∀ m ∈ List.range l.length, (y :: l).toArray[((((y :: l).toArray.size : Nat) : Int) - 1 + (m : Int) * (-1)).toNat]? = l[l.length - 1 - m]? := by
    intro m hm
    have hm := List.mem_range.mp hm
    have e1 : ((((y :: l).toArray.size : Nat) : Int) - 1 + (m : Int) * (-1)).toNat = (l.length - 1 - m) + 1 := by
      simp only [List.size_toArray, List.length_cons]
      omega
    rw [e1]
    simp
  rw [fm_congr e]
  apply List.ext_getElem?
  intro i
  have e2 : (List.range l.length).filterMap (fun m => l[l.length - 1 - m]?) = (List.range l.length).filterMap (fun m => l.reverse[m]?) := by
    apply fm_congr
    intro m hm
    have hm := List.mem_range.mp hm
    rw [List.getElem?_reverse hm]
  rw [e2]
  have e3 : (List.range l.length).filterMap (fun m => l.reverse[m]?) = l.reverse := by
    have := PySem.W.krv_all l.reverse.toArray
    simpa using this
  rw [e3]
theorem getItem_back {t sl : Addr} {y : Value} {l : List Value} {vu vs : Value} {Q : Value → Shared → Prop} (ht : IsTup s.heap t (y :: l).toArray) (hs : s.heap.IsSliceOf sl .none vu vs) (pu : IsPart vu (some 0)) (ps : IsPart vs (some (-1)))
    (hz : l.length ≤ sizeLine) (h : Q (.ref s.heap.objs.size) { s with heap := s.heap.push { cls := .type "tuple", data := .seq l.reverse.toArray } }) : wpAny (model prog w) A (getItem (.ref t) (.ref sl)) Q E s := by
  obtain ⟨os, hos, hcs, hds⟩ := id hs
  have hTs : s.TypeIs (.ref sl) "slice" := ⟨os, hos, hcs⟩
  have hfit : sizeOk (.seq l.reverse.toArray) := by
    show l.reverse.toArray.size ≤ sizeLine
    rw [List.size_toArray, List.length_reverse]
    exact hz
  unfold getItem
  try with_reducible refine wpAny_holding ?_
  first | refine wpAny_bind (wpAny_pure ?_) | skip
  refine wpAny_bind (wpAny_sequenceKey ht.typeIs (by decide) ?_)
  refine wpAny_bind (wpAny_callSpecial?_slot (name := Str.ofString "__getitem__") ht.typeIs PyProof.Rows.slot_tuple_getitem
    (wpAny_call_entry PyProof.Rows.slot_tuple_getitem ht.typeIs entry_tuple_getitem ?_ (args_tuple_getitem _ _)))
  show wpAny _ _ (Builtin.Tuple.tupleItemsOf (.ref t) >>= _) _ _ s
  refine wpAny_bind (tupleItemsOf_ ht (wpAny_bind (wpAny_typeOf hTs ?_)))
  rw [if_pos (by decide)]
  refine wpAny_bind (back_applied hs pu ps ?_)
  have hno : ¬ (((((y :: l).toArray.size : Nat) : Int) - 1 == 0 && (-1 : Int) == 1 && ((y :: l).toArray.size - 1) == (y :: l).toArray.size) = true) := by
    simp
  show wpAny _ _ (if ((((y :: l).toArray.size : Nat) : Int) - 1 == 0 && (-1 : Int) == 1 && ((y :: l).toArray.size - 1) == (y :: l).toArray.size) = true then _ else _) _ _ s
  rw [if_neg hno]
  have e : (y :: l).toArray.size - 1 = l.length := by simp
  rw [e, back_pick]
  first
    | exact wpAny_bind (m := Builtin.Tuple.tupleExact _) (wpAny_newObj_type (wpAny_pure ⟨_, rfl, wpAny_pure h⟩) hfit)
    | exact wpAny_bind (m := Builtin.Tuple.tupleExact _) (wpAny_newObj_type (wpAny_bind (wpAny_pure (wpAny_pure ⟨_, rfl, wpAny_pure h⟩))) hfit)
    | exact wpAny_bind (wpAny_bind (m := Builtin.Tuple.tupleExact _) (wpAny_newObj_type (wpAny_pure (wpAny_pure ⟨_, rfl, wpAny_pure h⟩)) hfit))
    | exact wpAny_bind (wpAny_bind (m := Builtin.Tuple.tupleExact _) (wpAny_newObj_type (wpAny_pure ⟨_, rfl, wpAny_pure h⟩) hfit))
end
section
variable {X : Cx}
def tBack (K : PySem.W.Frag) (te : TE) : TE := fun σ H Q => te σ H fun x H1 => ∃ a y ys, x = .ref a ∧ SqT K H1 a (y :: ys) ∧ ∀ p, H1 p = none → Q (.ref p) (upd H1 p (.tup ys.reverse))
theorem pe_slice3 {e : Expr} {te : TE} {k k0 : Nat} {p0 p1 p2 p3 pos : Pos} (he : PE X e te) :
    PE X (.Subscript e (.Slice none (some (.Constant (.int 0) k0 p0)) (some (.UnaryOp .USub (.Constant (.int 1) k p1) p2)) p3) pos) (tBack X.K te) := by
  refine ⟨fun pins s σ H Q I h => Subscript_ (thn (he.run pins s σ H _ I h) ?_)⟩
  rintro v s1 ⟨x, H1, I1, r1, a, y, ys, rfl, hx, q⟩
  cases r1
  have hup : PO X (some (.Constant (.int 0) k0 p0)) (tPart (tC (.int 0))) := po_some pe_int
  have hst : PO X (some (.UnaryOp .USub (.Constant (.int 1) k p1) p2)) (tPart (tUn (rU fun i => .int (-i)) (tC (.int 1)))) := po_some (pe_un un_neg pe_int)
  refine wpAny_Slice (thn (po_none.run pins s1 σ H1 (fun o H2 => o = none ∧ H2 = H1) I1 ⟨rfl, rfl⟩) ?_)
  rintro vl s2 ⟨l, H2, I2, pl, rfl, rfl⟩
  refine thn (hup.run pins s2 σ H2 (fun o H3 => o = some 0 ∧ H3 = H2) I2 ⟨0, rfl, rfl, rfl⟩) ?_
  rintro vu s3 ⟨u, H3, I3, pu, rfl, rfl⟩
  refine thn (hst.run pins s3 σ H3 (fun o H4 => o = some (-1) ∧ H4 = H3) I3 ⟨1, rfl, -1, rfl, rfl, rfl⟩) ?_
  rintro vs s4 ⟨o, H4, I4, ps, rfl, rfl⟩
  have I5 : Inv X pins σ H4 { s4 with heap := s4.heap.push { cls := .type "slice", data := .fields #[vl, vu, vs] } } := I4.kept (t' := s4.toks) fun b ob q => Heap.get?_push_of_some _ q
  obtain ⟨its, r, ht, hz⟩ := I5.tuple hx
  cases pl
  cases r with
  | @cons _ uy _ us ry rs =>
    have hl := rs.length
    show wpAny (model X.prog X.w) X.A (subscriptTail e (.Slice none (some (.Constant (.int 0) k0 p0)) (some (.UnaryOp .USub (.Constant (.int 1) k p1) p2)) p3) (.ref a) (.ref s4.heap.objs.size)) (EP X pins σ Q) X.xe { s4 with heap := s4.heap.push { cls := .type "slice", data := .fields #[.none, vu, vs] } }
    refine tail_any (ops := [.ref a, .ref s4.heap.objs.size]) ht.typeIs (PyProof.Rows.slot_tuple_getitem.lookup) ?_ (by with_unfolding_all rfl)
    have hz' : us.length ≤ sizeLine := by
      rw [List.length_cons] at hz
      omega
    refine getItem_back ht (Heap.IsSliceOf.new _ .none vu vs) pu ps hz' ?_
    refine ⟨.ref _, _, I5.laid (t' := s4.toks) (o := .tup ys.reverse) (fun b ob q => Heap.get?_push_of_some _ q) (Nat.le_refl _) ?_, rfl, q _ (I5.hok.fresh (Nat.le_refl _))⟩
    exact ⟨by rw [List.length_reverse]; omega, _, Vals.reverse rs, IsTup.new _ _⟩
end
end Fm
namespace Fm
open PySem PySem.Spec PyProof.Rows L2
/-! set(xs) of a list of ints -/
section
variable {P : Program} {w : World} {A : Around} {E : Value → Shared → Prop} {s : Shared}
/-- the empty set as it is laid -/
abbrev eset (w : World) : Obj := { cls := .type "set", dict := none, data := .set #[] 0 (.fresh 0 0 (!w.params.followText "set-order")) }
abbrev hset (w : World) (h : Heap) : Heap := h.push (eset w)
set_option maxHeartbeats 8000000 in
theorem set_of_list {l : Addr} {its : Array Value} (ns : List Int) {Q : Value → Shared → Prop} (hh : A.handled = none) (hl : s.heap.IsList l its) (hi : IntsAre its.toList ns) (hb : ns.length + 1 < scanBound)
    (h : ∀ (g : Heap) (tk c : Nat), SetR w g s.heap.objs.size (fun j => decide (j ∈ ns)) c → (∀ b o, s.heap.get? b = some o → g.get? b = some o) → Q (.ref s.heap.objs.size) { s with heap := g, toks := tk }) :
    wpAny (model P w) A (call (.type "set") [.ref l]) Q E s := by
  have hn : its.size = ns.length := by rw [← Array.length_toList]; exact IntsAre.length hi
  obtain ⟨mc, mt, mro⟩ := F.called_set.mro
  have mk1 := F.called_set.made
  have mk2 := F.called_set.sub
  refine wpAny_call (codeAny_of_tree (show wpAny _ _ (callAny (.type "set") _) _ _ _ from wpAny_pure ⟨Code.quiet_builtin _ (by decide +kernel), codeAny_builtin F.entry_type_call ?_⟩))
  rw [Around.under_plain (weight_type_call_type "set" [.ref l] []) rfl]
  have mk3 := F.called_set.notType
  have mk4 := F.called_set.canCreate
  have mk5 := F.typeCall_set_1 (.ref l)
  repeat (any_goals (first | assumption | wp_step))
  refine codeAny_mono (code_set_led1 (w := w) (s := s) (.ref l) (E := E)
    (Q₁ := fun obj s₁ => obj = .ref s.heap.objs.size ∧ s₁ = { s with heap := hset w s.heap }) ⟨rfl, rfl⟩) fun r s₁ hr => ?_
  match r, hr with
  | .error e, hr => exact hr
  | .ok (.ret obj), hr =>
    obtain ⟨rfl, rfl⟩ := hr
    have here : (hset w s.heap).get? s.heap.objs.size = some (eset w) := Heap.get?_push_size _ rfl
    have isS : Shared.TypeIs { s with heap := hset w s.heap } (.ref s.heap.objs.size) "set" := ⟨_, here, rfl⟩
    have in1 := F.called_set.init.lookup
    have in2 := F.called_set.init.bind (.ref s.heap.objs.size)
    repeat (any_goals (first | assumption | wp_step))
    have goes : codeAny (model P w) A.in1 (.call (.builtin "set.__init__") ⟨[.ref s.heap.objs.size, .ref l], []⟩) (wants (fun r s₂ => r = .none ∧ ∃ g tk c,
        s₂ = { s with heap := g, toks := tk } ∧ SetR w g s.heap.objs.size (fun j => decide (j ∈ ns)) c ∧ ∀ b o, s.heap.get? b = some o → g.get? b = some o) E) { s with heap := hset w s.heap } := by
      refine codeAny_call_builtin F.called_set.init.plain F.entry_set_init (check_set_init_1 isS ?_)
      obtain ⟨⟨oc, od, dt, sl⟩, hol, hcl, nl, hdl⟩ := id hl
      simp only at hcl hdl
      subst hcl hdl
      have lt := Heap.lt_size hol
      have hol2 : (hset w s.heap).get? l = some _ := Heap.get?_push_of_some _ hol
      have hl2 : (hset w s.heap).IsList l its := ⟨_, hol2, rfl, nl, rfl⟩
      have no1 := F.sub_list_set
      have no2 := F.sub_list_frozenset
      have no3 : (Value.type "list" == Value.type "dict") = false := by decide
      unfold Builtin.«set.__init__» noKeywords Builtin.Frozenset.updateFrom
      generalize hPI : pyIter = PI
      wp_walk
      subst hPI
      refine wpAny_pyIter_list hl2 (wpAny_bind (wpAny_runValue ?_))
      have sz2 : (hset w s.heap).objs.size = s.heap.objs.size + 1 := Heap.size_push ..
      have neI : l ≠ (hset w s.heap).objs.size := by
        rw [sz2]
        exact Nat.ne_of_lt (Nat.lt_succ_of_lt lt)
      have notIn : s.heap.objs.size ∉ [(hset w s.heap).objs.size, l] := by
        rw [sz2]
        intro z
        rcases List.mem_cons.mp z with z | z
        · exact Nat.ne_of_lt (Nat.lt_succ_self _) z
        · exact Nat.ne_of_gt lt (List.mem_singleton.mp z)
      have val : ∀ (i : Nat) (v : Value), its[i]? = some v → ∃ k t, ns[i]? = some k ∧ v = .int k t := fun i v hv => by
        have hi' : i < ns.length := by
          rw [← hn]
          exact (Array.getElem?_eq_some_iff.mp hv).1
        obtain ⟨t, e⟩ := PyProof.Rows.IntsAre.int_at hi i v (by rw [Array.getElem?_toList]; exact hv)
        have e2 : ns.getD i 0 = ns[i] := by rw [List.getD_eq_getElem?_getD, List.getElem?_eq_getElem hi']; rfl
        exact ⟨ns[i], t, List.getElem?_eq_getElem hi', by rw [e, e2]⟩
      have hh3 : A.in1.in1.in1.handled = none := by simp [hh]
      refine set_update_ints ((Walks.list hh3 _ l neI its).toS) s.heap.objs.size notIn ns hn hb val (its.size - 0) 0 _ (by omega) (Nat.zero_le _) ?st ?s0 ?fin
      case st => exact ⟨⟨_, Heap.get?_push_size _ rfl, rfl, rfl⟩, hl2.push _⟩
      case s0 => exact ⟨0, Nat.le_refl 0, setR_new_at (Heap.get?_push_of_some _ here)⟩
      case fin =>
        rintro ⟨g, gg, dd, tk, oo⟩ c' mv hc' hS'
        have e1 : gg = s.gens := mv.gens
        have e2 : dd = s.drawn := mv.drawn
        have e3 : oo = s.os := mv.os
        subst e1 e2 e3
        refine wpAny_pure (show wpAny _ _ (ret Value.none) _ _ _ from wpAny_pure ⟨rfl, g, tk, c', rfl, hS', fun b o e => ?_⟩)
        have b0 := Heap.lt_size e
        refine mv.heap b o (fun z => ?_) (Heap.get?_push_of_some _ (Heap.get?_push_of_some _ e))
        rcases List.mem_cons.mp z with z | z
        · exact Nat.ne_of_lt b0 z
        · have z2 := List.mem_singleton.mp z
          rw [sz2] at z2
          exact Nat.ne_of_lt (Nat.lt_succ_of_lt b0) z2
    refine codeAny_mono goes fun r₂ s₂ hr₂ => ?_
    match r₂, hr₂ with
    | .error e, hr₂ => exact hr₂
    | .ok (.ret r), hr₂ =>
      obtain ⟨rfl, g, tk, c', rfl, hS', hk'⟩ := hr₂
      repeat (any_goals (first | assumption | wp_step))
      exact h _ _ _ hS' hk'
end
section
variable {X : Cx}
/-- set(xs): its numbers; sorted(set) -/
def rSetOfL (K : PySem.W.Frag) (w : World) : List V → Hp → VK → Prop := fun xs H Q => ∃ (l : Addr) (ns : List Int), xs = [V.ref l] ∧ SqL K H l (ns.map V.int) ∧ ns.length ≤ 4000 ∧
  ∀ p (n : Nat) (ks : List Int), H p = none → ks.Nodup → ks.length = n → (∀ k, k ∈ ks ↔ k ∈ ns) → Q (.ref p) (upd H p (SetO w p (fun j => decide (j ∈ ns)) n))
theorem cr_setG (hc : X.calm = true) : CallR X (.type "set") (rSetOfL X.K X.w) := by
  intro pins s σ H xs us Q I r h
  obtain ⟨l, ns, rfl, hl, hb, q⟩ := h
  rw [Vals.ref1 r]
  obtain ⟨its, rv, pl, hz⟩ := I.list hl
  refine set_of_list ns (I.ok.hd hc) pl.isList (by simpa using intsAre_of rv) (Nat.lt_of_le_of_lt (Nat.succ_le_succ hb) (by decide)) fun g tk c R hk => ?_
  obtain ⟨o, es, ep, t, h1, h2, h3, h4, h5, h6, h7, h8, h9, h10⟩ := id R
  refine ⟨.ref _, upd H s.heap.objs.size (SetO X.w s.heap.objs.size (fun j => decide (j ∈ ns)) c), I.laid (t' := tk) hk (Nat.le_refl _) (setO_new R), rfl, ?_⟩
  refine q _ c (es.toList.map keyOf) (I.hok.fresh (Nat.le_refl _)) h5 (by rw [List.length_map, Array.length_toList]; exact h9) fun k => ?_
  rw [← h6 k]
  simp
theorem cr_sortedG (hc : X.calm = true) : CallR X (.builtin "sorted") (fun xs H Q => rSortedSet X.w xs H Q ∨ rSorted X.K xs H Q) := CallR.or (cr_sortedSet hc) cr_sorted
end
end Fm
namespace Fm
open PySem PySem.Spec PyProof.Rows L2
/-! data that can be compared and shown -/
mutual
def fine : PyData → Prop
  | .none => True
  | .bool _ => True
  | .int i => i.natAbs < 10 ^ 40
  | .str x => PyData.strOk x = true
  | .list xs => fineAll xs
  | .tuple xs => fineAll xs
  | .dict _ => False
def fineAll : List PyData → Prop
  | [] => True
  | x :: xs => fine x ∧ fineAll xs
end
mutual
/-- what its text may come to -/
def wl : PyData → Nat
  | .none => 4
  | .bool _ => 5
  | .int _ => 41
  | .str x => 10 * x.length + 2
  | .list xs => wls xs + 2
  | .tuple xs => wls xs + 2
  | .dict _ => 0
def wls : List PyData → Nat
  | [] => 0
  | x :: xs => wl x + 2 + wls xs
end
theorem fineAll_iff : ∀ {xs : List PyData}, fineAll xs ↔ ∀ x ∈ xs, fine x
  | [] => by simp [fineAll]
  | x :: xs => by simp [fineAll, fineAll_iff]
theorem listText_le : ∀ ts : List Str, (listText ts).length ≤ piled ts + 2
  | [] => by rw [listText_nil]; decide
  | t :: r => by
    have h := textFrom_length_pos r 1 (("[" : Str) ++ ("" : String) ++ t) (Nat.succ_pos 0)
    have e : ((("[" : Str) ++ ("" : String) ++ t)).length = 1 + t.length := by
      rw [strLen_append, strLen_append]
      rfl
    have x1 : (listText (t :: r)).length = (textFrom 1 (("[" : Str) ++ ("" : String) ++ t) r).length + 1 := by
      show (textFrom 1 (("[" : Str) ++ ("" : String) ++ t) r ++ "]").length = _
      rw [strLen_append]
      rfl
    rw [x1, h, e, piled_cons]
    omega
theorem tupleText_le (ts : List Str) : (tupleText ts).length ≤ piled ts + 2 := by
  have e3 : (((if ts.length == 1 then ",)" else ")" : String) : Str)).length ≤ 2 := by split <;> decide +kernel
  have e1 : ((("(" : String) : Str)).length = 1 := rfl
  unfold tupleText
  rw [strLen_append, strLen_append, e1]
  cases ts with
  | nil => decide +kernel
  | cons t r =>
    have := join_length_add (t :: r) (by simp)
    omega
mutual
theorem shown_le : ∀ d : PyData, fine d → d.shown.length ≤ wl d
  | .none, _ => by simp only [PyData.shown]; decide
  | .bool b, _ => by cases b <;> (simp only [PyData.shown]; decide)
  | .int i, h => by
    simp only [PyData.shown, wl]
    rw [PySem.ofString_length]
    exact int_text_length_le10 (k := 40) (by decide) h
  | .str x, h => by
    simp only [PyData.shown, wl]
    refine StrLaws.reprText_len x fun c hc => ?_
    have h' : x.cps.all (· < 0x110000) = true := h
    rw [Array.all_eq_true_iff_forall_mem] at h'
    have := h' c (by simpa using hc)
    simp at this
    omega
  | .list xs, h => by
    have := shown_les xs h
    have := listText_le (PyData.shownAll xs)
    simp only [PyData.shown, wl]
    omega
  | .tuple xs, h => by
    have := shown_les xs h
    have := tupleText_le (PyData.shownAll xs)
    simp only [PyData.shown, wl]
    omega
  | .dict _, h => h.elim
theorem shown_les : ∀ xs : List PyData, fineAll xs → piled (PyData.shownAll xs) ≤ wls xs
  | [], _ => by simp [PyData.shownAll, piled, wls]
  | x :: xs, h => by
    have h1 := shown_le x h.1
    have h2 := shown_les xs h.2
    simp only [PyData.shownAll, wls]
    rw [piled_cons]
    omega
end
mutual
theorem fine_lay : ∀ d : PyData, fine d → d.canLay0 = true ∧ d.showable = true ∧ d.hasDict = false
  | .none, _ => by simp [PyData.canLay0, PyData.showable, PyData.hasDict]
  | .bool b, _ => by simp [PyData.canLay0, PyData.showable, PyData.hasDict]
  | .int i, h => by
    refine ⟨by simp [PyData.canLay0], ?_, by simp [PyData.hasDict]⟩
    have h' : i.natAbs < 10 ^ 40 := h
    have h2 : i.natAbs < 2 ^ 200 := Nat.lt_trans h' (by decide)
    simp only [PyData.showable, decide_eq_true_eq]
    exact Nat.lt_trans (PySem.Flt.log2_lt_of (by decide) h2) (by decide)
  | .str x, h => ⟨by simp only [PyData.canLay0]; exact h, by simp [PyData.showable], by simp [PyData.hasDict]⟩
  | .list xs, h => by simpa [PyData.canLay0, PyData.showable, PyData.hasDict] using fine_lays xs h
  | .tuple xs, h => by simpa [PyData.canLay0, PyData.showable, PyData.hasDict] using fine_lays xs h
  | .dict _, h => h.elim
theorem fine_lays : ∀ xs : List PyData, fineAll xs → PyData.canLayAll0 xs = true ∧ PyData.showableAll xs = true ∧ PyData.hasDictAll xs = false
  | [], _ => by simp [PyData.canLayAll0, PyData.showableAll, PyData.hasDictAll]
  | x :: xs, h => by
    obtain ⟨a, b, c⟩ := fine_lay x h.1
    obtain ⟨a', b', c'⟩ := fine_lays xs h.2
    simp [PyData.canLayAll0, PyData.showableAll, PyData.hasDictAll, a, b, c, a', b', c']
end
structure Shw (d : PyData) : Prop where
  fi : fine d
  dp : d.depth ≤ 60
  wl : wl d ≤ 16000000
theorem Shw.shaped {d : PyData} (h : Shw d) : SeqAt.shaped d = true := by
  show (d.canLay0 && decide (d.depth ≤ 64)) = true
  have := h.dp
  rw [(fine_lay d h.fi).1, decide_eq_true (by omega)]
  rfl
theorem Shw.len {d : PyData} (h : Shw d) : d.shown.length ≤ sizeLine := by
  have := shown_le d h.fi
  have := h.wl
  have e : sizeLine = 16777216 := rfl
  omega
theorem Shw.eqv {d : PyData} (h : Shw d) : PyData.eqv d d = true := SeqAt.eqv_refl d (fine_lay d h.fi).1
theorem eqv_nil (xs : List PyData) : PyData.eqv (.list xs) (.list []) = xs.isEmpty := by
  cases xs <;> simp [PyData.eqv, PyData.eqvAll]
/-! of terms -/
theorem nm_ok {x : Str} (h : Nm x) : PyData.strOk x = true := by
  show x.cps.all (· < 0x110000) = true
  rw [Array.all_eq_true_iff_forall_mem]
  intro c hc
  have := h.2.2 c (by simpa using hc)
  simp
  omega
mutual
theorem fine_d {P : Int → Prop} (h : ∀ i, P i → i.natAbs < 10 ^ 40) : ∀ t : Tm, t.ok P → fine t.d
  | .var i, k => h i k
  | .op x ts, k => by
    simp only [Tm.d, fine, fineAll]
    exact ⟨nm_ok k.1, fine_ds h ts k.2.2⟩
theorem fine_ds {P : Int → Prop} (h : ∀ i, P i → i.natAbs < 10 ^ 40) : ∀ ts : List Tm, Tm.oks P ts → fineAll (Tm.ds ts)
  | [], _ => trivial
  | t :: ts, k => ⟨fine_d h t k.1, fine_ds h ts k.2⟩
end
mutual
theorem depth_d : ∀ t : Tm, t.d.depth = t.dep
  | .var _ => by simp [Tm.d, PyData.depth, Tm.dep]
  | .op _ ts => by simp [Tm.d, PyData.depth, PyData.depthAll, Tm.dep, depth_ds ts]
theorem depth_ds : ∀ ts : List Tm, PyData.depthAll (Tm.ds ts) = Tm.deps ts
  | [] => by simp [Tm.ds, PyData.depthAll, Tm.deps]
  | t :: ts => by simp [Tm.ds, PyData.depthAll, Tm.deps, depth_d t, depth_ds ts]
end
mutual
theorem wl_d {P : Int → Prop} : ∀ t : Tm, t.ok P → wl t.d ≤ t.cst + 41 * t.lv
  | .var _, _ => by simp [Tm.d, wl, Tm.cst, Tm.lv]
  | .op x ts, k => by
    have h1 := wl_ds ts k.2.2
    have h2 := k.1.2.1
    simp only [Tm.d, wl, wls, Tm.cst, Tm.lv]
    omega
theorem wl_ds {P : Int → Prop} : ∀ ts : List Tm, Tm.oks P ts → wls (Tm.ds ts) ≤ Tm.csts ts + 41 * Tm.lvs ts
  | [], _ => by simp [Tm.ds, wls]
  | t :: ts, k => by
    have h1 := wl_d t k.1
    have h2 := wl_ds ts k.2
    simp only [Tm.ds, wls, Tm.csts, Tm.lvs]
    omega
end
end Fm
namespace Fm
open PySem PySem.Spec PyProof.Rows L2
/-! the end: a law whose def asks for reprs -/
section
variable {P : Program} {w : World} {K : PySem.W.Frag} {mg mb : Str → Option Value} {k : Nat} {fa a : Addr} {fd : FuncData} {x : Str} {sp : Sp} {s : Shared} {vs : List Value} {ns : List Int}
/-- from a heap that knows nothing but, perhaps, the script -/
theorem from_heap (KX : K.In s.heap) (hg0 : s.heap.Ns mainGlobals mg) (hb : s.heap.Ns builtinsNs mb) (hbb : ∀ y : Str, y ≠ "__name__" → mb y = bootBuiltins y) (hlim : s.heap.NoLimit) (hg : s.gens = #[])
    (ha : s.heap.get? a = some { cls := .type "list", data := .seq vs.toArray }) (hr : Room k callerA) (F : ∀ base : Heap, K.In base → base.Ns mainGlobals mg → FnOkG P w K mg base CX0 k fa fd [x] sp)
    (hbind : ∀ (t : Shared) (u : Value), BindsTo t fd ⟨[u], []⟩ [(x, u)]) (H : Hp) (hO : Only H) (hok : HOk P w H s.heap) (hA : ∀ b, H b ≠ none → b = a) (hK : H a ≠ none → K.lookup a = none)
    (hsp : sp [.ref a] H (fun v _ => v = .bl true) fun _ _ _ => False) :
    codeAny (model P w) callerA (.call (.ref fa) ⟨[.ref a], []⟩) (fun r t => r = .ok (.ret (.bool true)) ∧ OldK s.heap t.heap ∧ t.os = s.os ∧ AllBare t.gens) s := by
  have free : ∀ {b : Addr} {o : Obj} {es : Array DictEntry} {ep : Nat}, s.heap.get? b = some o → o.data = .dict es ep → H b = none := by
    intro b o es ep e d
    cases q : H b with
    | none => rfl
    | some u =>
      have z := hA b (by rw [q]; exact Option.some_ne_none u)
      rw [z, ha] at e
      cases e
      exact nomatch d
  have ns : ∀ {b : Addr} {m : Str → Option Value}, s.heap.Ns b m → (hidT s.heap H).Ns b m := by
    rintro b m ⟨o, es, ep, e, d, r⟩
    exact ⟨o, es, ep, hidT_get e (free e d), d, r⟩
  have kin : K.In (hidT s.heap H) := by
    intro b o e
    refine hidT_get (KX b o e) ?_
    cases q : H b with
    | none => rfl
    | some u =>
      have z := hA b (by rw [q]; exact Option.some_ne_none u)
      rw [z] at q e
      rw [hK (by rw [q]; exact Option.some_ne_none u)] at e
      cases e
  have lim : (hidT s.heap H).NoLimit := by
    obtain ⟨mc, l1, l2⟩ := hlim
    exact ⟨mc, ns l1, l2⟩
  have env : Env0 P w K mg (hidT s.heap H) callerA [] s H :=
    ⟨rfl, ⟨kin, ns hg0, ⟨mb, ns hb, hbb⟩, lim⟩, fun b o e => of_hidT e, Nat.le_of_eq (hidT_size _ _), trivial, (fun b z => absurd (show b ∈ ([] : List Addr) from z) List.not_mem_nil), hok, .of_eq hg⟩
  have run := (F _ kin (ns hg0)).run callerA [] s H ⟨[.ref a], []⟩ [.ref a] [.ref a] _ _ rfl hr env (hbind s (.ref a)) (.cons rfl .nil) hsp
  refine codeAny_mono run fun r t h => ?_
  match r, h with
  | .error e, h => exact False.elim h
  | .ok (.ret u), h =>
    obtain ⟨v, H', os, bare, un, hok', r', q⟩ := h
    have q' : v = .bl true := q
    rw [q'] at r'
    obtain rfl : u = Value.bool true := r'
    refine ⟨rfl, OldK.of_keep fun b o e => ?_, os, bare⟩
    rcases hO b with z | ⟨ob, xs, z⟩
    · exact un.keep b o e z (fun y => absurd (show b ∈ ([] : List Addr) from y) List.not_mem_nil) (fun y => nomatch y)
    · obtain ⟨e1, _⟩ := hok b _ z
      obtain ⟨e2, _⟩ := hok' b _ (un.frzs b ob _ z)
      rw [e1] at e
      cases e
      exact e2
theorem law_callG (KX : K.In s.heap) (hg0 : s.heap.Ns mainGlobals mg) (hb : s.heap.Ns builtinsNs mb) (hbb : ∀ y : Str, y ≠ "__name__" → mb y = bootBuiltins y) (hlim : s.heap.NoLimit) (hg : s.gens = #[])
    (ha : s.heap.get? a = some { cls := .type "list", data := .seq vs.toArray }) (hi : IntsAre vs ns) (hl : ns.length ≤ sizeLine) (hr : Room k callerA)
    (F : ∀ base : Heap, K.In base → base.Ns mainGlobals mg → FnOkG P w K mg base CX0 k fa fd [x] sp) (hbind : ∀ (t : Shared) (u : Value), BindsTo t fd ⟨[u], []⟩ [(x, u)])
    (hsp : ∀ H : Hp, SqL K H a (ns.map V.int) → sp [.ref a] H (fun v _ => v = .bl true) fun _ _ _ => False) :
    codeAny (model P w) callerA (.call (.ref fa) ⟨[.ref a], []⟩) (fun r t => r = .ok (.ret (.bool true)) ∧ OldK s.heap t.heap ∧ t.os = s.os ∧ AllBare t.gens) s := by
  have rv := vals_ints hi
  have hlen : (ns.map V.int).length ≤ sizeLine := by
    rw [List.length_map]
    exact hl
  cases hk : K.lookup a with
  | some o =>
    have e := KX a o hk
    rw [ha] at e
    cases e
    refine from_heap KX hg0 hb hbb hlim hg ha hr F hbind (fun _ => none) (fun _ => .inl rfl) (fun b u z => nomatch z) (fun b z => absurd rfl z) (fun z => absurd rfl z) (hsp _ ?_)
    exact .inr ⟨_, vs.toArray, _, hk, rfl, rfl, rfl, by rw [List.size_toArray, hi.length]; exact hl, by simpa using rv⟩
  | none =>
    have at_ : ∀ b, (if b = a then some (HO.frz { cls := .type "list", data := .seq vs.toArray } (.lst (ns.map V.int))) else none) ≠ none → b = a := by
      intro b z
      by_cases e : b = a
      · exact e
      · rw [if_neg e] at z
        exact absurd rfl z
    refine from_heap KX hg0 hb hbb hlim hg ha hr F hbind (fun b => if b = a then some (.frz { cls := .type "list", data := .seq vs.toArray } (.lst (ns.map V.int))) else none) (fun b => ?_) (fun b u z => ?_) at_ (fun _ => hk)
      (hsp _ (.inl (.inr ⟨_, if_pos rfl⟩)))
    · by_cases e : b = a
      · exact .inr ⟨_, _, if_pos e⟩
      · exact .inl (if_neg e)
    · have e : b = a := at_ b (by
        have z' : (if b = a then some (HO.frz { cls := .type "list", data := .seq vs.toArray } (.lst (ns.map V.int))) else none) = some u := z
        rw [z']
        exact Option.some_ne_none u)
      subst e
      have z' := (if_pos rfl).symm.trans z
      cases z'
      exact ⟨ha, hlen, vs, _, rv, ha⟩
end
theorem walk_G {l : PySem.W.OpenLaw} {n k : Nat} {q : Program} {loose : List Str} {XP : (Str → Option Value) → Heap → Prop} {YP : World → Heap → Prop} {d : DefRec} {K : Params → PySem.W.Frag} {sp : PySem.W.Frag → Sp} {x : Str}
    (hn : l.most = some n) (hn2 : n ≤ sizeLine) (hdf : d.params.defaults = []) (hr : Room k callerA) (hY : ∀ (w : World) (h : Heap), YP w h → (K w.params).In h)
    (F : ∀ (w : World) (mg : Str → Option Value) (fa : Addr) (h : Heap), (K w.params).In h → h.Ns mainGlobals mg → mg d.name = some (.ref fa) →
      ∃ fd : FuncData, (∀ (t : Shared) (u : Value), BindsTo t fd ⟨[u], []⟩ [(x, u)]) ∧ ∀ base : Heap, (K w.params).In base → base.Ns mainGlobals mg → FnOkG l.prog w (K w.params) mg base CX0 k fa fd [x] (sp (K w.params)))
    (hsp : ∀ (K : PySem.W.Frag) (H : Hp) (a : Addr) (ns : List Int), ns.length ≤ n → SqL K H a (ns.map V.int) → sp K [.ref a] H (fun v _ => v = .bl true) fun _ _ _ => False) :
    PySem.W.WalkO q loose XP YP l.row.toRowW d [] (fun f vs => PySem.call f vs) := by
  refine Att.attach_call hn hdf fun w s₀ s₁ mg mb fa o pm cd doc a vs ns G Y ho hd hcd hmg hobj hints hlen hgens => ?_
  obtain ⟨fd, hb, hF⟩ := F w mg fa _ (hY w _ Y) G.T.g hmg
  exact law_callG (hY w _ Y) G.T.g G.T.b G.T.builtins G.T.nolimit hgens hobj hints (Nat.le_trans hlen hn2) hr hF hb fun H hS => hsp _ H a ns hlen hS
end Fm
namespace Fm
open PySem PySem.Spec PyProof.Rows L2
/-! a list of whatever, beside the empty one -/
section
variable {X : Cx}
def rNeNil (K : PySem.W.Frag) : R2 := fun x y H Q => ∃ (a b : Addr) (xs : List V), x = .ref a ∧ y = .ref b ∧ SqL K H a xs ∧ SqL K H b [] ∧ Q (.bl (!xs.isEmpty)) H
def rEqNil (K : PySem.W.Frag) : R2 := fun x y H Q => ∃ (a b : Addr) (xs : List V), x = .ref a ∧ y = .ref b ∧ SqL K H a xs ∧ SqL K H b [] ∧ Q (.bl xs.isEmpty) H
theorem op_neNil (hu : X.A.units < cLine) : OpR X (compareOp .NotEq) (rNeNil X.K) := by
  intro pins s σ H x y v u Q I rx ry h
  obtain ⟨a, b, xs, rfl, rfl, ha, hb, q⟩ := h
  obtain rfl : v = Value.ref a := rx
  obtain rfl : u = Value.ref b := ry
  obtain ⟨i1, r1, p1, _⟩ := I.list ha
  obtain ⟨i2, r2, p2, _⟩ := I.list hb
  have l1 := r1.length
  have l2 : i2 = [] := List.eq_nil_of_length_eq_zero (by have := r2.length; simpa using this.symm)
  subst l2
  cases xs with
  | nil =>
    have l3 : i1 = [] := List.eq_nil_of_length_eq_zero (by simpa using l1.symm)
    subst l3
    exact SeqAt.RcNeAt.lists (e := fun _ => true) p1.isList p2.isList rfl hu (fun j j1 _ => absurd j1 (Nat.not_lt_zero j)) X.prog X.w X.xe _ ⟨.bl false, H, I, rfl, q⟩
  | cons z zs =>
    refine SeqAt.RcNeAt.lists_lengths p1.isList p2.isList ?_ hu X.prog X.w X.xe _ ⟨.bl true, H, I, rfl, q⟩
    simp only [List.length_cons] at l1
    simp [bne_iff_ne]
    intro z
    rw [z] at l1
    simp at l1
theorem op_eqNil (hu : X.A.units < cLine) : OpR X (compareOp .Eq) (rEqNil X.K) := by
  intro pins s σ H x y v u Q I rx ry h
  obtain ⟨a, b, xs, rfl, rfl, ha, hb, q⟩ := h
  obtain rfl : v = Value.ref a := rx
  obtain rfl : u = Value.ref b := ry
  obtain ⟨i1, r1, p1, _⟩ := I.list ha
  obtain ⟨i2, r2, p2, _⟩ := I.list hb
  have l1 := r1.length
  have l2 : i2 = [] := List.eq_nil_of_length_eq_zero (by have := r2.length; simpa using this.symm)
  subst l2
  cases xs with
  | nil =>
    have l3 : i1 = [] := List.eq_nil_of_length_eq_zero (by simpa using l1.symm)
    subst l3
    exact SeqAt.RcAt.lists (e := fun _ => true) p1.isList p2.isList rfl hu (fun j j1 _ => absurd j1 (Nat.not_lt_zero j)) X.prog X.w X.xe _ ⟨.bl true, H, I, rfl, q⟩
  | cons z zs =>
    refine SeqAt.RcAt.lists_lengths p1.isList p2.isList ?_ hu X.prog X.w X.xe _ ⟨.bl false, H, I, rfl, q⟩
    simp only [List.length_cons] at l1
    simp [bne_iff_ne]
    intro z
    rw [z] at l1
    simp at l1
/-- i not in range(lo, hi) -/
theorem op_notIn_rng : OpR X (compareOp .NotIn) (fun x y H Q => ∃ i a lo hi, x = V.int i ∧ y = V.ref a ∧ H a = some (.rng lo hi) ∧ Q (.bl (!decide (lo ≤ i ∧ i < hi))) H) := by
  intro pins s σ H x y v u Q I rx ry h
  obtain ⟨i, a, lo, hi, rfl, rfl, ha, q⟩ := h
  obtain ⟨k, rfl⟩ := rx
  obtain rfl : u = Value.ref a := ry
  obtain ⟨t1, t2, t3, hob⟩ := I.hok a _ ha
  show wpAny _ _ (do return Value.bool (!(← contains (Value.ref a) (Value.int i k)))) _ _ s
  refine wpAny_bind (wpAny_contains_slot (T := "range") ⟨_, hob, rfl⟩ F.slot_range_contains (call_meets F.slot_range_contains ⟨_, hob, rfl⟩ F.entry_range_contains (F.args_range_contains_2 _ _) (q_contains a lo hi i t1 t2 t3 k) ⟨hob, wpAny_truthy_bool (wpAny_pure ⟨.bl _, H, I, rfl, by rw [place1]; exact q⟩)⟩))
/-- x is not True, x a bool or an int -/
def rNotB : R2 := fun x y H Q => ∃ b : Bool, y = .bl b ∧ ((∃ a : Bool, x = .bl a ∧ Q (.bl (!decide (a = b))) H) ∨ (∃ i : Int, x = .int i ∧ Q (.bl true) H))
theorem op_notB : OpR X (compareOp .IsNot) rNotB := by
  intro pins s σ H x y v u Q I rx ry h
  obtain ⟨b, rfl, h⟩ := h
  rcases h with ⟨a, rfl, q⟩ | ⟨i, rfl, q⟩
  · exact op_isnot_bl pins s σ H _ _ _ _ Q I rx ry ⟨a, b, rfl, rfl, q⟩
  · obtain ⟨t, rfl⟩ := rx
    cases (show u = Value.bool b from ry)
    exact wpAny_isNot_other rfl (fun z => nomatch z) ⟨.bl true, H, I, rfl, q⟩
end
end Fm
/-! enumerate of a tuple -/
namespace Fm
open PySem PySem.Spec PyProof.Rows L2
section
variable {prog : Program} {w : World} {A : Around} {E : Value → Shared → Prop} {s : Shared}
theorem nx_tup_item {it t : Addr} {i : Nat} {items : Array Value} {x : Value} {Q : Value → Shared → Prop} (hit : s.heap.IsTupleIter it t i) (ht : s.heap.IsTuple t items) (hx : items[i]? = some x)
    (hQ : ∀ h', h'.IsTupleIter it t (i + 1) → Heap.SameBut it s.heap h' → Q x { s with heap := h' }) : wpAny (model prog w) A (Builtin.SmallTypes.nextOf (.ref it)) Q E s := by
  obtain ⟨o, ho, hc, hd⟩ := id hit
  obtain ⟨ol, hol, _, nl, hdl⟩ := ht
  unfold Builtin.SmallTypes.nextOf
  refine wpAny_bind (wpAny_callSpecial?_slot (name := Str.ofString "__next__") hit.typeIs PySem.F.slot_tuple_iterator_next
    (wpAny_call_entry PySem.F.slot_tuple_iterator_next hit.typeIs PySem.F.entry_tuple_iterator_next ?_ (PySem.F.args_tuple_iterator_next_1 _)))
  show wpAny (model prog w) _ (field (.ref it) 0 >>= _) _ _ s
  refine wpAny_bind (wpAny_field ho hd (x := .ref t) rfl ?_)
  show wpAny (model prog w) _ (if (Value.ref t == Value.none) = true then _ else _) _ _ s
  rw [if_neg (show ¬ ((Value.ref t == Value.none) = true) from Bool.false_ne_true)]
  show wpAny (model prog w) _ (field (.ref it) 1 >>= _) _ _ s
  refine wpAny_bind (wpAny_field ho hd (x := .int i 0) rfl ?_)
  show wpAny (model prog w) _ (seqItems? (.ref t) >>= _) _ _ s
  refine wpAny_bind (wpAny_seqItems hol hdl ?_)
  simp only [Int.toNat_natCast, hx]
  refine wpAny_bind (wpAny_setField ho hd (by simp) (wpAny_pure ⟨x, rfl, wpAny_pure (hQ _ ?_ (Heap.SameBut.update ..))⟩))
  refine ⟨_, Heap.get?_update_self _ ho (Obj.isFreed_of_fields (Obj.data_mapFields hd _)), (Obj.cls_mapFields ..).trans hc, ?_⟩
  rw [Obj.data_mapFields hd]
  simp [rawInt]
theorem nx_tup_end {it t : Addr} {i : Nat} {items : Array Value} {Q : Value → Shared → Prop} (hh : A.handled = none) (hit : s.heap.IsTupleIter it t i) (ht : s.heap.IsTuple t items) (hx : items[i]? = none)
    (hE : ∀ h' e, Heap.ExtBut it s.heap h' → (∃ o, h'.get? e = some o ∧ o.cls = .type "StopIteration") → E (.ref e) { s with heap := h' }) : wpAny (model prog w) A (Builtin.SmallTypes.nextOf (.ref it)) Q E s := by
  obtain ⟨o, ho, hc, hd⟩ := id hit
  obtain ⟨ol, hol, _, nl, hdl⟩ := ht
  unfold Builtin.SmallTypes.nextOf
  refine wpAny_bind (wpAny_callSpecial?_slot (name := Str.ofString "__next__") hit.typeIs PySem.F.slot_tuple_iterator_next
    (wpAny_call_entry PySem.F.slot_tuple_iterator_next hit.typeIs PySem.F.entry_tuple_iterator_next ?_ (PySem.F.args_tuple_iterator_next_1 _)))
  show wpAny (model prog w) _ (field (.ref it) 0 >>= _) _ _ s
  refine wpAny_bind (wpAny_field ho hd (x := .ref t) rfl ?_)
  show wpAny (model prog w) _ (if (Value.ref t == Value.none) = true then _ else _) _ _ s
  rw [if_neg (show ¬ ((Value.ref t == Value.none) = true) from Bool.false_ne_true)]
  show wpAny (model prog w) _ (field (.ref it) 1 >>= _) _ _ s
  refine wpAny_bind (wpAny_field ho hd (x := .int i 0) rfl ?_)
  show wpAny (model prog w) _ (seqItems? (.ref t) >>= _) _ _ s
  refine wpAny_bind (wpAny_seqItems hol hdl ?_)
  simp only [Int.toNat_natCast, hx]
  refine wpAny_bind (wpAny_rule (wpAny_bind (wpAny_setField ho hd (by simp) ?_)))
  show wpAny (model prog w) _ (newExc (.type "StopIteration") [] >>= _) _ _ _
  refine wpAny_bind ?_
  simp only [newExc, newTuple]
  refine wpAny_bind (wpAny_newObj_type ?_ (by size_fits))
  refine wpAny_bind (m := firstArgMember _ _) (wpAny_of_eq (a := Value.none) (by first | rfl | (simp only [firstArgMember]; rfl)) ?_)
  refine wpAny_newObj_type ?_ (by size_fits)
  simp only [raiseNew]
  refine wpAny_bind (wpAny_handled ?_)
  first | rw [show A.in1.handled = none from hh] | rw [hh]
  refine wpAny_bind (wpAny_pure (wpAny_throw ?_))
  exact hE _ _ (((Heap.SameBut.update ..).extBut.push _).push _) ⟨_, Heap.get?_push_size _ rfl, rfl⟩
end
theorem draws_tup {prog : Program} {w : World} {A : Around} (hh : A.handled = none) (it t : Addr) (hne : t ≠ it) (items : Array Value) :
    Draws prog w A it [it, t] items.size (fun i v => items[i]? = some v) (fun i h => h.IsTupleIter it t i ∧ h.IsTuple t items) where
  live := fun _ _ st => let ⟨o, ho, _⟩ := st.1; ⟨o, ho⟩
  frame := fun _ _ _ st hk => ⟨st.1.at fun o e => hk it (by simp) o e, let ⟨o, ho, r⟩ := st.2; ⟨o, hk t (by simp) o ho, r⟩⟩
  item := fun i s Q E hi st hQ => by
    refine nx_tup_item st.1 st.2 (x := items[i]) (by simp [hi]) fun h' hit' hs' => ?_
    exact hQ _ h' s.toks (by simp [hi]) ⟨hit', let ⟨o, ho, r⟩ := st.2; ⟨o, (hs'.2 t hne).trans ho, r⟩⟩ hs'
  done := fun s Q E st hE => nx_tup_end hh st.1 st.2 (by simp) hE
theorem enum_newT (l : Addr) (items : Array Value) (n : Nat) (dct : Option Addr) (sl : Array (Option Value)) :
    Meets (Builtin.«enumerate.__new__» ⟨[.type "enumerate", .ref l], []⟩) (fun _ R s => s.heap.get? l = some { cls := .type "tuple", dict := dct, data := .seq items n, slots := sl } ∧
      R (.ok (.ret (.ref (s.heap.push { cls := .type "tuple_iterator", data := .fields #[.ref l, .int 0 0] }).objs.size)))
        { s with heap := (s.heap.push { cls := .type "tuple_iterator", data := .fields #[.ref l, .int 0 0] }).push { cls := .type "enumerate", data := .fields #[.none, .bool false, .ref s.heap.objs.size, rawInt 0, .none, .none] } }) :=
  .of_wp fun prog w A R s h => by
    obtain ⟨hp, g, d, tk, os⟩ := s
    obtain ⟨hl, h⟩ := h
    have hsub := sub_enumerate
    have hL : Heap.IsTuple (Shared.heap ⟨hp, g, d, tk, os⟩) l items := ⟨_, hl, rfl, n, rfl⟩
    wp_walk using AutoSeq1.wpAny_loadPart' hl
    refine wpAny_stack_any fun st => wpAny_pure ?_
    split
    · rename_i c _ _ _ _ _
      cases (c == Value.type "enumerate")
      · wp_walk using AutoSeq1.wpAny_loadPart' hl, wpAny_pyIter_tuple hL
        exact ⟨_, rfl, h⟩
      · wp_walk using AutoSeq1.wpAny_loadPart' hl, wpAny_pyIter_tuple hL
        exact ⟨_, rfl, h⟩
    · wp_walk using AutoSeq1.wpAny_loadPart' hl, wpAny_pyIter_tuple hL
      exact ⟨_, rfl, h⟩
theorem call_enumT {prog : Program} {w : World} {A : Around} {E : Value → Shared → Prop} {s : Shared} {l : Addr} {items : Array Value} {Q : Value → Shared → Prop} (hL : s.heap.IsTuple l items)
    (h : ∀ h', IsEnum h' (s.heap.objs.size + 1) s.heap.objs.size 0 .none → h'.IsTupleIter s.heap.objs.size l 0 → h'.objs.size = s.heap.objs.size + 2 →
      (∀ b o, s.heap.get? b = some o → h'.get? b = some o) → Q (.ref (s.heap.objs.size + 1)) { s with heap := h' }) :
    wpAny (model prog w) A (call (.type "enumerate") [.ref l]) Q E s := by
  obtain ⟨⟨c, dct, dt, sl⟩, hl, hc, n, hd⟩ := hL
  simp only at hc hd
  subst hc hd
  refine callType_new PySem.F.called_enumerate (by decide) (PySem.F.typeCall_enumerate_1 _) (PySem.F.newCall_enumerate_1 _) (fun obj => PySem.F.args_object_init_2 obj _) PySem.F.entry_enumerate_new (enum_newT l items n dct sl) ⟨hl, ?_⟩
  have hz : (s.heap.push { cls := .type "tuple_iterator", data := .fields #[.ref l, .int 0 0] }).objs.size = s.heap.objs.size + 1 := Heap.size_push ..
  show _ ∧ _
  rw [hz]
  have he : IsEnum ((s.heap.push { cls := .type "tuple_iterator", data := .fields #[.ref l, .int 0 0] }).push { cls := .type "enumerate", data := .fields #[.none, .bool false, .ref s.heap.objs.size, rawInt 0, .none, .none] }) (s.heap.objs.size + 1) s.heap.objs.size 0 .none := by
    have := Heap.get?_push_size (s.heap.push { cls := .type "tuple_iterator", data := .fields #[.ref l, .int 0 0] })
      (o := { cls := .type "enumerate", data := .fields #[.none, .bool false, .ref s.heap.objs.size, rawInt 0, .none, .none] }) rfl
    rw [hz] at this
    exact this
  refine ⟨⟨_, he, rfl⟩, h _ he ⟨_, Heap.get?_push_of_some _ (Heap.get?_push_size _ rfl), rfl, rfl⟩ (by rw [Heap.size_push, hz]) fun b o x => Heap.get?_push_of_some _ (Heap.get?_push_of_some _ x)⟩
theorem enum_endT {prog : Program} {w : World} {A : Around} {E : Value → Shared → Prop} {s : Shared} {e it l : Addr} {i : Nat} {items : Array Value} {old : Value} {Q : Option Value → Shared → Prop} (hh : A.handled = none)
    (he : IsEnum s.heap e it i old) (hit : s.heap.IsTupleIter it l i) (hl : s.heap.IsTuple l items) (hx : items[i]? = none) (hQ : ∀ h', Heap.ExtBut it s.heap h' → Q none { s with heap := h' }) : wpAny (model prog w) A (pyNext (.ref e)) Q E s := by
  have hT : s.TypeIs (.ref e) "enumerate" := ⟨_, he, rfl⟩
  unfold pyNext
  refine wpAny_bind (wpAny_attempt (wpAny_callSpecial?_slot (name := Str.ofString "__next__") hT PySem.F.slot_enumerate_next
    (wpAny_call_entry PySem.F.slot_enumerate_next hT PySem.F.entry_enumerate_next ?_ (PySem.F.args_enumerate_next_1 _))))
  show wpAny (model prog w) _ (field (.ref e) 2 >>= _) _ _ _
  refine wpAny_bind (wpAny_field he rfl (x := .ref it) rfl ?_)
  refine wpAny_bind (nx_tup_end hh hit hl hx fun h' x he' hx' => ?_)
  obtain ⟨o, ho, hc⟩ := hx'
  refine wpAny_bind (wpAny_isInstance (T := "StopIteration") (b := true) ⟨o, ho, hc⟩ isSubtype_stop ?_)
  exact wpAny_pure (hQ _ he')
/-- the tuple at a, its items in new pairs -/
def IteT (K : PySem.W.Frag) (a : Addr) : It :=
  ⟨fun i H => ∃ (xs : List V) (x : V), SqT K H a xs ∧ xs[i]? = some x, fun i H v H' => ∃ T x, v = .ref T ∧ H T = none ∧ H' = upd H T (.tup [.int (i : Nat), x]) ∧ ∀ xs, SqT K H a xs → xs[i]? = some x, fun i H => ∃ xs : List V, SqT K H a xs ∧ xs.length ≤ i⟩
theorem turn_enumT {P : Program} {w : World} {K : PySem.W.Frag} {elts : List Expr} {kk : Nat} {tpos : Pos} (a e it : Addr) (hai : a ≠ it) (hae : a ≠ e) :
    Turn P w K (.Tuple elts kk tpos) (IteT K a) [e, it] e (fun i h => (∃ old, IsEnum h e it ((i : Nat) : Int) old) ∧ h.IsTupleIter it a i ∧ e ≠ it) where
  mem := by simp
  obj := fun i h st b hb => by
    obtain ⟨⟨old, he⟩, ⟨o, ho, hc, hd⟩, _⟩ := st
    have e' : b = e ∨ b = it := by simpa using hb
    rcases e' with z | z
    · rw [z]; exact ⟨_, he, fun v q => nomatch q⟩
    · rw [z]; exact ⟨o, ho, fun v q => by rw [hd] at q; cases q⟩
  keep := fun i h h' st k => let ⟨⟨old, he⟩, hi, hne⟩ := st; ⟨⟨old, k e (by simp) _ he⟩, hi.at fun o q => k it (by simp) o q, hne⟩
  item := by
    intro X hP hw hK hc i pins s σ H E I hf st hg
    subst hP hw hK
    obtain ⟨⟨old, he⟩, hit, hne⟩ := st
    obtain ⟨xs, x, hq, hx⟩ := hg
    obtain ⟨its, rv, p, hz⟩ := I.tuple hq
    obtain ⟨u, hu, ru⟩ := rv.get hx
    have hT0 : s.heap.IsTuple a its.toArray := p
    have hel : e < s.heap.objs.size := Heap.lt_size he
    have hil : it < s.heap.objs.size := by obtain ⟨_, q, _⟩ := hit; exact Heap.lt_size q
    have hiz : i < its.toArray.size := by
      rw [List.size_toArray]
      exact (List.getElem?_eq_some_iff.mp hu).1
    refine wpAny_pyNext_enum_itemD (draws_tup (show X.A.in1.handled = none from I.ok.hd hc) it a hai its.toArray) he ⟨hit, hT0⟩ hiz hne (by simp [hne, hae.symm]) fun x' h' tk hP' ho hst' hT hsz hk => ?_
    have ex : x' = u := by
      have : its.toArray[i]? = some x' := hP'
      rw [List.getElem?_toArray, hu] at this
      exact (Option.some.inj this).symm
    subst ex
    refine ⟨_, rfl, wpAny_letOwnedTupleGo_enum (s := { s with heap := h', toks := tk + 1 }) ho fun h'' he' sb => ?_⟩
    have hT2 : h''.get? s.heap.objs.size = some { cls := .type "tuple", data := .seq #[.int i tk, x'] } := (sb.2 _ (Nat.ne_of_gt hel)).trans hT
    have new : ObjOk X.prog X.w (upd H s.heap.objs.size (.tup [.int (i : Nat), x])) h'' s.heap.objs.size (.tup [.int (i : Nat), x]) :=
      ⟨by show 2 ≤ sizeLine; decide, [.int i tk, x'], .cons ⟨_, rfl⟩ (.cons ru .nil), ⟨_, hT2, rfl, _, rfl⟩⟩
    have I1 : Inv X pins σ (upd H s.heap.objs.size (.tup [.int (i : Nat), x])) { s with heap := h'', toks := tk + 1 } :=
      I.turnedNew (ch := [e, it]) (fun b ob hb q => (sb.2 b (fun z => hb (by simp [z]))).trans (hk b ob (fun z => hb (by simp [z])) (fun z => hb (by simp [z])) q)) hf (Nat.le_refl _) new
    refine ⟨.ref s.heap.objs.size, _, I1, rfl, ⟨_, x, rfl, I.hok.fresh (Nat.le_refl _), rfl, fun ys hy => by rw [I.tuple_inj hy hq]; exact hx⟩, ⟨⟨x', ?_⟩, hst'.1.at fun o q => (sb.2 it (Ne.symm hne)).trans q, hne⟩, fun b hb => ?_⟩
    · have e1 : ((i + 1 : Nat) : Int) = (i : Int) + 1 := by omega
      rw [e1]
      exact he'
    · have hb' : b < s.heap.objs.size := by
        have e' : b = e ∨ b = it := by simpa using hb
        rcases e' with z | z
        · rw [z]; exact hel
        · rw [z]; exact hil
      rw [upd_ne (Nat.ne_of_lt hb')]
      exact (hf b hb).1
  done := by
    intro X hP hw hK hc i pins s σ H E I hf st hg
    subst hP hw hK
    obtain ⟨⟨old, he⟩, hit, hne⟩ := st
    obtain ⟨xs, hq, hx⟩ := hg
    obtain ⟨its, rv, p, hz⟩ := I.tuple hq
    obtain ⟨f0, f1, f2, f3, f4, f5⟩ := hf it (by simp)
    have hl := rv.length
    have hT0 : s.heap.IsTuple a its.toArray := p
    exact enum_endT (I.ok.hd hc) he hit hT0 (by simp; omega) fun h' eb => ⟨rfl, I.turned (t' := s.toks) (fun b o hb q => eb b o hb q) f0 f1 f3 f4 f5⟩
  self := fun A i s Q E st h => let ⟨⟨_, he⟩, _⟩ := st; wpAny_pyIter_enum he h
def iEnumG (K : PySem.W.Frag) (ta : TA) : TI := fun σ H R => ta σ H fun vs H1 => ∃ a xs, vs = [.ref a] ∧ ((SqL K H1 a xs ∧ R (Ite K a) H1) ∨ (SqT K H1 a xs ∧ R (IteT K a) H1))
theorem bt_enumerate : bootBuiltins "enumerate" = some (.type "enumerate") := by decide +kernel
theorem pi_enumG {X : Cx} {e : Expr} {ta : TA} {p pos tpos : Pos} {elts : List Expr} {kk : Nat} (hg : Gl X "enumerate") (hm : X.mg "enumerate" = none) (ha : PA X [e] ta) (hs : starEach [e] X.env = [(false, eval e X.env)] := by rfl) :
    PI X (.Tuple elts kk tpos) (.Call (.Name "enumerate" p) [e] [] pos) (iEnumG X.K ta) := by
  refine ⟨fun pins s σ H R I h => ?_⟩
  refine Call_ (ld_blt I hg hm bt_enumerate (PyProof.Rows.callWith_type1 (thn (ha.run pos pins s σ H _ I h) fun us s1 ⟨vs, H1, I1, r1, q1⟩ => ?_) hs rfl))
  obtain ⟨a, xs, rfl, q⟩ := q1
  obtain rfl := Vals.ref1 r1
  have fp : ∀ b ∈ [s1.heap.objs.size + 1, s1.heap.objs.size], FpOk X pins H1 b := fun b hb => by
    have hle : s1.heap.objs.size ≤ b := by
      rcases (show b = s1.heap.objs.size + 1 ∨ b = s1.heap.objs.size by simpa using hb) with z | z <;> omega
    exact I1.fpOk hle (I1.hok.fresh hle)
  rcases q with ⟨hq, q⟩ | ⟨hq, q⟩
  · obtain ⟨its, rv, p', hz⟩ := I1.list hq
    refine call_enumerate_list p'.isList fun h' he hit hsz hk => wpAny_pyIter_enum he ?_
    have I2 : Inv X pins σ H1 { s1 with heap := h' } := I1.kept (t' := s1.toks) hk
    exact ⟨s1.heap.objs.size + 1, [s1.heap.objs.size + 1, s1.heap.objs.size], _, _, H1, rfl, I2, turn_enum a (s1.heap.objs.size + 1) s1.heap.objs.size, ⟨⟨.none, he⟩, hit, Nat.succ_ne_self _⟩, fp, q⟩
  · obtain ⟨its, rv, p', hz⟩ := I1.tuple hq
    have hT0 : s1.heap.IsTuple a its.toArray := p'
    have hal : a < s1.heap.objs.size := by
      obtain ⟨o, ho, _⟩ := hT0
      exact Heap.lt_size ho
    refine call_enumT hT0 fun h' he hit hsz hk => wpAny_pyIter_enum he ?_
    have I2 : Inv X pins σ H1 { s1 with heap := h' } := I1.kept (t' := s1.toks) hk
    exact ⟨s1.heap.objs.size + 1, [s1.heap.objs.size + 1, s1.heap.objs.size], _, _, H1, rfl, I2, turn_enumT a (s1.heap.objs.size + 1) s1.heap.objs.size (Nat.ne_of_lt hal) (Nat.ne_of_lt (Nat.lt_succ_of_lt hal)), ⟨⟨.none, he⟩, hit, Nat.succ_ne_self _⟩, fp, q⟩
/-- a loop over enumerate of a list or tuple that stays -/
theorem for_enumG {K : PySem.W.Frag} {a : Addr} {xs : List V} {g : TG} {tb : TS} {D : Ends} {σ : L2.St} {H : Hp} {R : Prop} (hS : SqL K H a xs ∨ SqT K H a xs) (Pv : Nat → L2.St → Hp → Prop) (h0 : Pv 0 σ H) (hk : ∀ i σ' H', Pv i σ' H' → Mv [] H H')
    (hs : ∀ i x T σ' H', xs[i]? = some x → Pv i σ' H' → H' T = none → g (.ref T) σ' (upd H' T (.tup [.int (i : Nat), x])) fun σ2 H2 => tb { D with nx := Pv (i + 1), ct := Pv (i + 1), bk := D.nx } σ2 H2) (hd : ∀ σ' H', Pv xs.length σ' H' → D.nx σ' H') :
    (SqL K H a xs ∧ ∃ W : Nat → Nat → L2.St → Hp → Prop, (∃ m, W 0 m σ H) ∧ ∀ i m σ H, W i m σ H →
      ((Ite K a).stop i H ∧ D.nx σ H) ∨ ((Ite K a).go i H ∧ ∃ N : L2.St → Hp → Prop, (∀ σ' H', N σ' H' → ∃ m', m' < m ∧ W (i + 1) m' σ' H') ∧ ∀ x H', (Ite K a).yld i H x H' → g x σ H' fun σ2 H2 => tb { D with nx := N, ct := N, bk := D.nx } σ2 H2)) ∨
    (SqT K H a xs ∧ ∃ W : Nat → Nat → L2.St → Hp → Prop, (∃ m, W 0 m σ H) ∧ ∀ i m σ H, W i m σ H →
      ((IteT K a).stop i H ∧ D.nx σ H) ∨ ((IteT K a).go i H ∧ ∃ N : L2.St → Hp → Prop, (∀ σ' H', N σ' H' → ∃ m', m' < m ∧ W (i + 1) m' σ' H') ∧ ∀ x H', (IteT K a).yld i H x H' → g x σ H' fun σ2 H2 => tb { D with nx := N, ct := N, bk := D.nx } σ2 H2)) := by
  rcases hS with hS | hS
  · refine .inl ⟨hS, fun i m σ H => m = xs.length - i ∧ i ≤ xs.length ∧ Pv i σ H, ⟨xs.length, by simp, Nat.zero_le _, h0⟩, ?_⟩
    rintro i m σ H ⟨rfl, hi, p⟩
    have q := (hk i σ H p).same.seq hS
    by_cases hlt : i < xs.length
    · refine .inr ⟨⟨xs, xs[i], q, by simp [hlt]⟩, Pv (i + 1), fun σ' H' p' => ⟨xs.length - (i + 1), by omega, rfl, hlt, p'⟩, fun x H' y => ?_⟩
      obtain ⟨T, x', rfl, hT, rfl, y⟩ := y
      exact hs i x' T σ _ (y xs q) p hT
    · have e : i = xs.length := by omega
      subst e
      exact .inl ⟨⟨xs, q, Nat.le_refl _⟩, hd σ H p⟩
  · refine .inr ⟨hS, fun i m σ H => m = xs.length - i ∧ i ≤ xs.length ∧ Pv i σ H, ⟨xs.length, by simp, Nat.zero_le _, h0⟩, ?_⟩
    rintro i m σ H ⟨rfl, hi, p⟩
    have q := (hk i σ H p).sqT hS
    by_cases hlt : i < xs.length
    · refine .inr ⟨⟨xs, xs[i], q, by simp [hlt]⟩, Pv (i + 1), fun σ' H' p' => ⟨xs.length - (i + 1), by omega, rfl, hlt, p'⟩, fun x H' y => ?_⟩
      obtain ⟨T, x', rfl, hT, rfl, y⟩ := y
      exact hs i x' T σ _ (y xs q) p hT
    · have e : i = xs.length := by omega
      subst e
      exact .inl ⟨⟨xs, q, Nat.le_refl _⟩, hd σ H p⟩
end Fm
namespace Fm
open PySem PySem.Spec PyProof.Rows L2 SlX
section
variable {X : Cx}
/-- dict(d) -/
def rDictD : List V → Hp → VK → Prop := fun xs H Q => ∃ (a : Addr) (kvs : List (L2.Key × V)), xs = [.ref a] ∧ H a = some (.dK kvs) ∧ ∀ p, H p = none → Q (.ref p) (upd H p (.dK kvs))
theorem call_dictD : CallR X (.type "dict") rDictD := by
  intro pins s σ H xs us Q I r h
  obtain ⟨a, kvs, rfl, ha, q⟩ := h
  obtain rfl := Vals.ref1 r
  obtain ⟨z, hd, vs, kv, hD⟩ := dk_of I.hok ha
  refine PySem.kt_call_dict hd hD (by rw [← kv.length]; exact z) fun h' hm hs => ?_
  have hk : ∀ b o, s.heap.get? b = some o → h'.get? b = some o := fun b o e => (hs.2 b (Nat.ne_of_lt (Heap.lt_size e))).trans (Heap.get?_push_of_some _ e)
  have hm' : (s.heap.objs.size == sysModules) = false := beq_eq_false_iff_ne.mpr (Nat.ne_of_gt I.big)
  exact ⟨.ref s.heap.objs.size, _, I.laid (t' := s.toks) hk (Nat.le_refl _) (show ObjOk X.prog X.w _ _ _ (.dK kvs) from ⟨z, hm', vs, kv, hm⟩), rfl, q _ (I.hok.fresh (Nat.le_refl _))⟩
/-- len(set(x)), x a list or tuple of ints -/
def tLenSetG (K : PySem.W.Frag) (ta : TE) : TE := fun σ H Q => ta σ H fun x H1 => ∃ (l : Addr) (ns : List Int), x = .ref l ∧ (SqL K H1 l (ns.map V.int) ∨ SqT K H1 l (ns.map V.int)) ∧ ns.length ≤ 4000 ∧
  ∀ ks : List Int, ks.Nodup → (∀ k, k ∈ ks ↔ k ∈ ns) → Q (.int ks.length) H1
theorem pe_lenSetG {a : Expr} {ta : TE} {p p2 q pos : Pos} (hc : X.calm = true) (hg : Gl X "len") (hm : X.mg "len" = none) (hg2 : Gl X "set") (hm2 : X.mg "set" = none) (ha : PE X a ta)
    (na : starEach [a] X.env = (false, eval a X.env) :: starEach [] X.env := by rfl) : PE X (.Call (.Name "len" p) [.Call (.Name "set" p2) [a] [] q] [] pos) (tLenSetG X.K ta) := by
  refine ⟨fun pins s σ H Q I h => ?_⟩
  refine Call_ (ld_blt I hg hm PySem.boot_len ?_)
  refine PyProof.Rows.callWith_builtin1 (PyProof.Rows.args_cons ?_ rfl) rfl rfl
  refine Call_ (ld_blt I hg2 hm2 PyProof.Rows.boot_set ?_)
  refine PyProof.Rows.callWith_type1 (PyProof.Rows.args_cons (thn (ha.run pins s σ H _ I h) fun v s1 ⟨x, H1, I1, r1, q1⟩ => PyProof.Rows.args_nil ?_) na) na rfl
  obtain ⟨l, ns, rfl, hq, hl, q1⟩ := q1
  cases r1
  have hb : ns.length + 1 < scanBound := Nat.lt_of_le_of_lt (Nat.succ_le_succ hl) (by decide)
  have fin : ∀ (h' : Heap) (tk c : Nat), SetR X.w h' s1.heap.objs.size (fun j => decide (j ∈ ns)) c → (∀ b o, s1.heap.get? b = some o → h'.get? b = some o) →
      wpAny (model X.prog X.w) X.A (call (.builtin "len") [.ref s1.heap.objs.size]) (EP X pins σ Q) X.xe { s1 with heap := h', toks := tk } := by
    intro h' tk c R hk
    have I2 : Inv X pins σ H1 { s1 with heap := h', toks := tk } := I1.kept hk
    obtain ⟨o, es, ep, t, ho, hex, hd, h4, h5, h6, h7, h8, h9, h10⟩ := id R
    have hle : (es.toList.map keyOf).length = es.size := by rw [List.length_map, Array.length_toList]
    have hbd : (es.size : Int) < 2 ^ 63 := by
      have : scanBound < 2 ^ 62 := by decide
      omega
    refine PySem.call_len_set ho hex hd h8 hbd ⟨.int es.size, H1, I2.tok _, ⟨_, rfl⟩, ?_⟩
    have := q1 (es.toList.map keyOf) h5 fun k => by rw [← h6 k]; simp
    rw [hle] at this
    exact this
  rcases hq with hq | hq
  · obtain ⟨its, r, pl, hz⟩ := I1.list hq
    refine set_of_list ns (I1.ok.hd hc) pl.isList (by simpa using r.ints) hb fun h' tk c R hk => ?_
    exact PyProof.Rows.args_nil (fin h' tk c R hk)
  · obtain ⟨its, r, pl, hz⟩ := I1.tuple hq
    refine call_set_tupI ns (I1.ok.hd hc) (show s1.heap.IsTuple l its.toArray from pl) (by simpa using r.ints) hb fun h' tk c R _ hk => ?_
    exact PyProof.Rows.args_nil (fin h' tk c R hk)
/-- o.f = value as a target -/
def gSl (K : PySem.W.Frag) (to : TE) (f : Str) : TG := fun y σ H Q => to σ H fun x H2 => ∃ a C dx p vs i, x = .ref a ∧ Slt H2 a C dx vs ∧ SCls K C ∧ Slot1 K C f p i ∧ Q σ (slH H2 a C dx (putS i y vs))
theorem pg_sl {o : Expr} {to : TE} {f : Str} {pos : Pos} (ho : PE X o to) (ha : ∀ v, assign (.Attribute o f pos) X.env v = (do
      let ov ← holding [v] (eval o X.env)
      standAt pos.atName
      holding [v, ov] (setAttr ov f v)
      release [v, ov] []) := by intro _; rfl) : PG X (.Attribute o f pos) (gSl X.K to f) := by
  refine ⟨fun pins s σ H v u Q I r h => ?_⟩
  rw [ha]
  refine wpAny_bind (wpAny_holding (thn (ho.run pins s σ H _ I h) fun ov s1 ⟨x, H1, I1, r1, a, C, dx, p, vs, i, ex, hs, hc, ht, q1⟩ => ?_))
  subst ex
  obtain rfl : ov = Value.ref a := r1
  refine wpAny_bind (wpAny_standAt (wpAny_bind (wpAny_holding (setslot_ok I1 hs hc ht r fun s2 I2 => ?_))))
  exact wpAny_release ⟨σ, _, I2, q1⟩
end
theorem bt_ValueError : bootBuiltins "ValueError" = some (.type "ValueError") := by decide +kernel
theorem bt_min : bootBuiltins "min" = some (.builtin "min") := by decide +kernel
theorem fnR_of {P : Program} {w : World} {K : PySem.W.Frag} {mg : Str → Option Value} {base : Heap} {CX : CXT} {k : Nat} {f : Addr} {fd : FuncData} {ps : List Str} {sp : Sp} (F : FnOk P w K mg base CX k f fd ps sp) (b : Binds K fd ps []) : FnR P w K mg base CX k f sp := by
  intro A outer s H us vs Q E hr e0 r h
  have hl : us.length = ps.length := by rw [← r.length]; exact F.len _ _ _ _ h
  have kin : K.In s.heap := e0.mod.kin.keeps fun b o e => (e0.bs b o e).1
  have b' := b s us kin (by rw [List.append_nil]; exact hl)
  rw [List.append_nil] at b'
  exact F.run A outer s H ⟨us, []⟩ us vs Q E hr e0 b' r h
section
variable {X : Cx} {CX : CXT} {k : Nat} {C g : Addr} {fd : FuncData} {ps : List Str} {sp : Sp} {E : L2.St → XK} {m : Str} {pos apos : Pos} {e o : Expr} {es : List Expr} {ta : TE} {t : TA}
/-- o.m(..) where what is raised is wished for at the slots -/
def tMethSlS (C : Addr) (sp : Sp) (E : L2.St → XK) (ta : TE) (t : TA) : TE := fun σ H Q => ta σ H fun x H1 => ∃ a dx vs, x = .ref a ∧ Slt H1 a C dx vs ∧ t σ H1 fun ws H2 => sp (x :: ws) H2 Q (E σ)
theorem pe_methSlS {pl : Sem Bool} (he : PE X o ta) (c : SCls X.K C) (hm : Meth X.K C m g) (F : FnOk X.prog X.w X.K X.mg X.base CX k g fd ps sp) (hr : Room k X.A) (hb : Binds X.K fd ps []) (hx : ∀ σ, PassesAt CX X σ (E σ)) (ha : PA X (e :: es) t)
    (hst : starEach (e :: es) X.env = (false, eval e X.env) :: starEach es X.env := by rfl) (hpl : (backTo pos (starEach es X.env)).any (·.1) = false := by rfl)
    (ht : eval (.Call (.Attribute o m apos) (e :: es) [] pos) X.env = (do
      let ov ← eval o X.env
      standAt apos.atName
      let (f, first) ← holding [ov] (getMethod ov m pl)
      callWith pos f first (backTo pos (starEach (e :: es) X.env)) (backToKw pos (keywordEach [] X.env))) := by rfl) :
    PE X (.Call (.Attribute o m apos) (e :: es) [] pos) (tMethSlS C sp E ta t) := by
  refine ⟨fun pins s σ H Q I h => ?_⟩
  refine PySem.W.methodCall_KW (pl := pl) (thn (he.run pins s σ H _ I h) fun u s1 ⟨x, H1, I1, rx, a, dx, vs, ex, hsl, q⟩ => ?_) ht
  subst ex
  obtain rfl : u = Value.ref a := rx
  refine getmethsl_ok I1 hsl c hm ?_
  refine PySem.W.callWith_K (first := [.ref a]) (h₀ := X.base) I.ok.mod.kin hm.kp (thn (ha.run pos pins s1 σ H1 _ I1 q) fun us s2 ⟨ws, H2, I2, r, q2⟩ => ⟨I2.kIn, ?_⟩) hst hpl
  exact run_fnS (us := .ref a :: us) (vs := .ref a :: ws) F hr hb (hx σ) I2 (.cons rfl r) q2
end
section
variable {X : Cx}
/-- sorted: a dict's text keys, texts, ints -/
def rSortDk : List V → Hp → VK → Prop := fun xs H Q => ∃ (a : Addr) (kvs : List (L2.Key × V)) (ks : List Str), xs = [.ref a] ∧ Rd H a (.dK kvs) ∧ kvs.map (·.1) = ks.map Sum.inr ∧ ks.length < 64 ∧ ∀ ys p, ys.Perm ks → sortedS ys = true → H p = none → Q (.ref p) (upd H p (.lst (ys.map V.str)))
def rSortA (K : PySem.W.Frag) : List V → Hp → VK → Prop := fun xs H Q => rSortDk xs H Q ∨ (rSortedS K xs H Q ∨ rSorted K xs H Q)
theorem cr_sortA (hc : X.calm = true) : CallR X (.builtin "sorted") (rSortA X.K) := CallR.or (call_sortedD hc) (CallR.or cr_sortedS cr_sorted)
def rDictP (K : PySem.W.Frag) : List V → Hp → VK → Prop := fun xs H Q => ∃ (a : Addr) (ps : List Addr) (kvs : List (L2.Key × V)), xs = [.ref a] ∧ SqL K H a (ps.map V.ref) ∧ Paired (fun p kv => SqT K H p [kV kv.1, kv.2]) ps kvs ∧ ∀ p, H p = none → Q (.ref p) (upd H p (.dK (mergeK [] kvs)))
def rDictG (K : PySem.W.Frag) : List V → Hp → VK → Prop := fun xs H Q => rDictP K xs H Q ∨ rDictD xs H Q
theorem call_dictG (hc : X.calm = true) : CallR X (.type "dict") (rDictG X.K) := CallR.or (call_dictP hc) call_dictD
def rListG (K : PySem.W.Frag) : List V → Hp → VK → Prop := fun xs H Q => rListOf K xs H Q ∨ rListD xs H Q
theorem call_listA (hc : X.calm = true) : CallR X (.type "list") (rListG X.K) := CallR.or call_listG (call_list_dK hc)
end
theorem kitOne_self {K : PySem.W.Frag} (C : Addr) : PySem.W.kitOne K (.ref C) (.ref C) = some true := by
  unfold PySem.W.kitOne
  rw [if_pos (by simp)]
end Fm
/-! sets of texts: set(xs), sorted(set) -/
namespace Fm
open PySem PySem.Spec PyProof.Rows L2
section
variable {P : Program} {w : World}
/-- two entries without a key in common -/
def Apart (P : Program) (w : World) (e f : Int × Value) : Prop := ∀ k : Str, (strKind P w).is k e.2 = true → (strKind P w).is k f.2 = true → False
theorem apart_symm {e f : Int × Value} (h : Apart P w e f) : Apart P w f e := fun k a b => h k b a
/-- a set of texts at a, that can be walked -/
def SetS (P : Program) (w : World) (h : Heap) (a : Addr) (S : Str → Bool) (n : Nat) : Prop := ∃ (o : Obj) (es : Array (Int × Value)) (ep : Nat) (t : SetTable), h.get? a = some o ∧ (o.ExactSet ∧ o.data = .set es ep t) ∧
  (ElemsOf (strKind P w) es.toList ∧ es.toList.Pairwise (Apart P w) ∧ ∀ k, S k = true ↔ ∃ e ∈ es.toList, (strKind P w).is k e.2 = true) ∧ (es.size < scanBound ∧ t.fits es.size = true ∧ es.size = n) ∧ Ris t.place.toList ∧ (w.params.followText "set-order" = true ∨ t.led = true)
theorem SetS.at {h h' : Heap} {a : Addr} {S : Str → Bool} {n : Nat} (R : SetS P w h a S n) (k : ∀ o, h.get? a = some o → h'.get? a = some o) : SetS P w h' a S n := by
  obtain ⟨o, es, ep, t, ho, r⟩ := R
  exact ⟨o, es, ep, t, k o ho, r⟩
theorem SetS.as {h : Heap} {a : Addr} {S S' : Str → Bool} {n : Nat} (R : SetS P w h a S n) (e : ∀ k, S' k = S k) : SetS P w h a S' n := by
  rw [funext e]
  exact R
theorem SetS.new {h : Heap} {a : Addr} {xs : List Str} (ho : h.get? a = some (eset w)) : SetS P w h a (fun k => decide (k ∈ xs.take 0)) 0 := by
  refine ⟨_, #[], 0, _, ho, ⟨⟨rfl, rfl, rfl⟩, rfl⟩, ⟨fun e he => by simp at he, .nil, fun k => by simp⟩, ⟨by decide, by rfl, rfl⟩, .nil, ?_⟩
  show _ ∨ (!w.params.followText "set-order") = true
  cases w.params.followText "set-order" with
  | true => exact .inl rfl
  | false => exact .inr rfl
abbrev rly (t : SetTable) (es : Array (Int × Value)) := relayAll t es (SetTable.grown es.size)
variable {A : Around} {E : Value → Shared → Prop} {s : Shared} {a : Addr} {S : Str → Bool} {n : Nat}
theorem sets_tail {g : Bool → Sem Unit} (hg : ∀ (b : Bool) (s1 : Shared) (Q : Unit → Shared → Prop), Q () s1 → wpAny (model P w) A (g b) Q E s1) {o : Obj} {es es1 : Array (Int × Value)} {ep : Nat} {t t2 : SetTable}
    (ho : s.heap.get? a = some o) (hx : o.ExactSet ∧ o.data = .set es ep t) (hE : ElemsOf (strKind P w) es1.toList ∧ es1.toList.Pairwise (Apart P w) ∧ ∀ k, S k = true ↔ ∃ e ∈ es1.toList, (strKind P w).is k e.2 = true)
    (hB : es1.size < scanBound) (hF : t2.fits es1.size = true) (hR : Ris t2.place.toList) (hL : w.params.followText "set-order" = true ∨ t2.led = true) {dm : Bool} {R : Option Bool → Shared → Prop}
    (fin : ∀ h', Heap.SameBut a s.heap h' → SetS P w h' a S es1.size → R (some true) { s with heap := h' }) :
    wpAny (model P w) A (do
      storeSet a es1 t2
      if (!dm && t2.tooFull) = true then do g (rly t2 es1).2.2; storeSet a (rly t2 es1).1 (rly t2 es1).2.1; pure (some true)
      else pure (some true)) R E s := by
  obtain ⟨hex, hd⟩ := hx
  obtain ⟨hE1, hE2, hE3⟩ := hE
  have put : ∀ {h : Heap} {o' : Obj} {e0 e1 : Array (Int × Value)} {ep' : Nat} {t0 t1 : SetTable}, h.get? a = some o' → o'.data = .set e0 ep' t0 → (h.update a (Obj.putSet e1 t1)).get? a = some { o' with data := .set e1 (ep' + 1) t1 } := fun hh hdd => store_at hh hdd
  refine wpAny_bind (wpAny_storeSet_of ho hd ?_ (fits_of_scanBound hB))
  have at1 := put (e1 := es1) (t1 := t2) ho hd
  have sb := Heap.SameBut.update s.heap a (Obj.putSet es1 t2)
  split
  · have q1 := relayAll_perm t2 es1 (SetTable.grown es1.size)
    have q2 := relayAll_fits t2 es1 (SetTable.grown es1.size)
    have q3 := relayAll_ris t2 es1 (SetTable.grown es1.size)
    have q4 := relayAll_led t2 es1 (SetTable.grown es1.size)
    rcases hz : relayAll t2 es1 (SetTable.grown es1.size) with ⟨f1, f2, f3⟩
    unfold rly
    rw [hz] at q1 q2 q3 q4 ⊢
    dsimp only at q1 q2 q3 q4 ⊢
    have hl : f1.size = es1.size := by rw [← Array.length_toList, q1.length_eq, Array.length_toList]
    refine wpAny_bind (hg _ _ _ (wpAny_bind (wpAny_storeSet_of at1 rfl ?_ (fits_of_scanBound (by rw [hl]; exact hB)))))
    refine wpAny_pure (fin _ (sb.trans (Heap.SameBut.update _ a _)) ⟨_, f1, _, f2, put at1 rfl, ⟨hex, rfl⟩, ⟨hE1.perm q1, (q1.pairwise_iff apart_symm).mpr hE2, fun k => ?_⟩, ⟨by rw [hl]; exact hB, q2, hl⟩, q3, hL.imp id fun z => q4.trans z⟩)
    rw [hE3 k]
    exact ⟨fun ⟨e, he, hk⟩ => ⟨e, q1.mem_iff.mpr he, hk⟩, fun ⟨e, he, hk⟩ => ⟨e, q1.mem_iff.mp he, hk⟩⟩
  · exact wpAny_pure (fin _ sb ⟨_, es1, _, t2, at1, ⟨hex, rfl⟩, ⟨hE1, hE2, hE3⟩, ⟨hB, hF, rfl⟩, hR, hL⟩)
theorem sets_add {k : Str} {tk : Tok} {Q : Bool → Shared → Prop} (R : SetS P w s.heap a S n) (room : n + 1 < scanBound)
    (fin : ∀ h', Heap.SameBut a s.heap h' → SetS P w h' a (fun j => S j || decide (j = k)) (if S k = true then n else n + 1) → Q (!S k) { s with heap := h' }) :
    wpAny (model P w) A (setAddHashed a (.str k tk) ((strKind P w).hash k)) Q E s := by
  obtain ⟨o, es, ep, t, ho, ⟨hex, hd⟩, ⟨hE1, hE2, hE3⟩, ⟨hB, hF, hN⟩, hR, hL⟩ := R
  have isk : (strKind P w).is k (.str k tk) = true := strKind_is P w k tk
  have sck : (Value.str k tk).scannable = true := rfl
  unfold setAddHashed setAddHashedIn
  refine wpAny_holding (wpAny_bind (wpAny_setState_of ho hd hF ?_))
  dsimp only
  rw [byScan_of sck hB hE1, if_pos rfl]
  unfold setAddByScan
  refine wpAny_bind (wpAny_bind (wpAny_rule (wpAny_bind (wpAny_setScan_of isk ho hd hF hE1 ?_))))
  rcases hfi : List.findIdx? (fun e : Int × Value => (strKind P w).is k e.2) es.toList with _ | j
  · dsimp only
    have no : ∀ e ∈ es.toList, (strKind P w).is k e.2 = true → False := fun e he z => by
      have := List.findIdx?_eq_none_iff.mp hfi e he
      rw [z] at this
      cases this
    have sk : S k = false := by
      cases z : S k with
      | false => rfl
      | true =>
        obtain ⟨e, he, hk⟩ := (hE3 k).mp z
        exact (no e he hk).elim
    have q1 := layNew_perm t es ((strKind P w).hash k) (.str k tk)
    have q2 := layNew_fits t es ((strKind P w).hash k) (.str k tk)
    have q3 := layNew_ris t es ((strKind P w).hash k) (.str k tk) hR
    have q4 := layNew_led t es ((strKind P w).hash k) (.str k tk)
    rcases hz : layNew t es ((strKind P w).hash k) (.str k tk) with ⟨f1, f2, dm, gv⟩
    rw [hz] at q1 q2 q3 q4
    dsimp only at q1 q2 q3 q4 ⊢
    rw [Array.toList_push] at q1
    have q5 : f1.toList.Perm (((strKind P w).hash k, Value.str k tk) :: es.toList) := q1.trans (List.perm_append_singleton _ _)
    have hl : f1.size = n + 1 := by rw [← Array.length_toList, q5.length_eq, List.length_cons, Array.length_toList, hN]
    have hE' : ElemsOf (strKind P w) f1.toList ∧ f1.toList.Pairwise (Apart P w) ∧ ∀ i, (S i || decide (i = k)) = true ↔ ∃ e ∈ f1.toList, (strKind P w).is i e.2 = true := by
      refine ⟨(hE1.push isk sck).perm q1, (q5.pairwise_iff apart_symm).mpr (.cons (fun e he j hj hje => ?_) hE2), fun i => ?_⟩
      · cases (strKind P w).inj _ j k hj isk
        exact no e he hje
      · rw [Bool.or_eq_true, decide_eq_true_eq, hE3 i]
        constructor
        · rintro (⟨e, he, hk⟩ | rfl)
          · exact ⟨e, q5.mem_iff.mpr (List.mem_cons_of_mem _ he), hk⟩
          · exact ⟨_, q5.mem_iff.mpr List.mem_cons_self, isk⟩
        · rintro ⟨e, he, hk⟩
          rcases List.mem_cons.mp (q5.mem_iff.mp he) with rfl | he
          · exact .inr ((strKind P w).inj _ i k hk isk)
          · exact .inl ⟨e, he, hk⟩
    have hL' : w.params.followText "set-order" = true ∨ f2.led = true := hL.imp id fun z => q4.trans z
    have fin' : ∀ h', Heap.SameBut a s.heap h' → SetS P w h' a (fun j => S j || decide (j = k)) f1.size → Q true { s with heap := h' } := fun h' sb r => by
      have := fin h' sb
      rw [sk] at this
      rw [hl] at r
      exact this r
    have hB' : f1.size < scanBound := by rw [hl]; exact room
    have gw : ∀ (b : Bool) {s1 : Shared} {Q' : Unit → Shared → Prop}, Q' () s1 → wpAny (model P w) A (match b with | true => rule "set.scan.the-table-gave-way" | false => pure ()) Q' E s1 := fun b s1 Q' q => by
      cases b
      · exact wpAny_pure q
      · exact wpAny_rule q
    refine wpAny_bind (gw _ ?_)
    split
    · refine wpAny_bind ?_
      rw [hashByValue_scannable 8 sck]
      refine wpAny_pure (sets_tail ?_ ho ⟨hex, hd⟩ hE' hB' ?_ ?_ ?_ ?_)
      · intro b s1 Q' q
        exact gw b q
      · first | (split <;> first | exact q2 | exact SetTable.fits_plain_off q2) | exact q2
      · first | (split <;> exact q3) | exact q3
      · first | (split <;> exact hL') | exact hL'
      · exact fun h' sb r => wpAny_pure (fin' h' sb r)
    · refine wpAny_bind (wpAny_pure ?_)
      rw [if_pos rfl]
      refine sets_tail ?_ ho ⟨hex, hd⟩ hE' hB' q2 q3 hL' ?_
      · intro b s1 Q' q
        exact gw b q
      · exact fun h' sb r => wpAny_pure (fin' h' sb r)
  · dsimp only
    obtain ⟨hj, pj, _⟩ := List.findIdx?_eq_some_iff_getElem.mp hfi
    have sk : S k = true := (hE3 k).mpr ⟨es.toList[j], List.getElem_mem hj, pj⟩
    have q := fin s.heap (Heap.SameBut.refl a s.heap) ⟨o, es, ep, t, ho, ⟨hex, hd⟩, ⟨hE1, hE2, fun i => ?_⟩, ⟨hB, hF, by rw [if_pos sk]; exact hN⟩, hR, hL⟩
    · rw [sk] at q
      exact wpAny_pure (wpAny_pure q)
    · rw [Bool.or_eq_true, decide_eq_true_eq, ← hE3 i]
      exact ⟨fun z => z.elim id fun e => by rw [e]; exact sk, .inl⟩
theorem sets_update {I : Addr} {fp wr : List Addr} {G : Array GenState → Array GenState → Prop} {m : Nat} {Pv : Nat → Value → Prop} {St : Nat → Shared → Prop} {R : Result → Shared → Prop}
    (W : WalksS P w A.in1 I fp wr G m Pv St) (a : Addr) (ha : a ∉ fp) (xs : List Str) (hm : m = xs.length) (hb : xs.length + 1 < scanBound) (hval : ∀ i v, Pv i v → ∃ k t, xs[i]? = some k ∧ v = .str k t) :
    ∀ (d i : Nat) (s : Shared), m - i = d → i ≤ m → St i s → (∃ c, c ≤ i ∧ SetS P w s.heap a (fun j => decide (j ∈ xs.take i)) c) →
      (∀ s' c, Moved (a :: wr) G s s' → c ≤ m → SetS P w s'.heap a (fun j => decide (j ∈ xs)) c → R (.ok (.ret .none)) s') → codeAny (model P w) A (.builtin "set.update.loop" ⟨[.ref a, .ref I], []⟩) R s := by
  have haw : a ∉ wr := fun z => ha (W.sub _ z)
  have more : ∀ b ∈ wr, b ∈ a :: wr := fun _ z => List.mem_cons_of_mem _ z
  intro d
  induction d with
  | zero =>
    rintro i s e1 e2 st ⟨c, hc, R0⟩ fin
    obtain rfl : i = m := by omega
    refine codeAny_builtin F.entry_set_update_loop ?_
    rw [Around.under_plainId F.plain_set_update_loop _]
    refine wpAny_bind (m := pyNext (.ref I)) (W.done s _ _ st fun s' mv => ?_)
    rw [List.take_of_length_le (by omega)] at R0
    exact wpAny_pure (fin s' c (mv.mono more) hc (R0.at fun o e => mv.heap a o haw e))
  | succ d ih =>
    rintro i s e1 e2 st ⟨c, hc, R0⟩ fin
    have lt : i < m := by omega
    refine codeAny_builtin F.entry_set_update_loop ?_
    rw [Around.under_plainId F.plain_set_update_loop _]
    refine wpAny_bind (m := pyNext (.ref I)) (W.item i s _ _ lt st fun v s' hP st' mv => ?_)
    obtain ⟨z, t, hz, rfl⟩ := hval i v hP
    have R1 := R0.at fun o e => mv.heap a o haw e
    refine wpAny_bind (m := holding [Value.str z t] (setAdd a (.str z t))) (wpAny_holding ?_)
    unfold setAdd
    refine wpAny_holding (wpAny_bind ((strKind P w).pyHash (k := z) (strKind_is P w z t) ?_))
    refine sets_add (s := { s' with toks := s'.toks + 1 }) R1 (by omega) fun g sb R2 => ?_
    have R3 : SetS P w g a (fun j => decide (j ∈ xs.take (i + 1))) (if decide (z ∈ xs.take i) = true then c else c + 1) := R2.as fun j => by
      rw [List.take_add_one, hz]
      simp [List.mem_append]
    have c3 : (if decide (z ∈ xs.take i) = true then c else c + 1) ≤ i + 1 := by split <;> omega
    have keep : ∀ b o, b ≠ a → s'.heap.get? b = some o → g.get? b = some o := fun b o hb e => by rw [sb.2 b hb]; exact e
    refine wpAny_pure ⟨plainId_quiet F.plain_set_update_loop _, ih (i + 1) _ (by omega) lt (W.frame _ s' _ _ st' (Nat.le_succ _) fun b hb o e => keep b o (fun z => ha (z ▸ hb)) e) ⟨_, c3, R3⟩ fun s2 c2 mv2 hc2 R4 => ?_⟩
    exact fin s2 c2 (Moved.trans W.gtrans ((mv.mono more).then_heap (Nat.le_succ _) fun b o hb e => keep b o (fun z => hb (z ▸ List.mem_cons_self)) e) mv2) hc2 R4
set_option maxHeartbeats 8000000 in
theorem set_of_strs {l : Addr} {its : Array Value} (xs : List Str) {Q : Value → Shared → Prop} (hh : A.handled = none) (hl : s.heap.IsList l its) (hi : StrsAre its.toList xs) (hb : xs.length + 1 < scanBound)
    (h : ∀ (g : Heap) (tk c : Nat), c ≤ xs.length → SetS P w g s.heap.objs.size (fun j => decide (j ∈ xs)) c → (∀ b o, s.heap.get? b = some o → g.get? b = some o) → Q (.ref s.heap.objs.size) { s with heap := g, toks := tk }) :
    wpAny (model P w) A (call (.type "set") [.ref l]) Q E s := by
  have hn : its.size = xs.length := by rw [← Array.length_toList]; exact StrsAre.length hi
  obtain ⟨mc, mt, mro⟩ := F.called_set.mro
  have mk1 := F.called_set.made
  have mk2 := F.called_set.sub
  refine wpAny_call (codeAny_of_tree (show wpAny _ _ (callAny (.type "set") _) _ _ _ from wpAny_pure ⟨Code.quiet_builtin _ (by decide +kernel), codeAny_builtin F.entry_type_call ?_⟩))
  rw [Around.under_plain (weight_type_call_type "set" [.ref l] []) rfl]
  have mk3 := F.called_set.notType
  have mk4 := F.called_set.canCreate
  have mk5 := F.typeCall_set_1 (.ref l)
  repeat (any_goals (first | assumption | wp_step))
  refine codeAny_mono (code_set_led1 (w := w) (s := s) (.ref l) (E := E)
    (Q₁ := fun obj s₁ => obj = .ref s.heap.objs.size ∧ s₁ = { s with heap := hset w s.heap }) ⟨rfl, rfl⟩) fun r s₁ hr => ?_
  match r, hr with
  | .error e, hr => exact hr
  | .ok (.ret obj), hr =>
    obtain ⟨rfl, rfl⟩ := hr
    have here : (hset w s.heap).get? s.heap.objs.size = some (eset w) := Heap.get?_push_size _ rfl
    have isS : Shared.TypeIs { s with heap := hset w s.heap } (.ref s.heap.objs.size) "set" := ⟨_, here, rfl⟩
    have in1 := F.called_set.init.lookup
    have in2 := F.called_set.init.bind (.ref s.heap.objs.size)
    repeat (any_goals (first | assumption | wp_step))
    have goes : codeAny (model P w) A.in1 (.call (.builtin "set.__init__") ⟨[.ref s.heap.objs.size, .ref l], []⟩) (wants (fun r s₂ => r = .none ∧ ∃ g tk c,
        s₂ = { s with heap := g, toks := tk } ∧ c ≤ xs.length ∧ SetS P w g s.heap.objs.size (fun j => decide (j ∈ xs)) c ∧ ∀ b o, s.heap.get? b = some o → g.get? b = some o) E) { s with heap := hset w s.heap } := by
      refine codeAny_call_builtin F.called_set.init.plain F.entry_set_init (check_set_init_1 isS ?_)
      obtain ⟨⟨oc, od, dt, sl⟩, hol, hcl, nl, hdl⟩ := id hl
      simp only at hcl hdl
      subst hcl hdl
      have lt := Heap.lt_size hol
      have hol2 : (hset w s.heap).get? l = some _ := Heap.get?_push_of_some _ hol
      have hl2 : (hset w s.heap).IsList l its := ⟨_, hol2, rfl, nl, rfl⟩
      have no1 := F.sub_list_set
      have no2 := F.sub_list_frozenset
      have no3 : (Value.type "list" == Value.type "dict") = false := by decide
      unfold Builtin.«set.__init__» noKeywords Builtin.Frozenset.updateFrom
      generalize hPI : pyIter = PI
      wp_walk
      subst hPI
      refine wpAny_pyIter_list hl2 (wpAny_bind (wpAny_runValue ?_))
      have sz2 : (hset w s.heap).objs.size = s.heap.objs.size + 1 := Heap.size_push ..
      have neI : l ≠ (hset w s.heap).objs.size := by
        rw [sz2]
        exact Nat.ne_of_lt (Nat.lt_succ_of_lt lt)
      have notIn : s.heap.objs.size ∉ [(hset w s.heap).objs.size, l] := by
        rw [sz2]
        intro z
        rcases List.mem_cons.mp z with z | z
        · exact Nat.ne_of_lt (Nat.lt_succ_self _) z
        · exact Nat.ne_of_gt lt (List.mem_singleton.mp z)
      have val : ∀ (i : Nat) (v : Value), its[i]? = some v → ∃ k t, xs[i]? = some k ∧ v = .str k t := fun i v hv => by
        obtain ⟨y, t, e1, e2⟩ := StrsAre.item hi i v (by rw [Array.getElem?_toList]; exact hv)
        exact ⟨y, t, e2, e1⟩
      have hh3 : A.in1.in1.in1.handled = none := by simp [hh]
      refine sets_update ((Walks.list hh3 _ l neI its).toS) s.heap.objs.size notIn xs hn hb val (its.size - 0) 0 _ (by omega) (Nat.zero_le _) ?st ?s0 ?fin
      case st => exact ⟨⟨_, Heap.get?_push_size _ rfl, rfl, rfl⟩, hl2.push _⟩
      case s0 => exact ⟨0, Nat.le_refl 0, .new (Heap.get?_push_of_some _ here)⟩
      case fin =>
        rintro ⟨g, gg, dd, tk, oo⟩ c' mv hc' hS'
        have e1 : gg = s.gens := mv.gens
        have e2 : dd = s.drawn := mv.drawn
        have e3 : oo = s.os := mv.os
        subst e1 e2 e3
        refine wpAny_pure (show wpAny _ _ (ret Value.none) _ _ _ from wpAny_pure ⟨rfl, g, tk, c', rfl, by omega, hS', fun b o e => ?_⟩)
        have b0 := Heap.lt_size e
        refine mv.heap b o (fun z => ?_) (Heap.get?_push_of_some _ (Heap.get?_push_of_some _ e))
        rcases List.mem_cons.mp z with z | z
        · exact Nat.ne_of_lt b0 z
        · have z2 := List.mem_singleton.mp z
          rw [sz2] at z2
          exact Nat.ne_of_lt (Nat.lt_succ_of_lt b0) z2
    refine codeAny_mono goes fun r₂ s₂ hr₂ => ?_
    match r₂, hr₂ with
    | .error e, hr₂ => exact hr₂
    | .ok (.ret r), hr₂ =>
      obtain ⟨rfl, g, tk, c', rfl, hc', hS', hk'⟩ := hr₂
      repeat (any_goals (first | assumption | wp_step))
      exact h _ _ _ hc' hS' hk'
end
end Fm
/-! own errors whose __init__ hands its argument on to the class above and keeps it in a field -/
namespace Fm
open PySem PySem.W PySem.Calls PyProof.Rows PySem.HandSPX
/-! the text of such an __init__ -/
abbrev xA (f : Str) (p1 p2 : Pos) : Arguments :=
  { posonlyargs := [], args := [{ arg := "self", annotation := none, pos := p1 }, { arg := f, annotation := none, pos := p2 }],
    vararg := none, kwonlyargs := [], kw_defaults := [], kwarg := none, defaults := [] }
abbrev xCall (f : Str) (q1 q2 q3 q4 q5 : Pos) : Expr := .Call (.Attribute (.Call (.Name "super" q1) [] [] q2) "__init__" q3) [.Name f q4] [] q5
abbrev xB (f : Str) (q1 q2 q3 q4 q5 q6 q7 q8 q9 q10 : Pos) : List Stmt :=
  [.Expr (xCall f q1 q2 q3 q4 q5) q6, .Assign [.Attribute (.Name "self" q7) f q8] (.Name f q9) q10]
abbrev xS (f : Str) : Scope :=
  { kind := .function, names := [(PySem.Str.ofString "self", .local), (f, .local), (PySem.Str.ofString "__class__", .free), (PySem.Str.ofString "super", .globalImplicit)],
    isGenerator := false, isCoroutine := false, more := [] }
/-- what the written part says of such a class, by name x with field f, at C -/
structure ExT (P : Program) (K : Frag) (mg : Str → Option Value) (x f : Str) (C : Addr) : Prop where
  gC : mg x = some (.ref C)
  cls : ∃ nm q N bs bm sn sub ab col dd k0 k1 k2 k3 k5, K.lookup C = some (excClassObj nm q C N bs bm true sn sub ab col dd k0 k1 k2 k3 k5 "ValueError.__new__") ∧ refsVE bm = true
  sa : findIn K (.ref C) "__setattr__" = some (some (.builtin "object.__setattr__"))
  no : findIn K (.ref C) f = some none
  kC : keepIn K (.ref C) = true
  exC : subIn K (.ref C) (.type "BaseException") = some true
  veC : subIn K (.ref C) (.type "ValueError") = some true
  tyC : typeIn K (.ref C) = some (.type "type")
  hdC : hasDictIn K C = true
  up : ks_superIn K C C "__init__" = some (some (.builtin "ValueError.__init__"))
  opq : nsIn K cStatics "thirdparty.any" = some none
  self : mroIn K C (.ref C) = some true
  fn : ∃ (fI cda cc : Addr) (oc : Value) (od : Option Addr) (kV doc pm : Value) (an : Option Addr) (ct : Value) (osl : Array (Option Value)) (p1 p2 q1 q2 q3 q4 q5 q6 q7 q8 q9 q10 : Pos) (ql : Str),
    findIn K (.ref C) "__init__" = some (some (.ref fI)) ∧ typeIn K (.ref fI) = some (.type "function") ∧
    K.lookup fI = some ⟨oc, od, .func (ksFn "__init__" ql (xA f p1 p2) (xB f q1 q2 q3 q4 q5 q6 q7 q8 q9 q10) (xS f) .none kV doc pm an (.ref cda) ct cc), osl⟩ ∧ codeIn K (.ref cda) ql = true ∧
    (∃ cl cld csl, K.lookup cc = some ⟨cl, cld, .cell (some (.ref C)), csl⟩) ∧
    ∃ ccl cdd vs ccs file tf, K.lookup cda = some ⟨ccl, cdd, .fields vs, ccs⟩ ∧ vs[2]? = some (.str file tf) ∧ ((P.main.file : Str) == file) = true ∧
    (∀ e v, bindArgs (ksFn "__init__" ql (xA f p1 p2) (xB f q1 q2 q3 q4 q5 q6 q7 q8 q9 q10) (xS f) .none kV doc pm an (.ref cda) ct cc) ⟨[.ref e, v], []⟩ = pure [((PySem.Str.ofString "self" : Str), .ref e), (f, v)]) ∧
    ∀ L : Addr, ∃ pl, eval (xCall f q1 q2 q3 q4 q5) (ksEnv ql (xS f) L fI (.ref cda) cc) = (do
      let ov ← attributeBase (.Call (.Name "super" q1) [] [] q2) "__init__" (ksEnv ql (xS f) L fI (.ref cda) cc) (eval (.Call (.Name "super" q1) [] [] q2) (ksEnv ql (xS f) L fI (.ref cda) cc))
      standAt q3.atName
      let (g, first) ← holding [ov] (getMethod ov "__init__" pl)
      callWith q5 g first (backTo q5 (starEach [.Name f q4] (ksEnv ql (xS f) L fI (.ref cda) cc))) [])
  top : (P.main.scope.names.lookup ("super" : Str)).isSome = false
  sup : mg "super" = none
  f1 : (("self" : Str) == f) = false
  f2 : (f == ("self" : Str)) = false
  f3 : (f == ("__debug__" : Str)) = false
  f4 : (("super" : Str) == f) = false
  f5 : (("__class__" : Str) == f) = false
/-- what such an __init__ leaves -/
structure XEnd (h h' : Heap) (x C dx : Addr) (f : Str) (v : Value) : Prop where
  keep : ∀ b o, b ≠ x → h.get? b = some o → h'.get? b = some o
  obj : ∃ t1 : Addr, h'.get? x = some { cls := .ref C, dict := some dx, data := .fields #[.ref t1, .none, .none, .none, .bool false, .none] }
  dbig : h.objs.size ≤ dx
  dne : dx ≠ x
  ns : h'.Ns1 dx (fun y => if y = f then some v else none)
section
variable {P : Program} {w : PySem.World} {A : Around} {E : Value → Shared → Prop} {R : Result → Shared → Prop} {s : Shared} {K : Frag} {mg : Str → Option Value} {C : Addr} {x f : Str}
theorem look_f (T1 : (("self" : Str) == f) = false) (v u : Value) : ([((PySem.Str.ofString "self" : Str), u), (f, v)].reverse.lookup f) = some v := by
  simp [List.lookup]
theorem look_self (T2 : (f == ("self" : Str)) = false) (T1 : (("self" : Str) == f) = false) (v u : Value) : ([((PySem.Str.ofString "self" : Str), u), (f, v)].reverse.lookup (PySem.Str.ofString "self")) = some u := by
  simp only [List.reverse_cons, List.reverse_nil, List.nil_append, List.singleton_append, List.lookup_cons]
  rw [show ((PySem.Str.ofString "self" : Str) == f) = false from T1]
  simp
theorem xs_f (T2 : (f == ("self" : Str)) = false) : (xS f).names.lookup f = some .local := by
  simp only [xS, List.lookup_cons]
  rw [show (f == (PySem.Str.ofString "self" : Str)) = false from T2]
  simp
theorem xs_self : (xS f).names.lookup (PySem.Str.ofString "self") = some .local := by
  simp only [xS, List.lookup_cons]
  simp
theorem xs_super (h : (("super" : Str) == f) = false) : (xS f).names.lookup ("super" : Str) = some .globalImplicit := by
  simp only [xS, List.lookup_cons, h]
  rw [show ((PySem.Str.ofString "super" : Str) == PySem.Str.ofString "self") = false by decide +kernel, show ((PySem.Str.ofString "super" : Str) == PySem.Str.ofString "__class__") = false by decide +kernel]
  simp
theorem xs_class (h : (("__class__" : Str) == f) = false) : (xS f).names.lookup ("__class__" : Str) = some .free := by
  simp only [xS, List.lookup_cons, h]
  rw [show ((PySem.Str.ofString "__class__" : Str) == PySem.Str.ofString "self") = false by decide +kernel]
  simp
/-- ValueError.__init__, bound to an error, is called -/
theorem vx_call {hp : Heap} {g : Array GenState} {d : Drawn} {t : Nat} {os : OsState} {u e t0 : Addr} {rest : List Value} {Q : Value → Shared → Prop} {nm q : Str} {N : Addr} {bs bm : List Value} {hdct : Bool} {sn : List Str} {sub : List Value} {ab : Bool} {col : Option Bool} {dd : Option Addr} {k0 k1 k2 k3 k5 : Option Value}
    (hC : hp.get? C = some (excClassObj nm q C N bs bm hdct sn sub ab col dd k0 k1 k2 k3 k5 "ValueError.__new__")) (he : hp.get? e = some (excO C t0)) (hu : hp.get? u = some (kxs_mw "ValueError.__init__" e)) (hz : rest.length ≤ sizeLine)
    (fin : ∀ h', (∀ b o, b ≠ e → hp.get? b = some o → h'.get? b = some o) → h'.get? e = some (excO C hp.objs.size) → Q .none ⟨h', g, d, t, os⟩) :
    wpAny (model P w) A (call (.ref u) rest) Q E ⟨hp, g, d, t, os⟩ := by
  refine wpAny_call (codeAny_of_tree ?_)
  show wpAny (model P w) A.in1 (callAny (.ref u) ⟨rest, []⟩) _ _ _
  simp only [callAny]
  refine wpAny_bind (wpAny_load hu ?_)
  simp only [kxs_mw]
  refine KFB.if_so (by decide) ?_
  refine wpAny_bind (check_bound_init PySem.F.excBase_ValueError.toExcCallFacts hC he rfl ?_)
  refine wpAny_bind (wpAny_pure (wpAny_pure ?_))
  refine ⟨plainId_quiet PySem.F.excBase_ValueError.init.plain _, codeAny_builtin PySem.F.excBase_ValueError.initEntry ?_⟩
  exact exc_init_tree (cls := .ref C) (t0 := t0) (dv := none) (c2 := .none) (c3 := .none) (b4 := .bool false) he hz fun h' k e' _ => fin h' k e'
theorem vx_init (T : ExT P K mg x f C) {e t0 fI : Addr} {v : Value} (X : K.In s.heap) (hG : s.heap.Ns mainGlobals mg) (hB : ∃ mb, s.heap.Ns builtinsNs mb ∧ ∀ y : Str, y ≠ "__name__" → mb y = bootBuiltins y) (hlim : s.heap.NoLimit)
    (hx : s.heap.get? e = some (excO C t0)) (hnx : K.lookup e = none) (hroom : A.depth < recursionLimit) (hI : findIn K (.ref C) "__init__" = some (some (.ref fI)))
    (hq : ∀ h' tk dx, XEnd s.heap h' e C dx f v → R (.ok (.ret .none)) { s with heap := h', toks := tk }) :
    codeAny (model P w) A (.call (.ref fI) ⟨[.ref e, v], []⟩) R s := by
  obtain ⟨fI', cda, cc, oc, od, kV, doc, pm, an, ct, osl, p1, p2, q1, q2, q3, q4, q5, q6, q7, q8, q9, q10, ql, hi, tI, ho, hcd, ⟨cl, cld, csl, hcell⟩, ccl, cdd, vs, ccs, file, tf, hcode, hvs, hfile, hbind, hev⟩ := T.fn
  obtain rfl : fI = fI' := by
    rw [hi] at hI
    cases hI
    rfl
  obtain ⟨nm, q, N, bs, bm, sn, sub, ab, col, dd, k0, k1, k2, k3, k5, hC, hbm⟩ := T.cls
  have hcl : clsIn K C = some { name := nm, bases := bs, mro := .ref C :: bm, ns := N, qualname := q, hasDict := true, slotNames := sn, subclasses := sub, abstract := ab, collection := col, hasDel := false } := by
    unfold clsIn
    rw [hC] <;> rfl
  obtain ⟨mb, hmb, hbt⟩ := hB
  have hxC : e ≠ C := fun z => by
    rw [z, hC] at hnx
    cases hnx
  have hkf : (ksEnv ql (xS f) s.heap.objs.size fI (.ref cda) cc).kindOf f = some .local := xs_f T.f2
  refine ks_codeAny_call_defAt (binds := [("self", .ref e), (f, v)]) hroom (X _ _ ho) rfl hlim (codeRec_of X hcd) rfl (BindsTo.of_eq (hbind _ _)) ?_ ?_ (fun h₁ hn hk₁ => ?_)
  · intro y hy
    simp only [xS, List.mem_cons, List.not_mem_nil, or_false] at hy
    rcases hy with rfl | rfl | rfl | rfl <;> exact fun z => nomatch z
  · intro y hy
    simp only [List.mem_cons, List.not_mem_nil, or_false] at hy
    rcases hy with rfl | rfl
    · rfl
    · exact xs_f T.f2
  · have X₁ : K.In h₁ := X.keeps hk₁
    have hx₁ := hk₁ _ _ hx
    have I₁ : InstAt h₁ e (excO C t0) C none := ⟨hx₁, rfl, rfl, trivial⟩
    obtain ⟨hp, g, dr, tk, os⟩ := s
    obtain ⟨pl, hev⟩ := hev hp.objs.size
    refine ks_wpAt_execs_cons (ks_wpAt_Expr_any (ks_wpAt_MethodCall (he := hev) ?_))
    refine ks_wpAt_super_base (env := ksEnv ql (xS f) hp.objs.size fI (.ref cda) cc) (ar := { arg := "self", annotation := none, pos := p1 }) ?_ ?_ (by decide) rfl (X₁ _ _ ho) rfl rfl rfl (X₁ _ _ hcode) rfl hvs hfile T.top ?_
    · exact xs_super T.f4
    · exact xs_class T.f5
    · refine ks_loadName_global rfl (xs_super T.f4) (loadGlobal_builtin (env := ksEnv ql (xS f) hp.objs.size fI (.ref cda) cc) (hG.keeps hk₁) T.sup (hmb.keeps hk₁) ((hbt _ (by decide +kernel)).trans (show bootBuiltins "super" = some (.type "super") by decide +kernel)) ⟨rfl, ?_⟩)
      refine wpAny_loadName_free rfl (xs_class T.f5) rfl ⟨_, X₁ _ _ hcell, rfl⟩ ?_
      refine wpAny_loadName_local rfl xs_self hn (look_self T.f2 T.f1 v (.ref e)) ?_
      refine ks_wpAny_isType_cls (X₁ _ _ hC) rfl ⟨rfl, ?_⟩
      refine ks_wpAny_call_super (X₁ _ _ hC) rfl hx₁ rfl (fun c z => nomatch z) (looks_mroIn X₁ T.self) (fun h₂ hso hk₂ => ?_)
      have X₂ : K.In h₂ := X₁.keeps hk₂
      have hx₂ := hk₂ _ _ hx₁
      have I₂ : InstAt h₂ e (excO C t0) C none := ⟨hx₂, rfl, rfl, trivial⟩
      refine kxs_getMethod kxs_ValueError hso (looks_opaque X₂ T.opq) (l₀ := .ref C :: bm) (fun A Q E s k q => wpAny_bind ((looks_clsIn X₂ hcl) A _ E s k (wpAny_pure q))) rfl X₂ (by have := T.up; unfold ks_superIn at this; rw [hcl] at this; exact this) (I₂.type.andThen (looks_subIn X₂ T.veC)) hxC (by decide) ?_
      have k₃ : ∀ b o, h₂.get? b = some o → (h₂.push (kxs_mw "ValueError.__init__" e)).get? b = some o := fun b o z => Heap.get?_push_of_some _ z
      have hu : (h₂.push (kxs_mw "ValueError.__init__" e)).get? h₂.objs.size = some (kxs_mw "ValueError.__init__" e) := Heap.get?_push_at rfl rfl
      have k03 : ∀ b o, hp.get? b = some o → (h₂.push (kxs_mw "ValueError.__init__" e)).get? b = some o := fun b o z => k₃ _ _ (hk₂ _ _ (hk₁ _ _ z))
      have n03 : (h₂.push (kxs_mw "ValueError.__init__" e)).Ns hp.objs.size (fun y => [((PySem.Str.ofString "self" : Str), Value.ref e), (f, v)].reverse.lookup y) := (hn.keeps hk₂).keeps k₃
      have z03 : h₂.objs.size < (h₂.push (kxs_mw "ValueError.__init__" e)).objs.size := by
        rw [Heap.size_push]
        exact Nat.lt_succ_self _
      generalize h₂.push (kxs_mw "ValueError.__init__" e) = h₃ at hu k03 n03 z03 ⊢
      refine kxs_callWith (i := "ValueError.__init__") (x := e) (by rfl) (evalArgs_plain ?_)
      refine Calls.spliced_cons (wpAny_Name (env := ksEnv ql (xS f) hp.objs.size fI (.ref cda) cc) (wpAny_loadName_local rfl hkf n03 (look_f T.f1 v (.ref e)) (Calls.spliced_nil ⟨hu, ?_⟩)) T.f3)
      refine vx_call (k03 _ _ (X _ _ hC)) (k03 _ _ hx) hu (by show 1 ≤ sizeLine; decide) fun h₄ k₄ hx₄ => ?_
      have k04 : ∀ b o, b ≠ e → hp.get? b = some o → h₄.get? b = some o := fun b o hb z => k₄ _ _ hb (k03 _ _ z)
      have X₄ : K.In h₄ := fun b o z => k04 b o (fun y => by rw [y, hnx] at z; cases z) (X _ _ z)
      have hLe : hp.objs.size ≠ e := Nat.ne_of_gt (Heap.lt_size hx)
      have n04 : h₄.Ns hp.objs.size (fun y => [((PySem.Str.ofString "self" : Str), Value.ref e), (f, v)].reverse.lookup y) := n03.at fun o z => k₄ _ _ hLe z
      show PySem.wpAt _ _ _ (execs _ _) _ _ _
      refine wpAt_of_wpAny (wpAny_execs_cons (plainObj_wpAny_Assign_Attribute (env := ksEnv ql (xS f) hp.objs.size fI (.ref cda) cc) ?_))
      refine wpAny_Name (env := ksEnv ql (xS f) hp.objs.size fI (.ref cda) cc) (wpAny_loadName_local rfl hkf n04 (look_f T.f1 v (.ref e)) ?_) T.f3
      refine wpAny_Name (env := ksEnv ql (xS f) hp.objs.size fI (.ref cda) cc) (wpAny_loadName_local rfl xs_self n04 (look_self T.f2 T.f1 v (.ref e)) ?_) (by decide)
      refine set_plain X₄ (ox := excO C h₃.objs.size) (od := none) ⟨hx₄, rfl, rfl, trivial⟩ T.sa ?_
      refine exc_osa X₄ hx₄ hcl (show refsVE (.ref C :: bm) = true from hbm) rfl T.no (fun h₅ tk₅ dx k₅ dn dne hx₅ hn₅ => ?_)
      have z4 : hp.objs.size < h₄.objs.size := n04.lt
      exact wpAny_execs_nil (hq h₅ tk₅ dx ⟨fun b o hb z => k₅ b o hb (k04 b o hb z), ⟨_, hx₅⟩, Nat.le_of_lt (Nat.lt_of_lt_of_le z4 dn), dne, hn₅⟩)
/-- such an error, made -/
structure XMade (h h' : Heap) (e C d : Addr) (f : Str) (v : Value) : Prop where
  keep : ∀ b o, h.get? b = some o → h'.get? b = some o
  new : h.objs.size ≤ e
  obj : ∃ t1 : Addr, h'.get? e = some { cls := .ref C, dict := some d, data := .fields #[.ref t1, .none, .none, .none, .bool false, .none] }
  dbig : h.objs.size ≤ d
  dne : d ≠ e
  ns : h'.Ns1 d (fun y => if y = f then some v else none)
theorem vx_made (T : ExT P K mg x f C) {v : Value} (X : K.In s.heap) (hG : s.heap.Ns mainGlobals mg) (hB : ∃ mb, s.heap.Ns builtinsNs mb ∧ ∀ y : Str, y ≠ "__name__" → mb y = bootBuiltins y) (hlim : s.heap.NoLimit)
    (hroom : A.depth + 1 < recursionLimit) (hq : ∀ h' tk e d, XMade s.heap h' e C d f v → R (.ok (.ret (.ref e))) { s with heap := h', toks := tk }) :
    codeAny (model P w) A (.call (.ref C) ⟨[v], []⟩) R s := by
  obtain ⟨nm, q, N, bs, bm, sn, sub, ab, col, dd, k0, k1, k2, k3, k5, hC, hbm⟩ := T.cls
  obtain ⟨fI, _, _, _, _, _, _, _, _, _, _, _, _, _, _, _, _, _, _, _, _, _, _, _, hi, tI, _⟩ := T.fn
  obtain ⟨hp, g, dr, tk, os⟩ := s
  have k : ∀ b o, hp.get? b = some o → ((hp.push (kdv_tup [v])).push (excO C hp.objs.size)).get? b = some o := fun b o z => Heap.get?_push_of_some _ (Heap.get?_push_of_some _ z)
  have hget : ((hp.push (kdv_tup [v])).push (excO C hp.objs.size)).get? (hp.objs.size + 1) = some (excO C hp.objs.size) := by heap_get
  have hnx : K.lookup (hp.objs.size + 1) = none := by
    cases z : K.lookup (hp.objs.size + 1) with
    | none => rfl
    | some o => exact absurd (Nat.lt_of_succ_lt (Heap.lt_size (show hp.get? (hp.objs.size + 1) = some o from X _ _ z))) (Nat.lt_irrefl _)
  obtain ⟨mb, hmb, hbt⟩ := hB
  refine call_own PySem.F.excBase_ValueError (fun X => refsVE_contains X bm hbm) (X _ _ hC) (looks_findIn X hi) (fun self => bind_fn X self tI) (by show 1 ≤ sizeLine; decide) ?_
  refine vx_init (s := ⟨(hp.push (kdv_tup [v])).push (excO C hp.objs.size), g, dr, tk, os⟩) T (X.keeps k) (hG.keeps k) ⟨mb, hmb.keeps k, hbt⟩ (hlim.keeps k) hget hnx hroom hi fun h' tk' dx M => ⟨rfl, ?_⟩
  have z : hp.objs.size + 1 + 1 ≤ dx := by
    have q := M.dbig
    simpa only [Heap.size_push] using q
  exact hq h' tk' (hp.objs.size + 1) dx ⟨fun b o y => M.keep b o (Nat.ne_of_lt (Nat.lt_succ_of_lt (Heap.lt_size y))) (k b o y), Nat.le_succ _, M.obj, (by show hp.objs.size ≤ dx; omega), M.dne, M.ns⟩
end
end Fm
/-! the rule for making and raising it -/
namespace Fm
open PySem PySem.Spec PyProof.Rows L2
theorem relO_one {v : V} {u : Value} (r : RelV v u) (f g : Str) : RelO (List.lookup g [(f, v)]) (if g = f then some u else none) := by
  by_cases hw : g = f
  · subst hw
    rw [if_pos rfl]
    rw [show List.lookup g [(g, v)] = some v by simp [List.lookup]]
    exact r
  · rw [if_neg hw]
    have q : (g == f) = false := by simpa using hw
    rw [show List.lookup g [(f, v)] = none by simp [List.lookup, q]]
    trivial
section
variable {X : Cx} {C : Addr} {x f : Str}
def tMkX (C : Addr) (f : Str) (ta : TA) : L2.St → Hp → XK → Prop := fun σ H Q => ta σ H fun vs H1 => ∃ v, vs = [v] ∧ ∀ d, H1 d = none → Q (.ref C) (some d) (upd H1 d (.xd [(f, v)]))
theorem pmk_x {a : Expr} {ta : TA} {p pos : Pos} {k : Nat} (T : ExT X.prog X.K X.mg x f C) (hr : Room k X.A) (ha : PA X [a] ta) (hg : Gl X x := by rfl) (hdb : (x == ("__debug__" : Str)) = false := by decide)
    (he : starEach (a :: []) X.env = (false, eval a X.env) :: starEach [] X.env := by rfl) (hpl : (backTo pos (starEach [] X.env)).any (·.1) = false := by rfl) :
    PMk X (.Call (.Name x p) [a] [] pos) (tMkX C f ta) := by
  intro pins s σ H Q I h
  refine wpAny_Call_Name_kw (ld_glob I hg T.gC ?_ hdb)
  refine PySem.W.callWith_K (h₀ := X.base) I.ok.mod.kin T.kC (thn (ha.run pos pins s σ H _ I h) fun us s1 hh => ?_) he hpl
  obtain ⟨vs, H1, I1, r1, v, rfl, q1⟩ := hh
  refine ⟨I1.kIn, ?_⟩
  obtain ⟨v', rfl, rv⟩ := r1.one
  have keepB : ∀ b o, X.base.get? b = some o → s1.heap.get? b = some o := fun b o z => (I1.env0.bs b o z).1
  have hG := I1.env0.mod.glob.keeps keepB
  obtain ⟨mb, hmb, hbt⟩ := I1.env0.mod.blt
  show wpAny _ _ (call (.ref C) [v']) _ _ _
  have hlim := I1.nolimit
  have hmb' := hmb.keeps keepB
  obtain ⟨hp, g, dr, tk, os⟩ := s1
  refine wpAny_call (vx_made T I1.kIn hG ⟨mb, hmb', hbt⟩ hlim (by have := hr.dp; omega) fun h' tk' e d M => ?_)
  show MkP X pins σ Q (.ref e) ⟨h', g, dr, tk', os⟩
  obtain ⟨t1, hoe⟩ := M.obj
  have hns := M.ns
  obtain ⟨G', g1, g2⟩ := restrict h' fun b => decide (b ≠ e)
  have gk : ∀ b, b ≠ e → G'.get? b = h'.get? b := fun b hb => g1 b (decide_eq_true hb)
  have ge : G'.get? e = none := g2 e (by simp)
  have old : ∀ b o, hp.get? b = some o → G'.get? b = some o := fun b o q => (gk b (Nat.ne_of_lt (Nat.lt_of_lt_of_le (Heap.lt_size q) M.new))).trans (M.keep b o q)
  have ob : ObjOk X.prog X.w (upd H1 d (.xd [(f, v)])) G' d (.xd [(f, v)]) := ⟨_, hns.at (fun o q => (gk d M.dne).trans q), fun y => relO_one rv f y⟩
  have J : Inv X pins σ (upd H1 d (.xd [(f, v)])) ⟨G', g, dr, tk', os⟩ := I1.laid (t' := tk') old M.dbig ob
  refine ⟨e, _, _, ⟨G', g, dr, tk', os⟩, _, .ref C, some d, rfl, J, fun b o q => ?_, ge, hoe, ⟨rfl, rfl⟩, rfl, rfl, ?_, rfl, I1.bare, raises_own T.exC T.tyC, q1 d (I1.hok.fresh M.dbig)⟩
  · by_cases hb : b = e
    · have q' : G'.get? b = some o := q
      rw [hb, ge] at q'
      cases q'
    · exact (gk b hb).symm.trans q
  · rw [upd_ne (Ne.symm M.dne)]
    exact I1.hok.fresh M.new
end
end Fm
/-! sorted(set(xs)) of texts; sum(lists, []); raise X() -/
namespace Fm
open PySem PySem.Spec PyProof.Rows L2
/-- the text of a value -/
def txtOf : Value → Str
  | .str k _ => k
  | _ => Str.empty
theorem strs_txt : ∀ vs : List Value, (∀ v ∈ vs, ∃ k t, v = .str k t) → StrsAre vs (vs.map txtOf)
  | [], _ => .nil
  | v :: vs, h => by
    obtain ⟨k, t, rfl⟩ := h v List.mem_cons_self
    exact .cons k t (strs_txt vs fun u hu => h u (List.mem_cons_of_mem _ hu))
theorem isStr_shape {P : Program} {w : World} {k : Str} {v : Value} (h : (PySem.strKind P w).is k v = true) : ∃ t, v = .str k t := Value.isStrOf_shape h
section
variable {P : Program} {w : World} {A : Around} {E : Value → Shared → Prop} {s : Shared} {a : Addr} {S : Str → Bool} {n : Nat}
theorem sorted_sets {Q : Value → Shared → Prop} (R : SetS P w s.heap a S n) (hh : A.handled = none) (h64 : n < 64)
    (fin : ∀ s' p (out : Array Value) (c : Nat) (xs : List Str), (∀ b o, s.heap.get? b = some o → s'.heap.get? b = some o) → s'.gens = s.gens ∧ s'.os = s.os → s.heap.objs.size ≤ p → s'.heap.get? p = some (seqObj "list" out c) → StrsAre out.toList xs →
      sortedS xs = true → xs.Nodup → (∀ k, k ∈ xs ↔ S k = true) → xs.length = n → Q (.ref p) s') : wpAny (model P w) A (call (.builtin "sorted") [.ref a]) Q E s := by
  obtain ⟨o, es, ep, t, ho, ⟨hex, hd⟩, ⟨hE1, hE2, hE3⟩, ⟨hB, hF, hN⟩, hR, hL⟩ := R
  refine Calls.call_function_entry kind_sorted plain_sorted entry_sorted (args_sorted1 _) ?_
  unfold Builtin.«sorted»
  refine wpAny_bind (m := checkCount "sorted" 1 1 _) (wpAny_pure (wpAny_bind (collect_set (A := A.in1) hh ⟨o, ho, hex.1, hd⟩ hF hB hR hL fun s1 vs k1 z1 g1 o1 pm => ?_)))
  have hvl : vs.length = n := by rw [pm.length_eq, List.length_map, Array.length_toList, hN]
  have shape : ∀ e ∈ es.toList, ∃ k t, e.2 = Value.str k t ∧ (PySem.strKind P w).is k e.2 = true := fun e he => by
    obtain ⟨⟨k, hk, _⟩, _⟩ := hE1 e he
    obtain ⟨t, ht⟩ := isStr_shape hk
    exact ⟨k, t, ht, hk⟩
  have hI : StrsAre vs (vs.map txtOf) := strs_txt vs fun v hv => by
    obtain ⟨e, he, rfl⟩ := List.mem_map.mp (pm.mem_iff.mp hv)
    obtain ⟨k, t, ht, _⟩ := shape e he
    exact ⟨k, t, ht⟩
  have pk : (vs.map txtOf).Perm (es.toList.map fun e => txtOf e.2) := by
    have q := pm.map txtOf
    rwa [List.map_map] at q
  have nd : (es.toList.map fun e => txtOf e.2).Nodup := by
    refine List.pairwise_map.mpr (List.Pairwise.imp_of_mem ?_ hE2)
    intro e f he hf hap q
    obtain ⟨k, t, ht, hk⟩ := shape e he
    obtain ⟨k2, t2, ht2, hk2⟩ := shape f hf
    rw [ht, ht2] at q
    have q' : k = k2 := q
    subst q'
    exact hap k hk hk2
  have mem : ∀ k, k ∈ (es.toList.map fun e => txtOf e.2) ↔ S k = true := fun k => by
    rw [hE3 k, List.mem_map]
    constructor
    · rintro ⟨e, he, rfl⟩
      obtain ⟨k, t, ht, hk⟩ := shape e he
      refine ⟨e, he, ?_⟩
      rw [ht]
      exact strKind_is P w k t
    · rintro ⟨e, he, hk⟩
      obtain ⟨t, ht⟩ := isStr_shape hk
      exact ⟨e, he, by rw [ht]; rfl⟩
  refine wpAny_bind (wpAny_newList ?_ (by rw [hvl, sizeLine_eq]; omega))
  have hoL : (s1.heap.push (seqObj "list" vs.toArray 0)).get? s1.heap.objs.size = some (seqObj "list" vs.toArray 0) := Heap.get?_push_size _ rfl
  refine wpAny_bind (wpAny_holding (wpAny_call_entry slot_list_sort ⟨_, hoL, rfl⟩ entry_list_sort (list_sort_treeK strKind_oneLt hoL hI.keysOf (fun v1 v2 r e => keyKind_strs (by rw [← e]; exact hI)) (by rw [hvl]; exact h64) fun st hp hs => ⟨_, rfl, ?_⟩) (args_list_sort _)))
  obtain ⟨xs, a1, a2, a3⟩ := sorted_out_str hI hp hs
  obtain ⟨c, hc⟩ := sortedHeap_at (vs := vs) (out := (arrOf st).map (·.2)) hoL
  have pn : xs.Perm (es.toList.map fun e => txtOf e.2) := a2.trans pk
  refine wpAny_pure ⟨_, rfl, fin _ s1.heap.objs.size _ c xs (fun b u e => ?_) ⟨g1, o1⟩ z1 hc a1 a3 (pn.nodup_iff.mpr nd) (fun k => by rw [pn.mem_iff, mem k]) ?_⟩
  · have q := k1 b u e
    have lt := Heap.lt_size q
    exact (sortedHeap_old (Nat.ne_of_lt lt) (by rw [size_push']; exact Nat.lt_succ_of_lt lt)).trans (Heap.get?_push_of_some _ q)
  · rw [pn.length_eq, List.length_map, Array.length_toList, hN]
end
/-- a set of texts, in the heap -/
def SetSO (P : Program) (w : World) (a : Addr) (S : Str → Bool) (n : Nat) : HO := .ext fun h => SetS P w h a S n
section
variable {X : Cx}
theorem setSO_new {P : Program} {w : World} {H : Hp} {h : Heap} {a : Addr} {S : Str → Bool} {n : Nat} (R : SetS P w h a S n) : ObjOk P w H h a (SetSO P w a S n) := by
  obtain ⟨o, _, _, _, ho, _⟩ := id R
  exact ⟨R, ⟨o, ho⟩, fun _ _ p k => SetS.at p k⟩
/-- set(xs) of a list of texts -/
def rSetOfS (K : PySem.W.Frag) (P : Program) (w : World) : List V → Hp → VK → Prop := fun xs H Q => ∃ (l : Addr) (ts : List Str), xs = [V.ref l] ∧ SqL K H l (ts.map V.str) ∧ ts.length ≤ 1000 ∧
  ∀ p (n : Nat), H p = none → n ≤ ts.length → Q (.ref p) (upd H p (SetSO P w p (fun j => decide (j ∈ ts)) n))
theorem cr_setS (hc : X.calm = true) : CallR X (.type "set") (rSetOfS X.K X.prog X.w) := by
  intro pins s σ H xs us Q I r h
  obtain ⟨l, ts, rfl, hl, hb, q⟩ := h
  rw [Vals.ref1 r]
  obtain ⟨its, rv, pl, hz⟩ := I.list hl
  refine set_of_strs ts (I.ok.hd hc) pl.isList (by simpa using rv.strs) (Nat.lt_of_le_of_lt (Nat.succ_le_succ hb) (by decide)) fun g tk c hc' R hk => ?_
  exact ⟨.ref _, upd H s.heap.objs.size (SetSO X.prog X.w s.heap.objs.size (fun j => decide (j ∈ ts)) c), I.laid (t' := tk) hk (Nat.le_refl _) (setSO_new R), rfl, q _ c (I.hok.fresh (Nat.le_refl _)) hc'⟩
/-- sorted(set of texts) -/
def rSortedSS (P : Program) (w : World) : List V → Hp → VK → Prop := fun vs H Q => ∃ (a : Addr) (S : Str → Bool) (n : Nat), vs = [V.ref a] ∧ H a = some (SetSO P w a S n) ∧ n < 64 ∧
  ∀ (xs : List Str) (p : Addr), sortedS xs = true → xs.Nodup → (∀ k, k ∈ xs ↔ S k = true) → xs.length = n → H p = none → Q (.ref p) (upd H p (.lst (xs.map V.str)))
theorem cr_sortedSS (hc : X.calm = true) : CallR X (.builtin "sorted") (rSortedSS X.prog X.w) := by
  intro pins s σ H vs us Q I r h
  obtain ⟨a, S, n, rfl, ha, h64, q⟩ := h
  rw [Vals.ref1 r]
  refine sorted_sets (I.hok a _ ha).1 (I.ok.hd hc) h64 fun s' p out c xs k go hp hg hi hs nd hm hl => ?_
  have hlen : (xs.map V.str).length ≤ sizeLine := by rw [List.length_map, hl, sizeLine_eq]; omega
  have hn : H p = none := I.hok.fresh hp
  have J : Inv X pins σ (upd H p (.lst (xs.map V.str))) { s with heap := s'.heap, gens := s'.gens, drawn := s'.drawn, toks := s'.toks } :=
    I.call (ch := []) (Un.laid k hp hn) (I.hok.laid k hp ⟨hlen, out.toList, c, vals_of_strs hi, hg⟩) (by rw [go.1]; exact I.bare) (fun _ z => nomatch z)
  have e : s' = { s with heap := s'.heap, gens := s'.gens, drawn := s'.drawn, toks := s'.toks } := by
    obtain ⟨_, o⟩ := go
    cases s'
    cases s
    cases o
    rfl
  rw [e]
  exact ⟨.ref p, _, J, rfl, q xs p hs nd hm hl hn⟩
end
/-! sum(lists, []) -/
section
variable {P : Program} {w : World} {A : Around} {E : Value → Shared → Prop} {s : Shared}
/-- a list at a, without a dict -/
abbrev LsAt (h : Heap) (a : Addr) (vs : List Value) : Prop := ∃ n, IsL h a vs.toArray n
theorem sums_loop {I : Addr} {fp wr : List Addr} {G : Array GenState → Array GenState → Prop} {m : Nat} {Pv : Nat → Value → Prop} {St : Nat → Shared → Prop} {R : Result → Shared → Prop}
    (W : WalksS P w A.in1 I fp wr G m Pv St) (S : Addr) (hS : S ∉ fp) (ls : List (Addr × List Value)) (hm : m = ls.length) (hsz : ((ls.map (·.2)).flatten).length ≤ sizeLine) (hval : ∀ i v, Pv i v → ∃ e, ls[i]? = some e ∧ v = .ref e.1)
    (hin : ∀ e ∈ ls, e.1 ∉ S :: wr) (hwr : ∀ i s, St i s → ∀ b ∈ wr, ∃ o, s.heap.get? b = some o) : ∀ (d i : Nat) (s : Shared) (t : Addr) (c : Nat), m - i = d → i ≤ m → St i s → s.heap.get? S = some { cls := .type "list", dict := none, data := .seq #[.ref t] c, slots := #[] } →
      t ≠ S → LsAt s.heap t (((ls.take i).map (·.2)).flatten) → t ∉ wr → (∀ e ∈ ls, LsAt s.heap e.1 e.2) →
      (∀ s' p, Moved (S :: wr) G s s' → LsAt s'.heap p ((ls.map (·.2)).flatten) → (i < m → s.heap.get? p = none) → (i = m → p = t) → R (.ok (.ret (.ref p))) s') → codeAny (model P w) A (.builtin "sum.loop" ⟨[.ref I, .ref S, rawInt 2, rawInt 0], []⟩) R s := by
  have hSw : S ∉ wr := fun z => hS (W.sub _ z)
  have more : ∀ b ∈ wr, b ∈ S :: wr := fun _ z => List.mem_cons_of_mem _ z
  intro d
  induction d with
  | zero =>
    intro i s t c e1 e2 st hs tS ht tw hls fin
    obtain rfl : i = m := by omega
    refine codeAny_builtin F.entry_sum_loop ?_
    rw [Around.under_plainId F.plain_sum_loop _]
    refine wpAny_bind (m := seqItems? (.ref S)) (wpAny_seqItems hs rfl ?_)
    refine wpAny_bind (m := tryCatch (pyNext (.ref I)) _) (wpAny_tryCatch (W.done s _ _ st fun s' mv => ?_))
    rw [List.take_of_length_le (by omega)] at ht
    obtain ⟨n, ht⟩ := ht
    exact wpAny_pure (fin s' t (mv.mono more) ⟨n, mv.heap _ _ tw ht⟩ (fun z => absurd z (Nat.lt_irrefl _)) fun _ => rfl)
  | succ d ih =>
    intro i s t c e1 e2 st hs tS ht tw hls fin
    have lt : i < m := by omega
    refine codeAny_builtin F.entry_sum_loop ?_
    rw [Around.under_plainId F.plain_sum_loop _]
    refine wpAny_bind (m := seqItems? (.ref S)) (wpAny_seqItems hs rfl ?_)
    refine wpAny_bind (m := tryCatch (pyNext (.ref I)) _) (wpAny_tryCatch (W.item i s _ _ lt st fun v s' hP st' mv => ?_))
    obtain ⟨e, he, rfl⟩ := hval i v hP
    have hem := List.mem_of_getElem? he
    have hew : e.1 ∉ wr := fun z => hin e hem (List.mem_cons_of_mem _ z)
    obtain ⟨n1, ht⟩ := ht
    obtain ⟨n2, hb⟩ := hls e hem
    have ht' := mv.heap _ _ tw ht
    have hb' := mv.heap _ _ hew hb
    have hs' := mv.heap _ _ hSw hs
    have tk : ((ls.take (i + 1)).map (·.2)).flatten = ((ls.take i).map (·.2)).flatten ++ e.2 := by
      rw [List.take_add_one, he, List.map_append, List.flatten_append]
      simp
    have hle : ((ls.take i).map (·.2)).flatten.length + e.2.length ≤ sizeLine := by
      rw [← List.length_append, ← tk]
      refine Nat.le_trans ?_ hsz
      conv => rhs; rw [← List.take_append_drop (i + 1) ls, List.map_append, List.flatten_append, List.length_append]
      omega
    show wpAny _ A.in1 (Sem.attempt (holding [Value.ref e.1] (binaryOp .Add (.ref t) (.ref e.1))) >>= _) _ _ s'
    refine wpAny_bind (wpAny_attempt (wpAny_holding (PySem.P.add_list ht' hb' ?_ (by rw [List.size_toArray, List.size_toArray]; exact hle))))
    have ea : (((ls.take i).map (·.2)).flatten).toArray ++ e.2.toArray = (((ls.take (i + 1)).map (·.2)).flatten).toArray := by rw [tk]; simp
    rw [ea]
    have lS := Heap.lt_size hs'
    have hs2 := Heap.get?_push_of_some ({ cls := .type "list", data := .seq (((ls.take (i + 1)).map (·.2)).flatten).toArray } : Obj) hs'
    have new := Heap.get?_push_size s'.heap (o := ({ cls := .type "list", data := .seq (((ls.take (i + 1)).map (·.2)).flatten).toArray } : Obj)) rfl
    have old : ∀ b o, s'.heap.get? b = some o → (s'.heap.push ({ cls := .type "list", data := .seq (((ls.take (i + 1)).map (·.2)).flatten).toArray } : Obj)).get? b = some o := fun b o z => Heap.get?_push_of_some _ z
    have sz : (s'.heap.push ({ cls := .type "list", data := .seq (((ls.take (i + 1)).map (·.2)).flatten).toArray } : Obj)).objs.size = s'.heap.objs.size + 1 := size_push' _ _
    generalize s'.heap.push ({ cls := .type "list", data := .seq (((ls.take (i + 1)).map (·.2)).flatten).toArray } : Obj) = g at hs2 new old sz ⊢
    have nS : s'.heap.objs.size ≠ S := Nat.ne_of_gt lS
    refine wpAny_bind (wpAny_updateSeq hs2 rfl ?_)
    refine wpAny_bind (wpAny_letGo ?_)
    have hs3 := Heap.get?_update_self (Obj.mapSeq fun _ => #[Value.ref s'.heap.objs.size]) hs2 rfl
    refine wpAny_bind (m := updateSeq S _) (wpAny_updateSeq hs3 rfl ?_)
    have hs4 := Heap.get?_update_self (Obj.mapSeq fun _ => #[Value.ref s'.heap.objs.size]) hs3 rfl
    have keep : ∀ b o, b ≠ S → g.get? b = some o → ((g.update S (Obj.mapSeq fun _ => #[Value.ref s'.heap.objs.size])).update S (Obj.mapSeq fun _ => #[Value.ref s'.heap.objs.size])).get? b = some o := fun b o hb z =>
      (Heap.get?_update_other _ _ (fun h : S = b => hb h.symm)).trans ((Heap.get?_update_other _ _ (fun h : S = b => hb h.symm)).trans z)
    have no : s'.heap.get? s'.heap.objs.size = none := by
      cases z : s'.heap.get? s'.heap.objs.size with
      | none => rfl
      | some o => exact absurd (Heap.lt_size z) (Nat.lt_irrefl _)
    have newW : s'.heap.objs.size ∉ wr := fun z => by
      obtain ⟨o, q⟩ := hwr _ _ st' _ z
      rw [no] at q
      cases q
    have st3 := W.frame _ s' ((g.update S (Obj.mapSeq fun _ => #[Value.ref s'.heap.objs.size])).update S (Obj.mapSeq fun _ => #[Value.ref s'.heap.objs.size])) s'.toks st' (Nat.le_refl _) fun b hb o z => keep b o (fun h => hS (h ▸ hb)) (old b o z)
    refine wpAny_pure ⟨plainId_quiet F.plain_sum_loop _, ih (i + 1) _ s'.heap.objs.size _ (by omega) lt st3 hs4 nS ⟨_, keep _ _ nS new⟩ newW ?_ ?_⟩
    · intro f hf
      obtain ⟨k, hk⟩ := hls f hf
      have hfS : f.1 ≠ S := fun z => hin f hf (z ▸ List.mem_cons_self)
      exact ⟨k, keep _ _ hfS (old _ _ (mv.heap _ _ (fun z => hin f hf (List.mem_cons_of_mem _ z)) hk))⟩
    · intro s2 p mv2 hp f1 f2
      refine fin s2 p (Moved.trans W.gtrans ((mv.mono more).then_heap (Nat.le_refl _) fun b o hb z => keep b o (fun h => hb (h ▸ List.mem_cons_self)) (old b o z)) mv2) hp (fun _ => ?_) (fun z => absurd z (Nat.ne_of_lt lt))
      have gone : ∀ q, s'.heap.get? q = none ∨ (((g.update S (Obj.mapSeq fun _ => #[Value.ref s'.heap.objs.size])).update S (Obj.mapSeq fun _ => #[Value.ref s'.heap.objs.size])).get? q = none) → q ∉ S :: wr → s.heap.get? q = none := fun q hq hn => by
        cases z : s.heap.get? q with
        | none => rfl
        | some o =>
          have z1 := mv.heap q o (fun h => hn (List.mem_cons_of_mem _ h)) z
          rcases hq with hq | hq
          · rw [z1] at hq
            cases hq
          · rw [keep q o (fun h => hn (h ▸ List.mem_cons_self)) (old q o z1)] at hq
            cases hq
      by_cases em : i + 1 < m
      · have f1 := f1 em
        refine gone p (.inr f1) fun z => ?_
        rcases List.mem_cons.mp z with rfl | z
        · rw [hs4] at f1
          cases f1
        · obtain ⟨o, q⟩ := hwr _ _ st3 _ z
          rw [f1] at q
          cases q
      · have e : p = s'.heap.objs.size := f2 (by omega)
        rw [e]
        refine gone _ (.inl no) fun z => ?_
        rcases List.mem_cons.mp z with z | z
        · exact nS z
        · exact newW z
theorem args_sumTwo (a b : Value) : argsOk "sum" ⟨[a, b], []⟩ := by unfold argsOk; kernel_rfl
theorem subL_str : isSubtype (.type "list") (.type "str") = pure false := by rw [isSubtype_type]; kernel_rfl
theorem subL_bytes : isSubtype (.type "list") (.type "bytes") = pure false := by rw [isSubtype_type]; kernel_rfl
theorem subL_barr : isSubtype (.type "list") (.type "bytearray") = pure false := by rw [isSubtype_type]; kernel_rfl
theorem sums_raw {l b : Addr} {ls : List (Addr × List Value)} {Q : Value → Shared → Prop} (hh : A.handled = none) (hl : s.heap.IsList l (ls.map fun e => Value.ref e.1).toArray) (hb : LsAt s.heap b []) (hls : ∀ e ∈ ls, LsAt s.heap e.1 e.2) (hsz : ((ls.map (·.2)).flatten).length ≤ sizeLine)
    (fin : ∀ h' tk p, (∀ a o, s.heap.get? a = some o → h'.get? a = some o) → LsAt h' p ((ls.map (·.2)).flatten) → (ls ≠ [] → s.heap.get? p = none) → (ls = [] → p = b) → Q (.ref p) { s with heap := h', toks := tk }) :
    wpAny (model P w) A (call (.builtin "sum") [.ref l, .ref b]) Q E s := by
  refine call_function_tree F.kind_sum F.plain_sum F.entry_sum (args_sumTwo _ _) ?_
  unfold Builtin.«sum»
  simp only [List.length_cons, List.length_nil]
  rw [if_neg (by decide)]
  refine wpAny_bind (wpAny_of_eq (show Builtin.Builtins.bindParams "sum" ["start"] 0 ⟨[.ref b], []⟩ = pure [some (.ref b)] from rfl) ?_)
  refine wpAny_bind (wpAny_pyIter_list hl ?_)
  obtain ⟨nb, hbo⟩ := hb
  have lS : l < s.heap.objs.size := by
    obtain ⟨o, ho, _⟩ := id hl
    exact Heap.lt_size ho
  have k1 : ∀ a o, s.heap.get? a = some o → (s.heap.push { cls := .type "list_iterator", data := .fields #[.ref l, .int 0 0] }).get? a = some o := fun a o z => Heap.get?_push_of_some _ z
  have it1 : (s.heap.push { cls := .type "list_iterator", data := .fields #[.ref l, .int 0 0] }).IsListIter s.heap.objs.size l 0 := ⟨_, Heap.get?_push_size _ rfl, rfl, rfl⟩
  have z1 : (s.heap.push { cls := .type "list_iterator", data := .fields #[.ref l, .int 0 0] }).objs.size = s.heap.objs.size + 1 := size_push' _ _
  have hl1 := hl.push ({ cls := .type "list_iterator", data := .fields #[.ref l, .int 0 0] } : Obj)
  generalize s.heap.push { cls := .type "list_iterator", data := .fields #[.ref l, .int 0 0] } = h1 at k1 it1 z1 hl1 ⊢
  have hb1 := k1 _ _ hbo
  have tb : Shared.TypeIs { s with heap := h1 } (.ref b) "list" := ⟨_, hb1, rfl⟩
  refine wpAny_bind (wpAny_pure ?_)
  simp only [List.forIn_cons, List.forIn_nil]
  refine wpAny_bind (wpAny_bind (wpAny_bind (wpAny_isInstance (T := "list") (b := false) tb subL_str ?_)))
  simp only [Bool.false_eq_true, if_false]
  refine wpAny_pure (wpAny_bind (wpAny_bind (wpAny_isInstance (T := "list") (b := false) tb subL_bytes ?_)))
  simp only [Bool.false_eq_true, if_false]
  refine wpAny_pure (wpAny_bind (wpAny_bind (wpAny_isInstance (T := "list") (b := false) tb subL_barr ?_)))
  simp only [Bool.false_eq_true, if_false]
  refine wpAny_pure (wpAny_pure (wpAny_bind (wpAny_newObj_type ?_)))
  have hh1 : A.in1.handled = none := by simp [hh]
  have neI : l ≠ s.heap.objs.size := Nat.ne_of_lt lS
  have W := (Walks.list (prog := P) (w := w) hh1 s.heap.objs.size l neI (ls.map fun e => Value.ref e.1).toArray).toS
  have bl : b < s.heap.objs.size := Heap.lt_size hbo
  have nS : h1.objs.size ∉ [s.heap.objs.size, l] := by
    rw [z1]
    intro z
    rcases List.mem_cons.mp z with z | z
    · exact Nat.ne_of_gt (Nat.lt_succ_self _) z
    · exact Nat.ne_of_gt (Nat.lt_succ_of_lt lS) (List.mem_singleton.mp z)
  have ltne : ∀ {x y : Addr}, Nat.lt x y → x ≠ y := fun h e => Nat.lt_irrefl _ (e ▸ h)
  have up1 : ∀ {x : Addr}, Nat.lt x s.heap.objs.size → Nat.lt x h1.objs.size := fun h => by rw [z1]; exact Nat.lt_succ_of_lt h
  have old2 : ∀ a o, h1.get? a = some o → (h1.push ({ cls := .type "list", data := .seq [Value.ref b].toArray } : Obj)).get? a = some o := fun a o z => Heap.get?_push_of_some _ z
  refine wpAny_pure ⟨plainId_quiet F.plain_sum_loop _, sums_loop W h1.objs.size nS ls (by simp) hsz (fun i v hv => ?_) (fun e he => ?_) (fun i s2 st b2 hb2 => ?_) (ls.length - 0) 0 _ b 0 (by simp) (Nat.zero_le _) ⟨it1.at fun o e => old2 _ _ e, hl1.push _⟩ (Heap.get?_push_size _ rfl) ?_ ⟨nb, old2 _ _ hb1⟩ ?_ (fun e he => ?_) ?_⟩
  · have hv' : (ls.map fun e => Value.ref e.1)[i]? = some v := by simpa using hv
    rw [List.getElem?_map] at hv'
    obtain ⟨e, he, rfl⟩ := Option.map_eq_some_iff.mp hv'
    exact ⟨e, he, rfl⟩
  · obtain ⟨k, hk⟩ := hls e he
    have := Heap.lt_size hk
    intro z
    rcases List.mem_cons.mp z with z | z
    · exact ltne (up1 this) z
    · exact ltne this (List.mem_singleton.mp z)
  · rw [List.mem_singleton] at hb2
    subst hb2
    obtain ⟨o, ho, _⟩ := st.1
    exact ⟨o, ho⟩
  · exact ltne (up1 bl)
  · rw [List.mem_singleton]
    exact ltne bl
  · obtain ⟨k, hk⟩ := hls e he
    exact ⟨k, old2 _ _ (k1 _ _ hk)⟩
  · rintro ⟨g, gg, dd, tk, oo⟩ p mv hp f1 f2
    have e1 : gg = s.gens := mv.gens
    have e2 : dd = s.drawn := mv.drawn
    have e3 : oo = s.os := mv.os
    subst e1 e2 e3
    refine fin g tk p (fun a o z => ?_) hp (fun ne => ?_) (fun e => f2 (by rw [e]; rfl))
    · have := Heap.lt_size z
      refine mv.heap a o (fun q => ?_) (old2 _ _ (k1 _ _ z))
      rcases List.mem_cons.mp q with q | q
      · exact ltne (up1 this) q
      · exact ltne this (List.mem_singleton.mp q)
    · have h0 : 0 < ls.length := List.length_pos_iff.mpr ne
      have := f1 (by simpa using h0)
      cases z : s.heap.get? p with
      | none => rfl
      | some o =>
        rw [old2 _ _ (k1 _ _ z)] at this
        cases this
end
section
variable {P : Program} {w : World} {fs ex : List Addr} {H : Hp} {h h' : Heap} {a : Addr} {o : HO}
theorem un_laid (k : ∀ b u, h.get? b = some u → h'.get? b = some u) (hp : h.get? a = none) (hn : H a = none) : Un fs ex H (upd H a o) h h' where
  keep := fun b u q _ _ _ => k b u q
  slot := fun b u q _ _ _ => ⟨u.slots, k b u q⟩
  free := fun b u q n _ => by
    rw [upd_ne (by rintro rfl; rw [hp] at q; cases q)]
    exact n
  there := fun b u q _ => ⟨u, k b u q⟩
  tups := fun b xs q => by
    rw [upd_ne (ne_of_none q hn)]
    exact q
  frzs := fun b u xs q => by
    rw [upd_ne (ne_of_none q hn)]
    exact q
  tbls := fun b ps q => ⟨#[], by rw [upd_ne (ne_of_none q hn), q]; simp⟩
theorem hok_laid (x : HOk P w H h) (k : ∀ b u, h.get? b = some u → h'.get? b = some u) (hn : H a = none) (new : ObjOk P w (upd H a o) h' a o) : HOk P w (upd H a o) h' := fun b u e => by
  by_cases hb : b = a
  · subst hb
    rw [upd_same] at e
    cases e
    exact new
  · rw [upd_ne hb] at e
    exact (x b u e).stay (fun c v _ q => k c v q) (fun c q => by rw [upd_ne (ne_of_none q hn)]; exact q) fun c xs q => by rw [upd_ne (ne_of_none q hn)]; exact q
end
section
variable {X : Cx}
/-- sum(xs, []): xs a list of lists -/
def rSumL (K : PySem.W.Frag) : List V → Hp → VK → Prop := fun vs H Q => ∃ (a b : Addr) (ls : List (Addr × List V)), vs = [.ref a, .ref b] ∧ SqL K H a (ls.map fun e => V.ref e.1) ∧ H b = some (.lst []) ∧ (∀ e ∈ ls, H e.1 = some (.lst e.2)) ∧ ((ls.map (·.2)).flatten).length ≤ sizeLine ∧
  (ls = [] → Q (.ref b) H) ∧ ∀ p, H p = none → Q (.ref p) (upd H p (.lst ((ls.map (·.2)).flatten)))
theorem cr_sumL (hc : X.calm = true) : CallR X (.builtin "sum") (rSumL X.K) := by
  intro pins s σ H vs us Q I r h
  obtain ⟨a, b, ls, rfl, ha, hb, hls, hsz, q0, q1⟩ := h
  obtain ⟨u1, u2, rfl, r1, r2⟩ := vals2 r
  cases (show u1 = Value.ref a from r1)
  cases (show u2 = Value.ref b from r2)
  obtain ⟨its, rv, hl, hz0⟩ := I.list ha
  obtain ⟨z, bits, nb, rb, hbl, eb⟩ := I.lstM hb
  obtain rfl : bits = [] := by cases rb; rfl
  have key : ∃ us : List (Addr × List Value), its = us.map (fun e => Value.ref e.1) ∧ us.length = ls.length ∧ (∀ e ∈ us, LsAt s.heap e.1 e.2) ∧ Vals ((ls.map (·.2)).flatten) ((us.map (·.2)).flatten) := by
    clear q0 q1 hsz ha hl hz0
    induction ls generalizing its with
    | nil =>
      cases rv
      exact ⟨[], rfl, rfl, by simp, .nil⟩
    | cons e ls ih =>
      cases rv with
      | cons r0 rv =>
        obtain ⟨us, e1, e2, e3, e4⟩ := ih (fun f hf => hls f (List.mem_cons_of_mem _ hf)) _ rv
        obtain ⟨_, it, n, rr, _, eo⟩ := I.lstM (hls e List.mem_cons_self)
        cases r0
        refine ⟨(e.1, it) :: us, by rw [e1]; rfl, by simp [e2], fun f hf => ?_, rr.append e4⟩
        rcases List.mem_cons.mp hf with rfl | hf
        · exact ⟨n, eo⟩
        · exact e3 f hf
  obtain ⟨us, rfl, e2, e3, e4⟩ := key
  refine sums_raw (I.ok.hd hc) hl.isList ⟨nb, eb⟩ e3 (by rw [← e4.length]; exact hsz) fun g tk p hk hp f1 f2 => ?_
  by_cases hn : ls = []
  · have hu : us = [] := by
      rw [hn] at e2
      exact List.length_eq_zero_iff.mp e2
    cases f2 hu
    exact ⟨.ref b, H, I.kept (t' := tk) hk, rfl, q0 hn⟩
  · have hu : us ≠ [] := fun z => hn (by rw [z] at e2; exact List.length_eq_zero_iff.mp e2.symm)
    have np := f1 hu
    obtain ⟨k, hp⟩ := hp
    exact ⟨.ref p, upd H p (.lst ((ls.map (·.2)).flatten)), (I.un (un_laid (o := .lst ((ls.map (·.2)).flatten)) hk np (I.hok.gone np)) (hok_laid (o := .lst ((ls.map (·.2)).flatten)) I.hok hk (I.hok.gone np) ⟨hsz, _, k, e4, hp⟩) : Inv X pins σ _ { s with heap := g, toks := tk }), rfl, q1 p (I.hok.gone np)⟩
end
/-! raise X(): an error class of the text without an __init__ of its own -/
abbrev veMro : List Value := [.type "ValueError", .type "Exception", .type "BaseException", .type "object"]
structure ExZ (K : PySem.W.Frag) (mg : Str → Option Value) (x : Str) (C : Addr) : Prop where
  gC : mg x = some (.ref C)
  exC : PySem.W.subIn K (.ref C) (.type "BaseException") = some true
  hdC : PySem.W.hasDictIn K C = true
  tyC : PySem.W.typeIn K (.ref C) = some (.type "type")
  kC : PySem.W.keepIn K (.ref C) = true
  q : PySem.W.excIn K C veMro "ValueError.__new__" = true
section
variable {X : Cx} {C : Addr} {x : Str}
theorem pmk_z {p pos : Pos} (T : ExZ X.K X.mg x C) (hg : Gl X x := by rfl) (hdb : (x == ("__debug__" : Str)) = false := by decide) : PMk X (.Call (.Name x p) [] [] pos) (fun _ H Q => Q (.ref C) none H) := by
  intro pins s σ H Q I h
  refine wpAny_Call_Name_kw (ld_glob I hg T.gC ?_ hdb)
  refine PySem.W.callWith_K0 I.kIn T.kC ?_
  obtain ⟨bm, N, nm, qn, bs, hdct, sn, sub, ab, col, dd, k0, k1, k2, k3, k5, mN, hC, hN, hni, tl⟩ := exc_obj I.kIn T.q
  exact wpAny_call_exc_subT PySem.F.excBase_ValueError tl hC hN hni (fun h' e hm => mk_of I hm (raises_own T.exC T.tyC) h (I.hok.gone hm.new)) (Nat.zero_le _)
end
theorem kitOne_exd {K : PySem.W.Frag} {C D : Addr} (h : PySem.W.subIn K (.ref D) (.ref C) = some false) (hne : D ≠ C) (hc : PySem.W.hasDictIn K C = true) (ht : PySem.W.typeIn K (.ref C) = some (.type "type")) : PySem.W.kitOne K (.ref D) (.ref C) = some false := by
  unfold PySem.W.kitOne
  rw [if_neg (by simpa using hne)]
  show (if _ then _ else _) = _
  rw [if_pos ?_]
  · exact h
  · rw [ht]
    obtain ⟨cd, e, _⟩ := PySem.W.any_some hc
    simp [e]
theorem kitOne_ve {K : PySem.W.Frag} {D : Addr} (h : PySem.W.subIn K (.ref D) (.type "ValueError") = some true) : PySem.W.kitOne K (.ref D) (.type "ValueError") = some true := by
  unfold PySem.W.kitOne
  rw [if_neg (by simp)]
  show (if PySem.W.kitMeta "ValueError" = true then PySem.W.subIn K (.ref D) (.type "ValueError") else none) = _
  rw [if_pos (by decide +kernel)]
  exact h
end Fm
/-! C(..) where what __init__ raises is wished for at the slots -/
namespace Fm
open PySem PySem.Spec PyProof.Rows L2 SlX
section
variable {X : Cx} {CX : CXT} {k : Nat} {f C : Addr} {fd : FuncData} {ps : List Str} {sp : Sp} {E : L2.St → XK} {x : Str} {p pos : Pos} {e : Expr} {es : List Expr} {t : TA}
theorem run_makeS {pins : List (Addr × Obj)} {σ : L2.St} {H : Hp} {s : Shared} {Q : VK} {us : List Value} {vs : List V} (M : Mk X.K C f) (F : FnOk X.prog X.w X.K X.mg X.base CX k f fd ps sp) (hr : Room (k + 1) X.A) (hb : Binds X.K fd ps [])
    (hx : PassesAt CX X σ (E σ)) (I : Inv X pins σ H s) (r : Vals vs us)
    (h : ∀ x dx, H x = none → H dx = none → dx ≠ x → sp (.ref x :: vs) (upd (upd H dx (.own x)) x (.ins C dx [])) (fun v H2 => v = .non ∧ Q (.ref x) H2) (E σ)) :
    wpAny (model X.prog X.w) X.A (call (.ref C) us) (EP X pins σ Q) X.xe s := by
  have hq := h (s.heap.objs.size + 1) s.heap.objs.size (I.hok.fresh (Nat.le_succ _)) (I.hok.fresh (Nat.le_refl _)) (Nat.ne_of_lt (Nat.lt_succ_self _))
  have I2 := Inv.made (C := C) I
  have r2 : Vals (V.ref (s.heap.objs.size + 1) :: vs) (Value.ref (s.heap.objs.size + 1) :: us) := .cons rfl r
  have hl : (Value.ref (s.heap.objs.size + 1) :: us).length = ps.length := by
    have e := r2.length
    rw [F.len _ _ _ _ hq] at e
    exact e.symm
  have b := hb { s with heap := (s.heap.push _).push _ } (Value.ref (s.heap.objs.size + 1) :: us) I2.kIn (by rw [List.append_nil]; exact hl)
  rw [List.append_nil] at b
  refine wpAny_call (make_map (f := f) I.kIn M.makes M.init (beq_iff_eq.mp M.fn) (codeAny_mono (F.run _ X.stack _ _ ⟨Value.ref (s.heap.objs.size + 1) :: us, []⟩ (Value.ref (s.heap.objs.size + 1) :: us) _ _ (E σ) (hr.make C us [])
    (I2.env0.make C us []) b r2 hq) fun r s' hq' => ?_))
  cases r with
  | error e => exact hx pins _ _ e s' I2 hq'
  | ok fl =>
    cases fl with
    | ret u =>
      obtain ⟨v, H', I3, rv, ev, q3⟩ := I2.after hq'
      subst ev
      exact ⟨rv, ⟨V.ref (s.heap.objs.size + 1), H', I3, rfl, q3⟩⟩
    | next => exact False.elim hq'
    | brk => exact False.elim hq'
    | cont => exact False.elim hq'
def tMakeS (C : Addr) (sp : Sp) (E : L2.St → XK) (t : TA) : TE := fun σ H Q => t σ H fun vs H1 => ∀ x dx, H1 x = none → H1 dx = none → dx ≠ x → sp (.ref x :: vs) (upd (upd H1 dx (.own x)) x (.ins C dx [])) (fun v H2 => v = .non ∧ Q (.ref x) H2) (E σ)
theorem pe_makeS (M : Mk X.K C f) (F : FnOk X.prog X.w X.K X.mg X.base CX k f fd ps sp) (hr : Room (k + 1) X.A) (hg : Gl X x) (hm : X.mg x = some (.ref C)) (hb : Binds X.K fd ps []) (hx : ∀ σ, PassesAt CX X σ (E σ))
    (ha : PA X (e :: es) t) (hdb : (x == ("__debug__" : Str)) = false := by decide) (he : starEach (e :: es) X.env = (false, eval e X.env) :: starEach es X.env := by rfl) (hpl : (backTo pos (starEach es X.env)).any (·.1) = false := by rfl) :
    PE X (.Call (.Name x p) (e :: es) [] pos) (tMakeS C sp E t) := by
  refine ⟨fun pins s σ H Q I h => ?_⟩
  refine wpAny_Call_Name_kw (ld_glob I hg hm ?_ hdb)
  refine PySem.W.callWith_K (h₀ := X.base) I.ok.mod.kin M.kp (thn (ha.run pos pins s σ H _ I h) fun us s1 ⟨vs, H1, I1, r, q⟩ => ⟨I1.kIn, ?_⟩) he hpl
  exact run_makeS M F hr hb (hx σ) I1 r q
end
end Fm
/-! a caught error: its class asked, its field read -/
namespace Fm
open PySem PySem.Spec PyProof.Rows L2
/-- a method of a class of the text -/
structure MethAt (K : PySem.W.Frag) (C : Addr) (m q : Str) (st : Stmt) (ps : List Str) where
  f : Addr
  fd : FuncData
  F : Fun K m q st f fd
  M : Meth K C m f
  b : Binds K fd ps []
/-- an error class without an __init__ of its own -/
structure ExN (K : PySem.W.Frag) (mg : Str → Option Value) (x : Str) (C : Addr) : Prop where
  gC : mg x = some (.ref C)
  exC : PySem.W.subIn K (.ref C) (.type "BaseException") = some true
  hdC : PySem.W.hasDictIn K C = true
  tyC : PySem.W.typeIn K (.ref C) = some (.type "type")
section
variable {X : Cx} {a : Addr} {oe : Obj} {cls : Value} {d : Option Addr} {pn : List (Addr × Obj)}
def rIsX (K : PySem.W.Frag) (a : Addr) (cls : Value) (d : Option Addr) : List V → Hp → VK → Prop := fun xs H Q => ∃ (D : Addr) (c : V) (cv : Value) (b : Bool), cls = .ref D ∧ ExcC K D ∧
  (d = none ∨ ∃ dd fs, d = some dd ∧ H dd = some (.xd fs)) ∧ xs = [.ref a, c] ∧ (∀ u, RelV c u → u = cv) ∧ PySem.W.kitOne K (.ref D) cv = some b ∧ Q (.bl b) H
theorem call_isX (hz : Zc cls d oe) (hf : ∃ vs, oe.data = .fields vs) : CallR (X.suite a ((a, oe) :: pn)) (.builtin "isinstance") (rIsX X.K a cls d) := by
  intro pins s σ H xs us Q I r h
  obtain ⟨D, c, cv, b, rfl, C, hd, rfl, hcv, e, q⟩ := h
  obtain ⟨u1, u2, rfl, rx, rt⟩ := vals2 r
  cases (show u1 = Value.ref a from rx)
  have ec := hcv _ rt
  subst ec
  obtain ⟨hget, _⟩ := I.pin (a, oe) (List.mem_append.mpr (.inl List.mem_cons_self))
  obtain ⟨vs, hv⟩ := hf
  have no : PySem.W.notCls oe = true := by
    unfold PySem.W.notCls
    rw [hv] <;> rfl
  obtain ⟨od, J⟩ : ∃ od, PySem.W.InstAt s.heap a oe D od := by
    rcases hd with rfl | ⟨dd, fs, rfl, hx⟩
    · refine ⟨none, hget, hz.1, no, ?_⟩
      rw [hz.2]
      trivial
    · obtain ⟨mA, hns, _⟩ := (show ObjOk X.prog X.w H s.heap dd (.xd fs) from I.hok dd _ hx)
      obtain ⟨od, ho, _⟩ := lookIn_ns hns
      refine ⟨some od, hget, hz.1, no, ?_⟩
      rw [hz.2]
      exact ho
  have hcl : (PySem.W.clsIn X.K D).isSome = true := by
    obtain ⟨cd, hc, _⟩ := PySem.W.any_some C.hd
    rw [hc]
    rfl
  exact PySem.W.kia_one (PySem.W.kitx_exc hcl C.hg C.hk C.hs C.ha C.hn C.ht C.hm) I.kIn J e (fun z => nomatch z) fun tk => ⟨.bl b, H, I.kept (t' := tk) fun _ _ z => z, rfl, q⟩
def tXfG (K : PySem.W.Frag) (a : Addr) (cls : Value) (d : Option Addr) (f : Str) (te : TE) : TE := fun σ H Q => te σ H fun x H1 => x = .ref a ∧ ∃ (C dd : Addr) (fs : List (Str × V)) (v : V), cls = .ref C ∧ XfC K C ∧ PySem.W.findIn K (.ref C) f = some none ∧
  d = some dd ∧ H1 dd = some (.xd fs) ∧ fs.lookup f = some v ∧ Q v H1
theorem pe_xfG {e : Expr} {te : TE} {pos : Pos} {n : Str} (hz : Zc cls d oe) (hf : ∃ vs, oe.data = .fields vs) (he : PE (X.suite a ((a, oe) :: pn)) e te) (hb : attributeBase e n X.env (eval e X.env) = eval e X.env := by rfl) :
    PE (X.suite a ((a, oe) :: pn)) (.Attribute e n pos) (tXfG X.K a cls d n te) := by
  refine ⟨fun pins s σ H Q I h => ?_⟩
  refine attr_of hb (thn (he.run pins s σ H _ I h) fun u s1 hh => ?_)
  obtain ⟨x, H1, I1, rx, rfl, C, dd, fs, v, rfl, T, hno, rfl, ea, l, q⟩ := hh
  obtain rfl : u = Value.ref a := rx
  obtain ⟨ha, _⟩ := I1.pin (a, oe) (List.mem_append_left _ List.mem_cons_self)
  obtain ⟨vs, hd⟩ := hf
  obtain ⟨mA, hns, hr⟩ := (show ObjOk X.prog X.w H1 s1.heap dd (.xd fs) from I1.hok dd _ ea)
  obtain ⟨od, ho, hl⟩ := lookIn_ns hns
  obtain ⟨u, hu, ru⟩ := RelO.some_of (v := v) (o := mA n) (by rw [← l]; exact hr n)
  have no : PySem.W.notCls oe = true := by
    unfold PySem.W.notCls
    rw [hd] <;> rfl
  have J : PySem.W.InstAt s1.heap a oe C (some od) := ⟨ha, hz.1, no, by rw [hz.2]; exact ho⟩
  exact HandSPX.exc_get I1.kIn J T.ga T.gg T.exC (PySem.W.findObj_own T.hdC hno rfl (by rw [hl, hu])) (handed_of ru) ⟨v, H1, I1.tok _, ru, q⟩
end
end Fm
namespace Fm
open PySem PySem.Spec PyProof.Rows L2
/-! ### pairs of a text and an int, by the text, then by the int -/
def ltSI (p q : Str × Int) : Bool := if p.1 = q.1 then decide (p.2 < q.2) else decide (p.1.cps.toList < q.1.cps.toList)
theorem str_ext {x y : Str} (h : x.cps.toList = y.cps.toList) : x = y := by
  cases x
  cases y
  simp only at h
  rw [Array.toList_inj.mp h]
theorem ltSI_no {p q : Str × Int} : ltSI p q = false ↔ (p.1 = q.1 ∧ q.2 ≤ p.2) ∨ (q.1.cps.toList < p.1.cps.toList) := by
  unfold ltSI
  by_cases e : p.1 = q.1
  · rw [if_pos e, decide_eq_false_iff_not, Int.not_lt]
    constructor
    · exact fun h => .inl ⟨e, h⟩
    · rintro (h | h)
      · exact h.2
      · rw [e] at h
        exact absurd h (List.lt_irrefl _)
  · rw [if_neg e, decide_eq_false_iff_not]
    constructor
    · intro h
      refine .inr ?_
      rcases Std.lt_trichotomy q.1.cps.toList p.1.cps.toList with z | z | z
      · exact z
      · exact absurd (str_ext z.symm) e
      · exact absurd z h
    · rintro (h | h)
      · exact absurd h.1 e
      · exact fun z => List.lt_irrefl _ (List.lt_trans z h)
theorem ltSI_yes {p q : Str × Int} : ltSI p q = true ↔ (p.1 = q.1 ∧ p.2 < q.2) ∨ (p.1.cps.toList < q.1.cps.toList) := by
  unfold ltSI
  by_cases e : p.1 = q.1
  · rw [if_pos e, decide_eq_true_iff]
    constructor
    · exact fun h => .inl ⟨e, h⟩
    · rintro (h | h)
      · exact h.2
      · rw [e] at h
        exact absurd h (List.lt_irrefl _)
  · rw [if_neg e, decide_eq_true_iff]
    constructor
    · exact fun h => .inr h
    · rintro (h | h)
      · exact absurd h.1 e
      · exact h
theorem swo_SI (k : Value → Str × Int) : SrtO.Swo fun v u => ltSI (k v) (k u) := by
  refine ⟨fun x y h => ?_, fun x y z h1 h2 => ?_⟩
  · refine ltSI_no.mpr ?_
    rcases ltSI_yes.mp h with ⟨a, b⟩ | a
    · exact .inl ⟨a.symm, by omega⟩
    · exact .inr a
  · refine ltSI_no.mpr ?_
    rcases ltSI_no.mp h1 with ⟨a, b⟩ | a
    · rcases ltSI_no.mp h2 with ⟨c, d⟩ | c
      · exact .inl ⟨c.trans a, by omega⟩
      · rw [a] at c
        exact .inr c
    · rcases ltSI_no.mp h2 with ⟨c, d⟩ | c
      · rw [← c] at a
        exact .inr a
      · exact .inr (List.lt_trans a c)
/-- v is a pair of a text and an int -/
def IsSI (h : Heap) (v : Value) (x : Str) (i : Int) : Prop := ∃ (a : Addr) (o : Obj) (t u : Tok) (n : Nat), v = .ref a ∧ h.get? a = some o ∧ o.cls = .type "tuple" ∧ o.data = .seq #[.str x t, .int i u] n
theorem IsSI.one {h : Heap} {v : Value} {x y : Str} {i j : Int} (a : IsSI h v x i) (b : IsSI h v y j) : x = y ∧ i = j := by
  obtain ⟨p, o, t, u, n, rfl, ho, _, hd⟩ := a
  obtain ⟨p', o', t', u', n', e, ho', _, hd'⟩ := b
  cases e
  rw [ho] at ho'
  cases ho'
  rw [hd] at hd'
  injection hd' with h1 _
  have h2 := congrArg Array.toList h1
  simp at h2
  exact ⟨h2.1.1, h2.2.1⟩
section
variable {prog : Program} {w : World} {A : Around} {E : Value → Shared → Prop} {s : Shared}
theorem si_cmp {vs : List Value} {k : Value → Str × Int} (hp : ∀ v ∈ vs, IsSI s.heap v (k v).1 (k v).2) : SrtO.Cmp prog w A s (tuples' true) (fun p => p.1 ∈ vs) (SrtO.lt2 fun v u => ltSI (k v) (k u)) := by
  intro p q hm hm'
  have h1 := hp _ hm
  have h2 := hp _ hm'
  show wpAny (model prog w) A (keyLt' (tuples' true) p.1 q.1) (fun r s' => s' = s ∧ r = ltSI (k p.1) (k q.1)) (fun _ _ => False) s
  generalize k p.1 = kp at h1 ⊢
  generalize k q.1 = kq at h2 ⊢
  obtain ⟨x, y⟩ := kp
  obtain ⟨x', y'⟩ := kq
  obtain ⟨a, o, t, u, n, e, ho, hc, hd⟩ := h1
  obtain ⟨a', o', t', u', n', e', ho', hc', hd'⟩ := h2
  rw [e, e']
  refine PySem.W.kat_lt ho hd ho' hd' ?_
  show PySem.W.KatLex prog w A true (decide (2 < 2)) _ [(.str x t, .str x' t'), (.int y u, .int y' u')] 0 s
  refine PySem.W.kat_cons (SeqAt.EqAt.str_str x t x' t' prog w _ _ ?_)
  refine PySem.W.kat_go (fun e1 => ?_) (fun e1 => ?_)
  · have ex : x = x' := by simpa using e1
    refine PySem.W.kat_yes (PySem.W.kat_cons (SeqAt.EqAt.int_int y u y' u' prog w _ _ ?_))
    refine PySem.W.kat_go (fun e2 => ?_) (fun e2 => ?_)
    · have ey : y = y' := by simpa using e2
      refine PySem.W.kat_yes (PySem.W.kat_nil ⟨rfl, ?_⟩)
      rw [ex, ey]
      exact (ltSI_no.mpr (.inl ⟨rfl, Int.le_refl _⟩)).symm
    · refine PySem.W.kat_no (PySem.W.kat_one _ _ (PyProof.Rows.lt_int ?_))
      refine (show s = s ∧ decide (y < y') = ltSI (x, y) (x', y') from ⟨rfl, ?_⟩)
      unfold ltSI
      rw [if_pos ex]
  · have ex : ¬ x = x' := by simpa using e1
    refine PySem.W.kat_no (PyProof.Rows.oneLt_str ⟨rfl, ?_⟩)
    unfold ltSI
    rw [if_neg ex]
/-- their first items -/
theorem si_firsts : ∀ vs : List Value, (∀ v ∈ vs, ∃ x i, IsSI s.heap v x i) → ∃ fs, PySem.W.KatTups s.heap vs fs ∧ fs.length = vs.length ∧ ∀ f ∈ fs, ∃ x t, f = Value.str x t
  | [], _ => ⟨[], .nil, rfl, fun _ h => nomatch h⟩
  | v :: vs, h => by
    obtain ⟨fs, k, hl, hi⟩ := si_firsts vs fun u hu => h u (by simp [hu])
    obtain ⟨x, i, a, o, t, u, n, rfl, ho, hc, hd⟩ := h v (by simp)
    refine ⟨.str x t :: fs, .cons ho hc hd rfl k, by simp [hl], fun f hf => ?_⟩
    rcases List.mem_cons.mp hf with rfl | hf
    · exact ⟨x, t, rfl⟩
    · exact hi f hf
theorem si_sortable {a : Addr} {vs : List Value} {k : Value → Str × Int} (h0 : 0 < vs.length) (hp : ∀ v ∈ vs, IsSI s.heap v (k v).1 (k v).2) (ha : ∀ o, s.heap.get? a = some o → o.cls ≠ .type "tuple") : SrtO.SortableO prog w A s a vs fun v u => ltSI (k v) (k u) := by
  intro h' keep
  have hp' : ∀ v ∈ vs, IsSI h' v (k v).1 (k v).2 := fun v hm => by
    obtain ⟨p, o, t, u, n, e, ho, hc, hd⟩ := hp v hm
    exact ⟨p, o, t, u, n, e, keep p o (fun z => by subst z; exact ha o ho hc) ho, hc, hd⟩
  obtain ⟨fs, h1, h2, h3⟩ := si_firsts (s := { s with heap := h' }) vs fun v hm => ⟨_, _, hp' v hm⟩
  refine ⟨tuples' true, fun Q E hq => ?_, si_cmp hp'⟩
  refine PySem.W.kat_kind (T := .type "str") h1 (by omega) (fun f hm => ?_) (by rfl) ?_
  · obtain ⟨x, t, rfl⟩ := h3 f hm
    exact PySem.W.Looks.now
  · have e : (Value.type "str" != Value.type "tuple") = true := by first | decide +kernel | rfl | decide
    rw [e]
    exact hq
end
section
variable {X : Cx}
/-- d.items() -/
def rItemsK : V → List V → Hp → VK → Prop := fun x xs H Q => ∃ (a : Addr) (kvs : List (L2.Key × V)), x = .ref a ∧ xs = [] ∧ H a = some (.dK kvs) ∧ ∀ p, H p = none → Q (.ref p) (upd H p (DX.itemsO p a))
theorem mt_itemsK : MtR X "dict.items" rItemsK := by
  intro pins s σ H x xs v us Q I rx rxs h
  obtain ⟨a, kvs, rfl, rfl, ha, q⟩ := h
  cases rx
  cases rxs
  obtain ⟨_, hd, _, _, o, es, ep, ho, hx, hdat, _⟩ := dk_of I.hok ha
  refine DT.callItems (es := es) (ep := ep) hd ⟨o, ho, hx, hdat⟩ ?_
  have hf : H s.heap.objs.size = none := I.hok.fresh (Nat.le_refl _)
  exact ⟨.ref s.heap.objs.size, _, I.laid (t' := s.toks) (fun b u e => Heap.get?_push_of_some _ e) (Nat.le_refl _) (DX.itemsO_ok (Heap.get?_push_size _ rfl)), rfl, q _ hf⟩
theorem pairs_at {P : Program} {w : World} : ∀ {es : List DictEntry} {vs : List (L2.Key × Value)}, Pairs (mixKind P w) es vs → ∀ (j : Nat), (∀ e, es[j]? = some e → ∃ kv, vs[j]? = some kv ∧ keyIs kv.1 e.key = true ∧ e.val = kv.2) ∧ es.length = vs.length
  | _, _, .nil, j => ⟨fun e h => by simp at h, rfl⟩
  | _, _, .cons h1 h2 h3, 0 => ⟨fun e h => by
      simp at h
      subst h
      exact ⟨_, rfl, h1, h2⟩, by simp [(pairs_at h3 0).2]⟩
  | _, _, .cons h1 h2 h3, j + 1 => ⟨fun e h => by
      obtain ⟨kv, a, b⟩ := (pairs_at h3 j).1 e (by simpa using h)
      exact ⟨kv, by simpa using a, b⟩, by simp [(pairs_at h3 0).2]⟩
abbrev rowK (r : Str × Int) : L2.Key × V := (Sum.inr r.1, .int r.2)
/-- sorted(d.items()), keys texts, values ints -/
def rSortSI : List V → Hp → VK → Prop := fun xs H Q => ∃ (p a : Addr) (rows : List (Str × Int)), xs = [.ref p] ∧ H p = some (DX.itemsO p a) ∧ H a = some (.dK (rows.map rowK)) ∧
  ∀ (H' : Hp) (l : Addr) (ps : List (Addr × Str × Int)), (∀ b o, H b = some o → H' b = some o) → H l = none → (ps.map (·.2)).Perm rows → (ps.map (·.2)).Pairwise (fun e f => e.1.cps.toList < f.1.cps.toList) → H' l = some (.lst (ps.map fun z => V.ref z.1)) →
    (∀ z ∈ ps, H' z.1 = some (.tup [.str z.2.1, .int z.2.2])) → Q (.ref l) H'
theorem cr_sortSI (hc : X.calm = true) : CallR X (.builtin "sorted") rSortSI := by
  intro pins s σ H xs us Q I r h
  obtain ⟨p, a, rows, rfl, hp, ha, q⟩ := h
  obtain rfl := Vals.ref1 r
  have view : s.heap.IsItemsView p a := (show ObjOk X.prog X.w H s.heap p (DX.itemsO p a) from I.hok p _ hp).1
  obtain ⟨z, hd, vs', kv, o, es, ep, ho, hx, hdat, _, hpr, hnd⟩ := dk_of I.hok ha
  have l1 : (rows.map rowK).length = vs'.length := Paired.length kv
  rw [List.length_map] at l1
  have l2 : es.size = vs'.length := by
    have := (pairs_at hpr 0).2
    simpa using this
  rw [List.length_map] at z
  have hh : X.A.handled = none := I.ok.hd hc
  refine DT.sortedI (es := es) (ep := ep) hh view ⟨o, ho, hx, hdat⟩ (by omega) fun h' tk as hk hlt hl hG => ?_
  have lak : as.length = rows.length := by omega
  have nd : as.Nodup := List.Pairwise.imp (fun h => Nat.ne_of_lt h) hG.rise
  have pr : ∀ (j : Nat) (b : Addr), as[j]? = some b → ∃ (e : Str × Int), rows[j]? = some e ∧ IsSI h' (.ref b) e.1 e.2 ∧ ∃ t u, h'.get? b = some { cls := .type "tuple", data := .seq #[.str e.1 t, .int e.2 u] } := by
    intro j b hj
    obtain ⟨en, he, hg⟩ := hG.pairs j b hj
    obtain ⟨kq, h1, h2, h3⟩ := (pairs_at hpr j).1 en (by rw [Array.getElem?_toList]; exact he)
    obtain ⟨x, hx1, hx2, hx3⟩ := DX.pget kv h1
    rw [List.getElem?_map] at hx1
    obtain ⟨e, e1, rfl⟩ := Option.map_eq_some_iff.mp hx1
    rw [← hx2] at h2
    obtain ⟨t, e2⟩ : ∃ t, en.key = Value.str e.1 t := by
      rcases keyIs_shape h2 with ⟨i, t, z, _⟩ | ⟨y, t, z1, z2⟩
      · cases z
      · cases z1
        exact ⟨t, z2⟩
    obtain ⟨u, e3⟩ : ∃ u, en.val = Value.int e.2 u := by
      rw [h3]
      obtain ⟨u, hu⟩ := (show ∃ u, kq.2 = Value.int e.2 u from hx3)
      exact ⟨u, hu⟩
    rw [e2, e3] at hg
    exact ⟨e, e1, ⟨b, _, t, u, 0, rfl, hg, rfl, rfl⟩, t, u, hg⟩
  have hob : (h'.push { cls := .type "list", data := .seq (as.map Value.ref).toArray }).get? h'.objs.size = some (seqObj "list" (as.map Value.ref).toArray 0) := Heap.get?_push_size _ rfl
  have ka : ∀ b o, h'.get? b = some o → (h'.push { cls := .type "list", data := .seq (as.map Value.ref).toArray }).get? b = some o := fun b o e => Heap.get?_push_of_some _ e
  have ne0 : ∀ b o, h'.get? b = some o → b ≠ h'.objs.size := fun b o e => Nat.ne_of_lt (Heap.lt_size e)
  generalize h'.push { cls := .type "list", data := .seq (as.map Value.ref).toArray } = h2 at hob ka ⊢
  have kb : ∀ b o, s.heap.get? b = some o → h2.get? b = some o := fun b o e => ka _ _ (hk b o e)
  -- the pair that a value is
  obtain ⟨k, hkv⟩ : ∃ k : Value → Str × Int, ∀ (j : Nat) (b : Addr), as[j]? = some b → some (k (.ref b)) = rows[j]? := by
    refine ⟨fun v => match v with | .ref b => (rows[as.idxOf b]?).getD ("", 0) | _ => ("", 0), fun j b hj => ?_⟩
    have hjl : j < as.length := (List.getElem?_eq_some_iff.mp hj).1
    have hjb : as[j] = b := (List.getElem?_eq_some_iff.mp hj).2
    have e : as.idxOf b = j := by
      rw [← hjb]
      exact List.Nodup.idxOf_getElem nd j hjl
    dsimp only
    rw [e, List.getElem?_eq_getElem (by omega : j < rows.length)]
    rfl
  have isS : ∀ v ∈ as.map Value.ref, IsSI h2 v (k v).1 (k v).2 := by
    intro v hv
    obtain ⟨b, hb, rfl⟩ := List.mem_map.mp hv
    obtain ⟨j, hj⟩ := List.mem_iff_getElem?.mp hb
    obtain ⟨e, he, ⟨b', o, t, u, n, eb, hg, hc', hd'⟩, _⟩ := pr j b hj
    have := hkv j b hj
    rw [he] at this
    rw [Option.some.inj this]
    exact ⟨b', o, t, u, n, eb, ka _ _ hg, hc', hd'⟩
  refine wpAny_call_entry PyProof.Rows.slot_list_sort ⟨_, hob, rfl⟩ PyProof.Rows.entry_list_sort
    (SrtO.list_sort_ord (s := { s with heap := h2, toks := tk }) (swo_SI k) hob (by rw [List.length_map]; omega) (fun h2l => si_sortable (by omega) isS fun o e => ?_) fun out o1 o2 => ⟨.none, rfl, ?_⟩) (PyProof.Rows.args_list_sort _)
  · have e' : h2.get? h'.objs.size = some o := e
    rw [hob] at e'
    cases e'
    exact fun z => absurd (Value.type.inj z) (by decide)
  · show EP X pins σ Q (.ref h'.objs.size) { s with heap := sortedHeap h2 h'.objs.size (as.map Value.ref) out.toArray, toks := tk }
    have hperm := o2.perm
    obtain ⟨bs, pb, eb⟩ := perm_lift Value.ref hperm as rfl
    subst eb
    have idx : ∀ b ∈ bs, ∃ j : Nat, as[j]? = some b ∧ rows[j]? = some (k (.ref b)) := by
      intro b hb
      obtain ⟨j, hj⟩ := List.mem_iff_getElem?.mp (pb.mem_iff.mp hb)
      exact ⟨j, hj, (hkv j b hj).symm⟩
    have e0 : as.map (fun b => k (.ref b)) = rows := by
      refine List.ext_getElem? fun j => ?_
      rw [List.getElem?_map]
      cases hj : as[j]? with
      | none =>
        have : rows.length ≤ j := by
          rw [← lak]
          exact List.getElem?_eq_none_iff.mp hj
        rw [List.getElem?_eq_none this]
        rfl
      | some b => exact hkv j b hj
    have pRows : ((bs.map fun b => (b, k (.ref b))).map (·.2)).Perm rows := by
      rw [List.map_map, ← e0]
      exact pb.map _
    have nodupK : (rows.map (·.1)).Nodup := by
      have e9 : vs'.map (·.1) = (rows.map (·.1)).map Sum.inr := by
        have : ∀ {l : List (L2.Key × V)} {m : List (L2.Key × Value)}, KV l m → m.map (·.1) = l.map (·.1) := by
          intro l m hK
          induction hK with
          | nil => rfl
          | cons h _ ih => rw [List.map_cons, List.map_cons, ih, h.1]
        rw [this kv, List.map_map, List.map_map]
        rfl
      rw [e9] at hnd
      exact (List.pairwise_map.mp hnd).imp fun h z => h (by rw [z])
    have sRows : ((bs.map fun b => (b, k (.ref b))).map (·.2)).Pairwise (fun e f => e.1.cps.toList < f.1.cps.toList) := by
      have n2 : ((bs.map fun b => (b, k (.ref b))).map (·.2)).Pairwise (fun e f => e.1 ≠ f.1) := by
        have := (pRows.map (·.1)).nodup_iff.mpr nodupK
        exact List.pairwise_map.mp this
      have n1 : ((bs.map fun b => (b, k (.ref b))).map (·.2)).Pairwise (fun e f => ltSI f e = false) := by
        rw [List.map_map, List.pairwise_map]
        exact List.pairwise_map.mp o1
      refine (n1.and n2).imp fun {e f} h => ?_
      rcases ltSI_no.mp h.1 with z | z
      · exact absurd z.1.symm h.2
      · exact z
    have kF : ∀ b o, b ≠ h'.objs.size → h2.get? b = some o → (sortedHeap h2 h'.objs.size (as.map Value.ref) (bs.map Value.ref).toArray).get? b = some o := fun b o hb e => (PyProof.Rows.sortedHeap_old hb (Heap.lt_size e)).trans e
    have kS : ∀ b o, s.heap.get? b = some o → (sortedHeap h2 h'.objs.size (as.map Value.ref) (bs.map Value.ref).toArray).get? b = some o := fun b o e => kF b o (ne0 _ _ (hk b o e)) (kb b o e)
    obtain ⟨eF, heF⟩ := PyProof.Rows.sortedHeap_at (vs := as.map Value.ref) (out := (bs.map Value.ref).toArray) hob
    have I1 : Inv X pins σ H { s with heap := sortedHeap h2 h'.objs.size (as.map Value.ref) (bs.map Value.ref).toArray, toks := tk } := I.kept (t' := tk) kS
    have hn0 : H h'.objs.size = none := I.hok.fresh (Nat.le_of_lt hlt)
    have hlen : (bs.map V.ref).length ≤ sizeLine := by
      rw [List.length_map, pb.length_eq]
      omega
    have rv : Vals (bs.map V.ref) (bs.map Value.ref) := vals_refs bs
    have I2 : Inv X pins σ (upd H h'.objs.size (.lst (bs.map V.ref))) { s with heap := sortedHeap h2 h'.objs.size (as.map Value.ref) (bs.map Value.ref).toArray, toks := tk } :=
      I1.take (h' := sortedHeap h2 h'.objs.size (as.map Value.ref) (bs.map Value.ref).toArray) (t' := tk) (fun b ob _ e => e) (I.fpOk (Nat.le_of_lt hlt) hn0) ⟨hlen, bs.map Value.ref, eF, rv, heF⟩
    obtain ⟨H2, I3, g, qt⟩ := DX.takeT (P := fun b vs => vs = [.str (k (.ref b)).1, .int (k (.ref b)).2]) I as _ I2 nd fun b hb => by
      obtain ⟨j, hj⟩ := List.mem_iff_getElem?.mp hb
      obtain ⟨e, he, _, t, u, hg⟩ := pr j b hj
      have ek : k (.ref b) = e := by
        have := hkv j b hj
        rw [he] at this
        exact Option.some.inj this
      have hbl : s.heap.objs.size ≤ b := Nat.le_of_lt (hG.above b hb)
      refine ⟨hbl, ?_, _, rfl, fun H3 => ⟨(by show 2 ≤ sizeLine; decide), [Value.str e.1 t, Value.int e.2 u], ?_, ⟨_, kF _ _ (ne0 _ _ hg) (ka _ _ hg), rfl, 0, rfl⟩⟩⟩
      · rw [upd_ne (ne0 _ _ hg)]
        exact I.hok.fresh hbl
      · rw [ek]
        exact .cons ⟨t, rfl⟩ (.cons ⟨u, rfl⟩ .nil)
    have gr : ∀ b o, H b = some o → H2 b = some o := fun b o e => g b o (by rw [upd_ne (ne_of_none e hn0)]; exact e)
    refine ⟨.ref h'.objs.size, H2, I3, rfl, q H2 h'.objs.size (bs.map fun b => (b, k (.ref b))) gr hn0 pRows sRows ?_ fun z' hz' => ?_⟩
    · rw [List.map_map]
      exact g _ _ upd_same
    · obtain ⟨b, hb, rfl⟩ := List.mem_map.mp hz'
      obtain ⟨vs, ev, hH⟩ := qt b (pb.mem_iff.mp hb)
      rw [hH, ev]
end
end Fm
/-! sorted(xs, key=f), f a def of the text -/
namespace Fm
open PySem PySem.Spec PyProof.Rows L2
/-- keys of one kind, and their order -/
structure KOrd (prog : Program) (w : World) (keys : List Value) (ltk : Value → Value → Bool) : Prop where
  swo : SrtO.Swo ltk
  kind : 2 ≤ keys.length → keyKind' keys.toArray = pure oneType'
  cmp : ∀ A s, SrtO.Cmp prog w A s oneType' (fun p => p.1 ∈ keys) (SrtO.lt2 ltk)
theorem kord_ints {prog : Program} {w : World} {keys : List Value} {ns : List Int} (h : IntsAre keys ns) : KOrd prog w keys SrtO.ltIv := by
  refine ⟨SrtO.swo_int, fun h2 => ?_, fun A s => SrtO.int_cmp h⟩
  match keys, h, h2 with
  | v1 :: v2 :: rest, h, _ => exact keyKind_ints h
  | [], _, h => exact absurd h (by decide)
  | [v], _, h => exact absurd h (by simp)
def sv : Value → List Nat
  | .str x _ => x.cps.toList
  | _ => []
def ltSv (v u : Value) : Bool := decide (sv v < sv u)
theorem swo_str : SrtO.Swo ltSv := by
  refine ⟨fun x y h => ?_, fun x y z h1 h2 => ?_⟩
  · have a := of_decide_eq_true (p := sv x < sv y) h
    exact decide_eq_false (p := sv y < sv x) (List.lt_asymm a)
  · have a := of_decide_eq_false (p := sv y < sv x) h1
    have b := of_decide_eq_false (p := sv z < sv y) h2
    exact decide_eq_false (p := sv z < sv x) (List.not_lt.mpr (List.le_trans (List.not_lt.mp a) (List.not_lt.mp b)))
theorem strs_mem : ∀ {vs : List Value} {ns : List Str}, StrsAre vs ns → ∀ v ∈ vs, ∃ i t, v = Value.str i t
  | _, _, .nil, v, h => absurd h (by simp)
  | _, _, .cons n t r, v, h => by
    rcases List.mem_cons.mp h with e | h
    · exact ⟨n, t, e⟩
    · exact strs_mem r v h
theorem kord_strs {prog : Program} {w : World} {keys : List Value} {ns : List Str} (h : StrsAre keys ns) : KOrd prog w keys ltSv := by
  refine ⟨swo_str, fun h2 => ?_, fun A s p q hm hm' => ?_⟩
  · match keys, h, h2 with
    | v1 :: v2 :: rest, h, _ => exact keyKind_strs h
    | [], _, h => exact absurd h (by decide)
    | [v], _, h => exact absurd h (by simp)
  · obtain ⟨a, t, e⟩ := strs_mem h _ hm
    obtain ⟨b, u, e'⟩ := strs_mem h _ hm'
    show wpAny (model prog w) A (keyLt' oneType' p.1 q.1) (fun r s' => s' = s ∧ r = ltSv p.1 q.1) (fun _ _ => False) s
    rw [e, e', keyLt'_oneType]
    exact oneLt_str ⟨rfl, rfl⟩
section
variable {prog : Program} {w : World} {A : Around} {E : Value → Shared → Prop} {s : Shared}
/-- the list written anew -/
theorem key_tail {a kS : Addr} {e e1 : Nat} {vs keys : List Value} {st : SortSt} {R : PySem.Fin → Shared → Prop} (hl : keys.length = vs.length) (hz : vs.length ≤ sizeLine) (hka : kS ≠ a)
    (hk : s.heap.get? kS = some (seqObj "list" keys.toArray e)) (ha : s.heap.get? a = some (seqObj "list" #[] e1)) (hp : (arrOf st).toList.Perm (keys.zip vs)) (hfl : failedOf st = none)
    (h : ∀ hm h' : Heap, (∀ b o, b ≠ kS → s.heap.get? b = some o → hm.get? b = some o) → (∃ n, hm.get? kS = some (seqObj "list" #[] n)) → (∀ b o, b ≠ a → hm.get? b = some o → h'.get? b = some o) → (∃ n, h'.get? a = some (seqObj "list" ((arrOf st).toList.map (·.2)).toArray n)) → R (.done (.ret .none)) { s with heap := h' }) :
    wpAny (model prog w) A (ksk_tail a false e1 (.ref kS) st) R E s := by
  have hsz2 : (arrOf st).size = vs.length := by
    rw [← Array.length_toList, hp.length_eq, List.length_zip]
    omega
  have s1 := Heap.SameBut.update s.heap kS (Obj.mapSeq fun _ => (#[] : Array Value))
  have ha1 : (s.heap.update kS (Obj.mapSeq fun _ => (#[] : Array Value))).get? a = some (seqObj "list" #[] e1) := (s1.2 a hka.symm).trans ha
  have s2 := Heap.SameBut.update (s.heap.update kS (Obj.mapSeq fun _ => (#[] : Array Value))) a (Obj.mapSeq fun _ => (arrOf st).map (·.2))
  obtain ⟨c2, hc2⟩ : ∃ c2, ((s.heap.update kS (Obj.mapSeq fun _ => (#[] : Array Value))).update a (Obj.mapSeq fun _ => (arrOf st).map (·.2))).get? a = some (seqObj "list" ((arrOf st).map (·.2)) c2) := ⟨_, get?_update_seq ha1 fun _ => (arrOf st).map (·.2)⟩
  unfold ksk_tail
  try dsimp only
  refine wpAny_bind (listUpdate_at hk rfl ?_ (by rw [List.size_toArray, hl]; exact hz) (Nat.zero_le _))
  refine wpAny_bind (wpAny_letGo ?_)
  refine wpAny_bind (seqEpoch_at ha1 rfl ?_)
  refine wpAny_bind (listUpdate_at ha1 rfl ?_ (Nat.zero_le _) (by simp only [Bool.false_eq_true, if_false, Array.size_map]; omega))
  rw [hfl]
  simp only [bne_self_eq_false, Bool.false_eq_true, if_false]
  refine wpAny_pure (h _ _ (fun b o hb2 z => (s1.2 b hb2).trans z) ⟨_, get?_update_seq hk fun _ => #[]⟩ (fun b o hb z => (s2.2 b hb).trans z) ⟨c2, ?_⟩)
  rw [hc2, ← Array.toList_map, Array.toArray_toList]
/-- behind the keys: the sort, and the list written anew -/
theorem key_end {a kS : Addr} {e e1 : Nat} {vs keys : List Value} {ltk : Value → Value → Bool} {R : PySem.Fin → Shared → Prop} (O : KOrd prog w keys ltk) (hl : keys.length = vs.length) (hz : vs.length ≤ sizeLine) (hka : kS ≠ a)
    (hk : s.heap.get? kS = some (seqObj "list" keys.toArray e)) (ha : s.heap.get? a = some (seqObj "list" #[] e1))
    (h : ∀ (hm h' : Heap) (out : List Keyed), SrtO.Srtd (SrtO.lt2 ltk) out → out.Perm (keys.zip vs) → (∀ b o, b ≠ kS → s.heap.get? b = some o → hm.get? b = some o) → (∃ n, hm.get? kS = some (seqObj "list" #[] n)) → (∀ b o, b ≠ a → hm.get? b = some o → h'.get? b = some o) → (∃ n, h'.get? a = some (seqObj "list" (out.map (·.2)).toArray n)) → R (.done (.ret .none)) { s with heap := h' }) :
    wpAny (model prog w) A (ksk_end a false vs.toArray e1 (.ref kS) keys.toArray) R E s := by
  have hzl : (keys.toArray.zip vs.toArray).toList = keys.zip vs := by simp
  unfold ksk_end
  try dsimp only
  simp only [Bool.false_eq_true, if_false]
  by_cases h2 : vs.toArray.size < 2
  · rw [if_pos h2, if_pos h2]
    refine wpAny_bind (wpAny_pure ?_)
    rw [StateT.run_pure]
    refine wpAny_bind (wpAny_pure ?_)
    try dsimp only
    refine key_tail (st := SortSt.mk' general' (keys.toArray.zip vs.toArray) #[] 7 none) hl hz hka hk ha (by show (keys.toArray.zip vs.toArray).toList.Perm _; rw [hzl]) rfl fun hm h' k1 k2 k3 k4 => h hm h' _ ?_ ?_ k1 k2 k3 k4
    · show List.Pairwise _ (keys.toArray.zip vs.toArray).toList
      rw [hzl]
      rw [List.size_toArray] at h2
      match keys, vs, hl, h2 with
      | [], [], _, _ => exact List.Pairwise.nil
      | [x], [y], _, _ => exact List.pairwise_singleton _ _
      | _ :: _ :: _, _ :: _ :: _, _, h2 => exact absurd h2 (by simp)
    · show (keys.toArray.zip vs.toArray).toList.Perm _
      rw [hzl]
  · rw [if_neg h2, if_neg h2]
    rw [List.size_toArray] at h2
    rw [O.kind (by omega)]
    refine wpAny_bind (wpAny_pure ?_)
    have hall : SrtO.AllL (fun p : Keyed => p.1 ∈ keys) (keys.toArray.zip vs.toArray).toList := fun p hm => by
      rw [hzl] at hm
      exact (List.of_mem_zip (show (p.1, p.2) ∈ keys.zip vs from hm)).1
    refine wpAny_bind (wpAny_mono (SrtO.wpS_sortO (st0 := SortSt.mk' oneType' (keys.toArray.zip vs.toArray) #[] 7 none)
      (Q := fun _ st' => SrtO.Srtd (SrtO.lt2 ltk) (arrOf st').toList ∧ SrtO.Stb (SrtO.lt2 ltk) (arrOf st').toList (keys.toArray.zip vs.toArray).toList ∧ failedOf st' = none) (SrtO.swo2 O.swo) (O.cmp A s) rfl hall rfl rfl fun st' a1 a2 a3 => ⟨a1, a2, a3⟩) ?_ fun _ _ e => e)
    rintro ⟨⟨⟩, st'⟩ s' ⟨rfl, hp1, hp2, hf⟩
    try dsimp only
    have hp3 := hp2.perm
    rw [hzl] at hp3
    exact key_tail hl hz hka hk ha hp3 hf fun hm h' k1 k2 k3 k4 => h hm h' _ hp1 hp3 k1 k2 k3 k4
end
/-- the order of keys -/
def ltV : V → V → Bool
  | .int i, .int j => decide (i < j)
  | .str x, .str y => decide (x.cps.toList < y.cps.toList)
  | _, _ => false
def KeysV (ks : List V) : Prop := (∃ ns : List Int, ks = ns.map V.int) ∨ (∃ xs : List Str, ks = xs.map V.str)
theorem strs_of_vals : ∀ {xs : List Str} {us : List Value}, Vals (xs.map V.str) us → StrsAre us xs
  | [], _, h => by
    cases h
    exact .nil
  | x :: xs, _, h => by
    cases h with
    | cons r t =>
      obtain ⟨k, rfl⟩ := (show ∃ k, _ = Value.str x k from r)
      exact .cons x k (strs_of_vals t)
theorem kord_of {prog : Program} {w : World} {ks : List V} {us : List Value} (h : KeysV ks) (r : Vals ks us) : ∃ ltk, KOrd prog w us ltk ∧ ∀ (i j : Nat) (k l : V) (u v : Value), ks[i]? = some k → ks[j]? = some l → RelV k u → RelV l v → ltk u v = ltV k l := by
  rcases h with ⟨ns, rfl⟩ | ⟨xs, rfl⟩
  · refine ⟨SrtO.ltIv, kord_ints r.ints, fun i j k l u v hk hl ru rv => ?_⟩
    rw [List.getElem?_map] at hk hl
    obtain ⟨n, _, rfl⟩ := Option.map_eq_some_iff.mp hk
    obtain ⟨m, _, rfl⟩ := Option.map_eq_some_iff.mp hl
    obtain ⟨t, rfl⟩ := (show ∃ t, u = Value.int n t from ru)
    obtain ⟨t', rfl⟩ := (show ∃ t, v = Value.int m t from rv)
    rfl
  · refine ⟨ltSv, kord_strs (strs_of_vals r), fun i j k l u v hk hl ru rv => ?_⟩
    rw [List.getElem?_map] at hk hl
    obtain ⟨n, _, rfl⟩ := Option.map_eq_some_iff.mp hk
    obtain ⟨m, _, rfl⟩ := Option.map_eq_some_iff.mp hl
    obtain ⟨t, rfl⟩ := (show ∃ t, u = Value.str n t from ru)
    obtain ⟨t', rfl⟩ := (show ∃ t, v = Value.str m t from rv)
    rfl
section
variable {X : Cx} {n : Nat} {f : Addr} {sp : Sp}
def rSortK (K : PySem.W.Frag) (f : Addr) (sp : Sp) : List V → List V → Hp → VK → Prop := fun vs zs H Q => ∃ (a : Addr) (xs ks : List V), vs = [.ref a] ∧ zs = [.ref f] ∧ (SqL K H a xs ∨ SqT K H a xs) ∧ ks.length = xs.length ∧ KeysV ks ∧
  (∀ (i : Nat) (x k : V), xs[i]? = some x → ks[i]? = some k → ∀ Q' : VK, Q' k H → sp [x] H Q' E0) ∧
  ∀ (ps : List (V × V)) (p : Addr) (H' : Hp), ps.Perm (ks.zip xs) → ps.Pairwise (fun p q => ltV q.1 p.1 = false) → H p = none → (∀ b o, H b = some o → H' b = some o) → H' p = some (.lst (ps.map (·.2))) → Q (.ref p) H'
/-- the keys, one by one -/
theorem key_loop {pins : List (Addr × Obj)} {s : Shared} {σ : L2.St} {H : Hp} {a kS : Addr} {e1 : Nat} {xs ks : List V} {us : List Value} {R : PySem.Fin → Shared → Prop} {A : Around} {E : Value → Shared → Prop}
    (F : FnR X.prog X.w X.K X.mg X.base CX0 n f sp) (hA : A = X.A.in1.in1) (hr : Room n A) (hx : Passes CX0 X E0) (hl : ks.length = xs.length) (hv : Vals xs us) (hz : xs.length ≤ sizeLine)
    (hsp : ∀ (i : Nat) (x k : V), xs[i]? = some x → ks[i]? = some k → ∀ Q' : VK, Q' k H → sp [x] H Q' E0) (hka : kS ≠ a) (fa : FpOk X pins H a) (fk : FpOk X pins H kS)
    (I : Inv X (pins ++ [(kS, seqObj "list" #[] 0), (a, seqObj "list" #[] e1)]) σ H s)
    (h : ∀ (s' : Shared) (keys : List Value) (e : Nat), Inv X (pins ++ [(kS, seqObj "list" keys.toArray e), (a, seqObj "list" #[] e1)]) σ H s' → Vals ks keys → wpAny (model X.prog X.w) A (ksk_end a false us.toArray e1 (.ref kS) keys.toArray) R E s') :
    wpAny (model X.prog X.w) A (ksk_rest a (.ref f) false us.toArray e1 (.ref kS)) R E s := by
  have hlu : us.length = xs.length := hv.length.symm
  unfold ksk_rest
  refine wpAny_bind (wpAny_rule ?_)
  rw [List.forIn_toArray]
  refine wpAny_bind (ksk_fold (fun i s' => ∃ (kA : List Value) (e : Nat), Inv X (pins ++ [(kS, seqObj "list" kA.toArray e), (a, seqObj "list" #[] e1)]) σ H s' ∧ Vals (ks.take i) kA) us 0 s ⟨[], 0, I, by simpa using Paired.nil⟩ ?step ?done)
  case step =>
    rintro j x s' hx' ⟨kA, e, I', hk⟩
    simp only [Nat.zero_add] at hk ⊢
    have hj : j < us.length := (List.getElem?_eq_some_iff.mp hx').1
    obtain ⟨k, hkj⟩ : ∃ k, ks[j]? = some k := ⟨_, List.getElem?_eq_getElem (by omega)⟩
    obtain ⟨xv, hxj, rx⟩ : ∃ xv, xs[j]? = some xv ∧ RelV xv x := by
      have hjx : j < xs.length := by omega
      obtain ⟨u, hu, ru⟩ := hv.get (List.getElem?_eq_getElem hjx)
      rw [hx'] at hu
      cases hu
      exact ⟨_, List.getElem?_eq_getElem hjx, ru⟩
    have e0 : Env0 X.prog X.w X.K X.mg X.base A X.stack s' H := by
      rw [hA]
      exact I'.env0.in1.in1
    have hc : codeAny (model X.prog X.w) A (.call (.ref f) ⟨[x], []⟩) (fun r s'' => match r with | .ok (.ret u) => EP X (pins ++ [(kS, seqObj "list" kA.toArray e), (a, seqObj "list" #[] e1)]) σ (fun v H' => v = k ∧ H' = H) u s'' | .ok _ => False | .error _ => False) s' := by
      refine codeAny_mono (F A X.stack s' H [x] [xv] (fun v H' => v = k ∧ H' = H) E0 hr e0 (.cons rx .nil) (hsp j xv k hxj hkj _ ⟨rfl, rfl⟩)) fun r s'' hq => ?_
      cases r with
      | error e => exact hq
      | ok fl =>
        cases fl with
        | ret u => exact I'.after hq
        | next => exact hq
        | brk => exact hq
        | cont => exact hq
    refine wpAny_bind (wpAny_attempt (wpAny_mono (wpAny_call (E := fun _ _ => False) hc) (fun u s'' he => ?_) fun _ _ hF => hF.elim))
    obtain ⟨v, H'', I2, ru, rfl, rfl⟩ := he
    obtain ⟨nk, hnk, k1, k2, k3⟩ := I2.pin (kS, seqObj "list" kA.toArray e) (by simp)
    obtain ⟨na, hna, a1, a2, a3⟩ := I2.pin (a, seqObj "list" #[] e1) (by simp)
    obtain ⟨g, gg, gd, gt, gos⟩ := s''
    have s1 := Heap.SameBut.update g kS (Obj.mapSeq (·.push u))
    obtain ⟨c2, hc2⟩ : ∃ c2, (g.update kS (Obj.mapSeq (·.push u))).get? kS = some (seqObj "list" (kA.toArray.push u) c2) := ⟨_, get?_update_seq nk (·.push u)⟩
    have hkl : kA.length ≤ xs.length := by
      have := hk.length
      rw [List.length_take] at this
      omega
    refine wpAny_bind (listUpdate_at nk rfl ?_ (by rw [List.size_toArray]; omega) (by rw [Array.size_push, List.size_toArray]; omega))
    have hpush : kA.toArray.push u = (kA ++ [u]).toArray := by simp
    refine wpAny_pure ⟨rfl, kA ++ [u], c2, ?_, ?_⟩
    · have I3 : Inv X pins σ H'' ⟨g, gg, gd, gt, gos⟩ := I2.unpinned
      obtain ⟨f0, f1, f2, f3, f4, f5⟩ := fk
      have I4 : Inv X pins σ H'' ⟨g.update kS (Obj.mapSeq (·.push u)), gg, gd, gt, gos⟩ := I3.turned (t' := gt) (fun b o hb z => (s1.2 b hb).trans z) f0 f1 f3 f4 f5
      refine I4.pins_of fun p hp => ?_
      rcases List.mem_append.mp hp with hp | hp
      · exact I4.pin p (List.mem_append_right _ hp)
      · rcases List.mem_cons.mp hp with rfl | hp
        · exact ⟨by rw [← hpush]; exact hc2, hnk, k1, k2, fun v z => nomatch z⟩
        · rw [List.mem_singleton.mp hp]
          exact ⟨(s1.2 a hka.symm).trans na, hna, a1, a2, fun v z => nomatch z⟩
    · rw [List.take_add_one, hkj]
      exact hk.append (.cons ru .nil)
  case done =>
    rintro s' ⟨kA, e, I', hk⟩
    have e3 : ks.take (0 + us.length) = ks := List.take_of_length_le (by omega)
    rw [e3] at hk
    obtain ⟨nk, _⟩ := I'.pin (kS, seqObj "list" kA.toArray e) (by simp)
    refine wpAny_bind (listItems_at nk rfl ?_)
    exact h s' kA e I' hk
/-- sorted(xs, key=f) -/
theorem cr_sortKey (F : FnR X.prog X.w X.K X.mg X.base CX0 n f sp) (hr : Room (n + 2) X.A) : CallRK X (.builtin "sorted") [Str.ofString "key"] (rSortK X.K f sp) := by
  intro pins s σ H vs zs us ws Q I r rz h
  obtain ⟨a, xs, ks, rfl, rfl, hS, hl, hK, hsp, q⟩ := h
  obtain rfl := Vals.ref1 r
  obtain rfl := Vals.ref1 rz
  obtain ⟨its, rv, hz, T, o, m, hT, ho, hc, hd⟩ : ∃ its : List Value, Vals xs its ∧ xs.length ≤ sizeLine ∧ ∃ (T : String) (o : Obj) (m : Nat), (T = "list" ∨ T = "tuple") ∧ s.heap.get? a = some o ∧ o.cls = .type T ∧ o.data = .seq its.toArray m := by
    rcases hS with hS | hS
    · obtain ⟨its, rv, p, hz⟩ := I.list hS
      obtain ⟨o, ho, hc, m, hd⟩ := p.isList
      exact ⟨its, rv, hz, "list", o, m, .inl rfl, ho, hc, hd⟩
    · obtain ⟨its, rv, ⟨o, ho, hc, m, hd⟩, hz⟩ := I.tuple hS
      exact ⟨its, rv, hz, "tuple", o, m, .inr rfl, ho, hc, hd⟩
  have hil : its.length = xs.length := rv.length.symm
  refine call_function_entry_kw kind_sorted plain_sorted entry_sorted (ksk_s1 _ _) ?_
  unfold Builtin.«sorted»
  refine wpAny_bind (m := checkCount "sorted" 1 1 _) (wpAny_pure ?_)
  refine wpAny_bind (wpAny_collect_seq a hT ho hc hd (fun h1 k1 => ?_) (by rw [List.size_toArray]; omega))
  refine wpAny_bind (wpAny_newList ?_ (by rw [List.toList_toArray]; omega))
  rw [List.toList_toArray]
  have I1 : Inv X pins σ H { s with heap := h1 } := I.kept (t' := s.toks) k1
  have fa : FpOk X pins H h1.objs.size := I1.fpOk (Nat.le_refl _) (I1.hok.fresh (Nat.le_refl _))
  have hoL : (h1.push (seqObj "list" its.toArray 0)).get? h1.objs.size = some (seqObj "list" its.toArray 0) := Heap.get?_push_size _ rfl
  show wpAny _ _ _ _ _ { s with heap := h1.push (seqObj "list" its.toArray 0) }
  refine wpAny_bind (wpAny_holding (wpAny_call_entry_kw slot_list_sort ⟨_, hoL, rfl⟩ entry_list_sort ?_ (ksk_l1 _ _)))
  show wpAny _ _ (ksk_tree h1.objs.size (.ref f) false) _ _ _
  unfold ksk_tree
  refine wpAny_bind (listItems_at hoL rfl ?_)
  refine wpAny_bind (listUpdate_at hoL rfl ?_ (by rw [List.size_toArray]; omega) (Nat.zero_le _))
  obtain ⟨e1, ho1⟩ : ∃ e1, ((h1.push (seqObj "list" its.toArray 0)).update h1.objs.size (Obj.mapSeq fun _ => #[])).get? h1.objs.size = some (seqObj "list" #[] e1) := ⟨_, get?_update_seq hoL (fun _ => #[])⟩
  refine wpAny_bind (seqEpoch_at ho1 rfl ?_)
  refine wpAny_bind (wpAny_newTuple ?_ (by rw [List.toList_toArray]; omega))
  refine wpAny_bind (wpAny_newList ?_ (Nat.zero_le _))
  refine wpAny_holding ?_
  have k2 : ∀ b o, h1.get? b = some o → ((h1.push (seqObj "list" its.toArray 0)).update h1.objs.size (Obj.mapSeq fun _ => #[])).get? b = some o := fun b o z => by
    rw [Heap.get?_update_ne _ _ _ _ (Nat.ne_of_lt (Heap.lt_size z))]
    exact Heap.get?_push_of_some _ z
  have z2 : ((h1.push (seqObj "list" its.toArray 0)).update h1.objs.size (Obj.mapSeq fun _ => #[])).objs.size = h1.objs.size + 1 := by
    rw [Heap.size_update, Heap.size_push]
  generalize (h1.push (seqObj "list" its.toArray 0)).update h1.objs.size (Obj.mapSeq fun _ => #[]) = h2 at ho1 k2 z2 ⊢
  have hkS : ((h2.push (seqObj "tuple" its.toArray 0)).push (seqObj "list" #[] 0)).get? (h2.objs.size + 1) = some (seqObj "list" #[] 0) := by
    rw [show h2.objs.size + 1 = (h2.push (seqObj "tuple" its.toArray 0)).objs.size by rw [Heap.size_push]]
    exact Heap.get?_push_size _ rfl
  have k3 : ∀ b o, h2.get? b = some o → ((h2.push (seqObj "tuple" its.toArray 0)).push (seqObj "list" #[] 0)).get? b = some o := fun b o z => Heap.get?_push_of_some _ (Heap.get?_push_of_some _ z)
  show wpAny (model X.prog X.w) X.A.in1.in1 (ksk_rest h1.objs.size (.ref f) false its.toArray e1 (.ref (h2.push (seqObj "tuple" its.toArray 0)).objs.size)) _ _ { s with heap := (h2.push (seqObj "tuple" its.toArray 0)).push (seqObj "list" #[] 0) }
  rw [Heap.size_push]
  generalize (h2.push (seqObj "tuple" its.toArray 0)).push (seqObj "list" #[] 0) = h3 at hkS k3 ⊢
  have fk : FpOk X pins H (h2.objs.size + 1) := I1.fpOk (show h1.objs.size ≤ h2.objs.size + 1 by omega) (I1.hok.fresh (show h1.objs.size ≤ h2.objs.size + 1 by omega))
  have I3 : Inv X pins σ H { s with heap := h3 } := I1.kept (t' := s.toks) fun b o z => k3 _ _ (k2 _ _ z)
  have hka : h2.objs.size + 1 ≠ h1.objs.size := by omega
  have I4 : Inv X (pins ++ [(h2.objs.size + 1, seqObj "list" #[] 0), (h1.objs.size, seqObj "list" #[] e1)]) σ H { s with heap := h3 } := by
    refine I3.pins_of fun p hp => ?_
    rcases List.mem_append.mp hp with hp | hp
    · exact I3.pin p (List.mem_append_right _ hp)
    · rcases List.mem_cons.mp hp with rfl | hp
      · exact ⟨hkS, fk.1, fk.2.1, fk.2.2.1, fun v z => nomatch z⟩
      · rw [List.mem_singleton.mp hp]
        exact ⟨k3 _ _ ho1, fa.1, fa.2.1, fa.2.2.1, fun v z => nomatch z⟩
  refine key_loop F rfl (show Room n X.A.in1.in1 from (show Room (n + 1) X.A.in1 from Room.in1 hr).in1) pass0 hl rv hz hsp hka fa fk I4 fun s' keys e I5 rk => ?_
  obtain ⟨ltk, O, hlt⟩ := kord_of (prog := X.prog) (w := X.w) hK rk
  obtain ⟨nk, _⟩ := I5.pin (h2.objs.size + 1, seqObj "list" keys.toArray e) (by simp)
  obtain ⟨na, _⟩ := I5.pin (h1.objs.size, seqObj "list" #[] e1) (by simp)
  refine key_end O (by rw [← rk.length]; omega) (by omega) hka nk na fun hm h' out o1 o2 m1 m2 m3 m4 => ⟨_, rfl, wpAny_pure ⟨_, rfl, ?_⟩⟩
  obtain ⟨n1, m2⟩ := m2
  obtain ⟨n2, m4⟩ := m4
  -- back to values
  obtain ⟨L, pL, eL⟩ := perm_lift (fun z : (V × V) × Keyed => z.2) o2 ((ks.zip xs).zip (keys.zip its)) (by rw [List.map_snd_zip]; simp only [List.length_zip]; have := rk.length; omega)
  have hrel : ∀ z ∈ L, RelV z.1.1 z.2.1 ∧ RelV z.1.2 z.2.2 ∧ ∃ i : Nat, ks[i]? = some z.1.1 := by
    intro z hz'
    obtain ⟨i, hi⟩ := List.mem_iff_getElem?.mp (pL.mem_iff.mp hz')
    obtain ⟨h1', h2'⟩ := List.getElem?_zip_eq_some.mp hi
    obtain ⟨a1, a2⟩ := List.getElem?_zip_eq_some.mp h1'
    obtain ⟨b1, b2⟩ := List.getElem?_zip_eq_some.mp h2'
    obtain ⟨u, c1, c2⟩ := rk.get a1
    rw [b1] at c1
    cases c1
    obtain ⟨u', d1, d2⟩ := rv.get a2
    rw [b2] at d1
    cases d1
    exact ⟨c2, d2, i, a1⟩
  have I6 : Inv X pins σ H s' := I5.unpinned
  have I7 : Inv X pins σ (upd H (h2.objs.size + 1) (.lst [])) { s' with heap := hm } := I6.take (h' := hm) (t' := s'.toks) (fun b o hb z => m1 b o hb z) fk ⟨Nat.zero_le _, [], n1, .nil, m2⟩
  have fa' : FpOk X pins (upd H (h2.objs.size + 1) (.lst [])) h1.objs.size := ⟨by rw [upd_ne hka.symm]; exact fa.1, fa.2⟩
  have rv' : Vals ((L.map (·.1)).map (·.2)) (out.map (·.2)) := by
    rw [← eL, List.map_map, List.map_map]
    clear eL pL o1 o2 m4
    induction L with
    | nil => exact .nil
    | cons z L ih => exact .cons (hrel z (by simp)).2.1 (ih fun y hy => hrel y (by simp [hy]))
  have hlen : ((L.map (·.1)).map (·.2)).length ≤ sizeLine := by
    rw [List.length_map, List.length_map, pL.length_eq, List.length_zip, List.length_zip]
    omega
  have I8 : Inv X pins σ (upd (upd H (h2.objs.size + 1) (.lst [])) h1.objs.size (.lst ((L.map (·.1)).map (·.2)))) { s' with heap := h' } :=
    I7.take (h' := h') (t' := s'.toks) (fun b o hb z => m3 b o hb z) fa' ⟨hlen, out.map (·.2), n2, rv', m4⟩
  refine ⟨.ref h1.objs.size, _, I8, rfl, q (L.map (·.1)) h1.objs.size _ ?_ ?_ fa.1 (fun b o z => ?_) upd_same⟩
  · have := pL.map (·.1)
    rwa [List.map_fst_zip (by simp only [List.length_zip]; have := rk.length; omega)] at this
  · rw [List.pairwise_map]
    have o1' := o1
    rw [← eL] at o1'
    have o3 := List.pairwise_map.mp o1'
    refine List.Pairwise.imp_of_mem (fun {x y} hx hy h => ?_) o3
    obtain ⟨x1, _, i, hi⟩ := hrel x hx
    obtain ⟨y1, _, j, hj⟩ := hrel y hy
    rw [← hlt j i _ _ _ _ hj hi y1 x1]
    exact h
  · rw [upd_ne (fun z' => by rw [z', fa.1] at z; cases z), upd_ne (fun z' => by rw [z', fk.1] at z; cases z)]
    exact z
end
end Fm
/-! != of an instance whose class has an __eq__ of its own alone -/
namespace Fm
open PySem PySem.Spec PyProof.Rows L2 SlX
section
variable {prog : Program} {w : PySem.World} {A : Around} {E : Value → Shared → Prop} {s : Shared} {K : PySem.W.Frag} {x C f : Addr} {ox : Obj} {od : Option Obj} {b tb : Value}
theorem objNe (X : K.In s.heap) (I : PySem.W.InstAt s.heap x ox C od) (he : PySem.W.findIn K (.ref C) "__eq__" = some (some (.ref f))) (hf : PySem.W.isFn K (.ref f) = true) (hu : A.units < cLine) {Q : PySem.Fin → Shared → Prop}
    (hc : wpAny (model prog w) A (call (.ref f) [.ref x, b]) (fun v s' => ∃ k, v = .bool k ∧ Q (.done (.ret (.bool (!k)))) s') E s) : wpAny (model prog w) A (Builtin.«object.__ne__» ⟨[.ref x, b], []⟩) Q E s := by
  unfold Builtin.«object.__ne__»
  repeat (first
    | with_reducible refine wpAny_cRoomFor hu ?_
    | (refine wpAny_bind (m := callSpecialIfBound? (.ref x) (Str.ofString "__eq__") [b]) (PySem.W.ifBound_K X I he hf (wpAny_mono hc (fun r s' hr => by
          obtain ⟨k, rfl, q⟩ := hr
          repeat (first | exact q | exact wpAny_pure q | exact wpAny_truthy_bool q | (refine wpAny_bind (m := truthy (.bool _)) (wpAny_truthy_bool ?_)) | wp_step)) fun _ _ z => z)))
    | wp_step)
theorem ne_own {Q : Value → Shared → Prop} (hu : A.units + 1 < cLine) (X : K.In s.heap) (I : PySem.W.InstAt s.heap x ox C od) (hb : PySem.W.Looks (model prog w) s.heap (typeOf b) tb) (hn : PySem.W.notFirst K C tb = true)
    (hs : PySem.W.findIn K (.ref C) "__ne__" = some (some (.builtin "object.__ne__"))) (hm : PySem.W.mroIn K C (.type "object") = some true) (he : PySem.W.findIn K (.ref C) "__eq__" = some (some (.ref f))) (hf : PySem.W.isFn K (.ref f) = true)
    (h : wpAny (model prog w) A.in1 (call (.ref f) [.ref x, b]) (fun v s' => ∃ k, v = .bool k ∧ Q (.bool (!k)) s') E s) : wpAny (model prog w) A (richCompare .NotEq (.ref x) b) Q E s := by
  have sub : PySem.W.Looks (model prog w) s.heap (isInstance (.ref x) (.type "object")) true := I.type.andThen (PySem.W.looks_mroIn X hm)
  have body : wpAny (model prog w) A (call (.builtin "object.__ne__") [.ref x, b]) (fun v s' => v ≠ .notImplemented ∧ Q v s') E s := by
    refine wpAny_call (codeAny_call_builtin PySem.F.cmp_object.ne.plain PySem.F.cmpEntry_ne (@PySem.W.check_slot (model prog w) _ _ s "object.__ne__" "object" "__ne__" (.ref x) [b] [] _ PySem.F.cmpKind_ne PySem.F.cmpSplit_ne sub (PySem.F.cmpArgs_ne _ _) ?_))
    refine objNe (A := A.in1) X I he hf hu (wpAny_mono h (fun v s' hv => ?_) fun _ _ z => z)
    obtain ⟨k, rfl, q⟩ := hv
    exact ⟨k, rfl, (fun z => nomatch z), q⟩
  have one : wpAny (model prog w) A (tryCompare (.ref x) (cmpInfo .NotEq).2.1 b) (fun r s' => ∃ v, r = some v ∧ Q v s') E s := by
    unfold tryCompare
    refine wpAny_bind ?_
    simp only [callSpecialIfBound?, bindSpecialIfBound?]
    refine wpAny_holding (wpAny_bind (wpAny_bind (wpAny_bind (I.type.here ((PySem.W.looks_findIn X (show PySem.W.findIn K (.ref C) (cmpInfo .NotEq).2.1 = _ from hs)).here ?_)))))
    refine wpAny_bind (wpAny_askSetting (wpAny_ite ?_))
    split
    · rw [PySem.F.cmp_object.ne.bind]
      refine wpAny_bind (wpAny_pure (wpAny_pure ?_))
      show wpAny _ _ (call (.builtin "object.__ne__") [.ref x, b] >>= _) _ _ _
      refine wpAny_bind (wpAny_mono body (fun v s' hv => wpAny_pure ?_) fun _ _ z => z)
      obtain ⟨h1, h2⟩ := hv
      cases v <;> first | exact absurd rfl h1 | exact wpAny_pure ⟨_, rfl, h2⟩
    · rw [PySem.F.cmp_object.ne.bind]
      refine wpAny_tryCatch (wpAny_bind (wpAny_pure (wpAny_pure ?_)))
      show wpAny _ _ (call (.builtin "object.__ne__") [.ref x, b] >>= _) _ _ _
      refine wpAny_bind (wpAny_mono body (fun v s' hv => wpAny_pure ?_) fun _ _ z => z)
      obtain ⟨h1, h2⟩ := hv
      cases v <;> first | exact absurd rfl h1 | exact wpAny_pure ⟨_, rfl, h2⟩
  unfold richCompare
  simp only [oneThing_ref]
  refine wpAny_holding (wpAny_bind (wpAny_cRoomFor (Nat.lt_of_succ_lt hu) (wpAny_bind (I.type.here (wpAny_bind (hb.here ?_))))))
  split
  · rename_i q
    have e : PySem.W.subIn K tb (.ref C) = some false := by
      rcases Bool.or_eq_true_iff.mp hn with e | e
      · rw [beq_iff_eq.mp e] at q
        simp at q
      · exact beq_iff_eq.mp e
    refine wpAny_bind ((PySem.W.looks_subIn X e).here ?_)
    simp only [Bool.false_eq_true, if_false]
    refine wpAny_bind (wpAny_mono one (fun r s' z => ?_) fun _ _ z => z)
    obtain ⟨v, rfl, hq⟩ := z
    exact wpAny_pure hq
  · refine wpAny_bind (wpAny_pure ?_)
    simp only [Bool.false_eq_true, if_false]
    refine wpAny_bind (wpAny_mono one (fun r s' z => ?_) fun _ _ z => z)
    obtain ⟨v, rfl, hq⟩ := z
    exact wpAny_pure hq
end
section
variable {X : Cx} {CX : CXT} {pins : List (Addr × Obj)} {σ : L2.St} {H : Hp} {s : Shared} {C g : Addr} {n : Nat} {sp : Sp} {E : XK}
/-- what may stand at the other side -/
def Oth (K : PySem.W.Frag) (H : Hp) (C : Addr) (y : V) : Prop := (∃ b C' dy ws, y = .ref b ∧ Slt H b C' dy ws ∧ PySem.W.notFirst K C (.ref C') = true) ∨ ∃ tb, TyX K H y tb ∧ PySem.W.notFirst K C tb = true
theorem Oth.looks {y : V} {u : Value} (I : Inv X pins σ H s) (ry : RelV y u) (h : Oth X.K H C y) : ∃ tb, PySem.W.Looks (model X.prog X.w) s.heap (typeOf u) tb ∧ PySem.W.notFirst X.K C tb = true := by
  rcases h with ⟨b, C', dy, ws, rfl, hb, hn⟩ | ⟨tb, ht, hn⟩
  · cases (show u = Value.ref b from ry)
    obtain ⟨sl, od, _, J, _⟩ := slt_inst I hb
    exact ⟨_, J.type, hn⟩
  · obtain ⟨P, kx, hp, _⟩ := kit_of I ry ht
    exact ⟨tb, kx.ty _ _ I.kIn hp, hn⟩
def rOwnG (K : PySem.W.Frag) (C : Addr) (sp : Sp) (E : XK) : R2 := fun x y H Q => ∃ a dx vs, x = .ref a ∧ Slt H a C dx vs ∧ Oth K H C y ∧ sp [x, y] H Q E
theorem op_ownG (hs : PySem.W.findIn X.K (.ref C) "__eq__" = some (some (.ref g))) (hf : PySem.W.isFn X.K (.ref g) = true) (F : FnR X.prog X.w X.K X.mg X.base CX n g sp)
    (hr : Room n X.A) (hx : Passes CX X E) : OpR X (compareOp .Eq) (rOwnG X.K C sp E) := by
  intro pins s σ H x y v u Q I rx ry h
  obtain ⟨a, dx, vs, rfl, ha, ho, q⟩ := h
  cases (show v = Value.ref a from rx)
  obtain ⟨sl, od, _, J, _⟩ := slt_inst I ha
  obtain ⟨tb, L, hn⟩ := ho.looks I ry
  obtain ⟨m, hF⟩ := I.fr
  refine PySem.W.cmp_K (op := .Eq) (tb := tb) hr.units0 hF I.ok.mod.kin J L hn hs hf ?_
  refine wpAny_mono (wpAny_call (run_fnR (us := [.ref a, u]) (vs := [.ref a, y]) F hr hx I (.cons rfl (.cons ry .nil)) q)) (fun w s' z => ?_) fun _ _ x => x
  obtain ⟨z', H', I', rz, qz⟩ := z
  exact cmpback rz ⟨z', H', I', rz, qz⟩
def rNeOwn (K : PySem.W.Frag) (C : Addr) (sp : Sp) (E : XK) : R2 := fun x y H Q => ∃ a dx vs, x = .ref a ∧ Slt H a C dx vs ∧ Oth K H C y ∧ sp [x, y] H (fun z H' => ∃ k, z = .bl k ∧ Q (.bl (!k)) H') E
theorem op_neOwn (hne : PySem.W.findIn X.K (.ref C) "__ne__" = some (some (.builtin "object.__ne__"))) (hm : PySem.W.mroIn X.K C (.type "object") = some true) (hs : PySem.W.findIn X.K (.ref C) "__eq__" = some (some (.ref g))) (hf : PySem.W.isFn X.K (.ref g) = true)
    (F : FnR X.prog X.w X.K X.mg X.base CX n g sp) (hr : Room (n + 1) X.A) (hx : Passes CX X E) : OpR X (compareOp .NotEq) (rNeOwn X.K C sp E) := by
  intro pins s σ H x y v u Q I rx ry h
  obtain ⟨a, dx, vs, rfl, ha, ho, q⟩ := h
  cases (show v = Value.ref a from rx)
  obtain ⟨sl, od, _, J, _⟩ := slt_inst I ha
  obtain ⟨tb, L, hn⟩ := ho.looks I ry
  have hu : X.A.units + 1 < cLine := by have := hr.un; omega
  refine ne_own (tb := tb) hu I.kIn J L hn hne hm hs hf ?_
  refine wpAny_mono (wpAny_call (run_at (us := [.ref a, u]) (ws := [.ref a, y]) F (Room.in1 hr) I.env0.in1 hx I (.cons rfl (.cons ry .nil)) q)) (fun w s' z => ?_) fun _ _ x => x
  obtain ⟨z', H', I', rz, k, ek, qz⟩ := z
  subst ek
  cases (show w = Value.bool k from rz)
  exact ⟨k, rfl, .bl (!k), H', I', rfl, qz⟩
end
end Fm
/-! properties, len of an instance -/
namespace Fm
open PySem PySem.Spec PyProof.Rows L2 SlX
/-- a property of a class of the text -/
structure PropAt (K : PySem.W.Frag) (C : Addr) (m q : Str) (st : Stmt) (ps : List Str) where
  f : Addr
  fd : FuncData
  F : Fun K m q st f fd
  p : Addr
  at_ : PySem.W.findIn K (.ref C) m = some (some (.ref p))
  get : PySem.W.specialIn K (.ref p) "__get__" = some (some (.builtin "property.__get__"))
  tk : PySem.W.takesIn K (.ref p) = some true
  rc : ∃ rest, PySem.W.recIn K p "property" = some (.ref f :: rest)
  b : Binds K fd ps []
section
variable {X : Cx} {CX : CXT} {C g : Addr} {n : Nat} {sp : Sp} {E : XK}
def rLenOwn (C : Addr) (sp : Sp) (E : XK) : List V → Hp → VK → Prop := fun xs H Q => ∃ a dx vs, xs = [V.ref a] ∧ Slt H a C dx vs ∧ sp [.ref a] H (fun z H' => ∃ i : Nat, z = .int i ∧ i ≤ 1000000 ∧ Q z H') E
theorem call_lenOwn (hs : PySem.W.findIn X.K (.ref C) "__len__" = some (some (.ref g))) (hf : PySem.W.isFn X.K (.ref g) = true) (F : FnR X.prog X.w X.K X.mg X.base CX n g sp) (hr : Room (n + 1) X.A) (hx : Passes CX X E) : CallR X (.builtin "len") (rLenOwn C sp E) := by
  intro pins s σ H xs us Q I r h
  obtain ⟨a, dx, vs, rfl, hsl, q⟩ := h
  obtain ⟨u, rfl, ru⟩ := r.one
  cases (show u = Value.ref a from ru)
  obtain ⟨sl, od, _, J, _⟩ := slt_inst I hsl
  obtain ⟨m, hF⟩ := I.fr
  refine PySem.W.len_K hF I.ok.mod.kin J hs hf (wpAny_mono (wpAny_call (run_at (us := [.ref a]) (ws := [.ref a]) F (Room.in1 hr) I.env0.in1 hx I (.cons rfl .nil) q)) (fun w s' z => ?_) fun _ _ x => x)
  obtain ⟨z', H', I', rz, i, ei, hi, qz⟩ := z
  subst ei
  obtain ⟨t, e⟩ := (show ∃ t, w = Value.int (i : Int) t from rz)
  subst e
  refine ⟨⟨by omega, by omega⟩, ?_⟩
  exact ⟨.int i, H', I'.tok _, ⟨_, rfl⟩, qz⟩
end
end Fm
namespace Fm
open PySem PySem.Spec PyProof.Rows L2 SlX
structure DefAt (K : PySem.W.Frag) (mg : Str → Option Value) (x : Str) (st : Stmt) (ps : List Str) where
  f : Addr
  fd : FuncData
  F : Fun K x x st f fd
  g : mg x = some (.ref f)
  b : Binds K fd ps []
def topS (i : Nat) : Stmt := PySem.Challenge.pw_framemoves_k72_rings_and_depth.main.body.getD i (.Pass ⟨0, 0, 0, 0⟩)
abbrev s_is_integer : Stmt := topS 10
abbrev N_is_integer : List Str := ["thing"]
abbrev P_is_integer : List Str := ["thing"]
theorem sc_is_integer : FnScope N_is_integer P_is_integer (defScope s_is_integer) := ⟨rfl, rfl, rfl, by decide +kernel, rfl, by decide +kernel, by decide +kernel⟩
abbrev s_is_name : Stmt := topS 11
abbrev N_is_name : List Str := ["thing", "sign"]
abbrev P_is_name : List Str := ["thing"]
theorem sc_is_name : FnScope N_is_name P_is_name (defScope s_is_name) := ⟨rfl, rfl, rfl, by decide +kernel, rfl, by decide +kernel, by decide +kernel⟩
abbrev s_is_outcome : Stmt := topS 12
abbrev N_is_outcome : List Str := ["thing"]
abbrev P_is_outcome : List Str := ["thing"]
theorem sc_is_outcome : FnScope N_is_outcome P_is_outcome (defScope s_is_outcome) := ⟨rfl, rfl, rfl, by decide +kernel, rfl, by decide +kernel, by decide +kernel⟩
abbrev s_is_term : Stmt := topS 13
abbrev N_is_term : List Str := ["thing", "waiting", "one"]
abbrev P_is_term : List Str := ["thing"]
theorem sc_is_term : FnScope N_is_term P_is_term (defScope s_is_term) := ⟨rfl, rfl, rfl, by decide +kernel, rfl, by decide +kernel, by decide +kernel⟩
abbrev s_is_term_over : Stmt := topS 14
abbrev N_is_term_over : List Str := ["many", "thing", "waiting", "one"]
abbrev P_is_term_over : List Str := ["many", "thing"]
theorem sc_is_term_over : FnScope N_is_term_over P_is_term_over (defScope s_is_term_over) := ⟨rfl, rfl, rfl, by decide +kernel, rfl, by decide +kernel, by decide +kernel⟩
abbrev s_is_within : Stmt := topS 19
abbrev N_is_within : List Str := ["thing", "most"]
abbrev P_is_within : List Str := ["thing", "most"]
theorem sc_is_within : FnScope N_is_within P_is_within (defScope s_is_within) := ⟨rfl, rfl, rfl, by decide +kernel, rfl, by decide +kernel, by decide +kernel⟩
abbrev s_are_outcomes : Stmt := topS 20
abbrev N_are_outcomes : List Str := ["thing", "outcome"]
abbrev P_are_outcomes : List Str := ["thing"]
theorem sc_are_outcomes : FnScope N_are_outcomes P_are_outcomes (defScope s_are_outcomes) := ⟨rfl, rfl, rfl, by decide +kernel, rfl, by decide +kernel, by decide +kernel⟩
abbrev s_is_act : Stmt := topS 21
abbrev N_is_act : List Str := ["thing"]
abbrev P_is_act : List Str := ["thing"]
theorem sc_is_act : FnScope N_is_act P_is_act (defScope s_is_act) := ⟨rfl, rfl, rfl, by decide +kernel, rfl, by decide +kernel, by decide +kernel⟩
abbrev s_are_different : Stmt := topS 25
abbrev N_are_different : List Str := ["many", "thing", "one"]
abbrev P_are_different : List Str := ["many", "thing"]
theorem sc_are_different : FnScope N_are_different P_are_different (defScope s_are_different) := ⟨rfl, rfl, rfl, by decide +kernel, rfl, by decide +kernel, by decide +kernel⟩
abbrev s_are_terms_over : Stmt := topS 26
abbrev N_are_terms_over : List Str := ["many", "thing", "term"]
abbrev P_are_terms_over : List Str := ["many", "thing"]
theorem sc_are_terms_over : FnScope N_are_terms_over P_are_terms_over (defScope s_are_terms_over) := ⟨rfl, rfl, rfl, by decide +kernel, rfl, by decide +kernel, by decide +kernel⟩
abbrev s_is_place : Stmt := topS 27
abbrev N_is_place : List Str := ["places", "thing"]
abbrev P_is_place : List Str := ["places", "thing"]
theorem sc_is_place : FnScope N_is_place P_is_place (defScope s_is_place) := ⟨rfl, rfl, rfl, by decide +kernel, rfl, by decide +kernel, by decide +kernel⟩
abbrev s_is_pair : Stmt := topS 28
abbrev N_is_pair : List Str := ["thing"]
abbrev P_is_pair : List Str := ["thing"]
theorem sc_is_pair : FnScope N_is_pair P_is_pair (defScope s_is_pair) := ⟨rfl, rfl, rfl, by decide +kernel, rfl, by decide +kernel, by decide +kernel⟩
abbrev s_is_set : Stmt := topS 29
abbrev N_is_set : List Str := ["variables", "places", "thing", "change"]
abbrev P_is_set : List Str := ["variables", "places", "thing"]
theorem sc_is_set : FnScope N_is_set P_is_set (defScope s_is_set) := ⟨rfl, rfl, rfl, by decide +kernel, rfl, by decide +kernel, by decide +kernel⟩
abbrev s_is_way : Stmt := topS 30
abbrev N_is_way : List Str := ["world", "variables", "places", "act", "thing"]
abbrev P_is_way : List Str := ["world", "variables", "places", "act", "thing"]
theorem sc_is_way : FnScope N_is_way P_is_way (defScope s_is_way) := ⟨rfl, rfl, rfl, by decide +kernel, rfl, by decide +kernel, by decide +kernel⟩
abbrev s_is_ask : Stmt := topS 31
abbrev N_is_ask : List Str := ["world", "variables", "places", "thing", "word", "act", "terms", "ways", "way"]
abbrev P_is_ask : List Str := ["world", "variables", "places", "thing"]
theorem sc_is_ask : FnScope N_is_ask P_is_ask (defScope s_is_ask) := ⟨rfl, rfl, rfl, by decide +kernel, rfl, by decide +kernel, by decide +kernel⟩
abbrev s_is_end : Stmt := topS 32
abbrev N_is_end : List Str := ["variables", "thing"]
abbrev P_is_end : List Str := ["variables", "thing"]
theorem sc_is_end : FnScope N_is_end P_is_end (defScope s_is_end) := ⟨rfl, rfl, rfl, by decide +kernel, rfl, by decide +kernel, by decide +kernel⟩
abbrev s_is_statement : Stmt := topS 33
abbrev N_is_statement : List Str := ["world", "variables", "places", "thing"]
abbrev P_is_statement : List Str := ["world", "variables", "places", "thing"]
theorem sc_is_statement : FnScope N_is_statement P_is_statement (defScope s_is_statement) := ⟨rfl, rfl, rfl, by decide +kernel, rfl, by decide +kernel, by decide +kernel⟩
abbrev s_ordered : Stmt := topS 34
abbrev N_ordered : List Str := ["statement"]
abbrev P_ordered : List Str := ["statement"]
theorem sc_ordered : FnScope N_ordered P_ordered (defScope s_ordered) := ⟨rfl, rfl, rfl, by decide +kernel, rfl, by decide +kernel, by decide +kernel⟩
abbrev s_first_of : Stmt := topS 35
abbrev N_first_of : List Str := ["row"]
abbrev P_first_of : List Str := ["row"]
theorem sc_first_of : FnScope N_first_of P_first_of (defScope s_first_of) := ⟨rfl, rfl, rfl, by decide +kernel, rfl, by decide +kernel, by decide +kernel⟩
abbrev s_is_function : Stmt := topS 40
abbrev N_is_function : List Str := ["thing"]
abbrev P_is_function : List Str := ["thing"]
theorem sc_is_function : FnScope N_is_function P_is_function (defScope s_is_function) := ⟨rfl, rfl, rfl, by decide +kernel, rfl, by decide +kernel, by decide +kernel⟩
abbrev s_is_call : Stmt := topS 41
abbrev N_is_call : List Str := ["functions", "variables", "places", "thing", "word", "name", "terms", "targets", "goal"]
abbrev P_is_call : List Str := ["functions", "variables", "places", "thing"]
theorem sc_is_call : FnScope N_is_call P_is_call (defScope s_is_call) := ⟨rfl, rfl, rfl, by decide +kernel, rfl, by decide +kernel, by decide +kernel⟩
abbrev s_is_back : Stmt := topS 42
abbrev N_is_back : List Str := ["variables", "results", "thing"]
abbrev P_is_back : List Str := ["variables", "results", "thing"]
theorem sc_is_back : FnScope N_is_back P_is_back (defScope s_is_back) := ⟨rfl, rfl, rfl, by decide +kernel, rfl, by decide +kernel, by decide +kernel⟩
abbrev s_is_line : Stmt := topS 43
abbrev N_is_line : List Str := ["world", "functions", "function", "thing", "variables", "given", "results", "statements"]
abbrev P_is_line : List Str := ["world", "functions", "function", "thing"]
theorem sc_is_line : FnScope N_is_line P_is_line (defScope s_is_line) := ⟨rfl, rfl, rfl, by decide +kernel, rfl, by decide +kernel, by decide +kernel⟩
abbrev s_called_by : Stmt := topS 44
abbrev N_called_by : List Str := ["function", "statement"]
abbrev P_called_by : List Str := ["function"]
theorem sc_called_by : FnScope N_called_by P_called_by (defScope s_called_by) := ⟨rfl, rfl, rfl, by decide +kernel, rfl, by decide +kernel, by decide +kernel⟩
abbrev s_all_called : Stmt := topS 45
abbrev N_all_called : List Str := ["functions", "name", "found", "waiting", "one"]
abbrev P_all_called : List Str := ["functions", "name"]
theorem sc_all_called : FnScope N_all_called P_all_called (defScope s_all_called) := ⟨rfl, rfl, rfl, by decide +kernel, rfl, by decide +kernel, by decide +kernel⟩
abbrev s_open_at_once : Stmt := topS 46
abbrev N_open_at_once : List Str := ["functions", "name", "one"]
abbrev P_open_at_once : List Str := ["functions", "name"]
theorem sc_open_at_once : FnScope N_open_at_once P_open_at_once (defScope s_open_at_once) := ⟨rfl, rfl, rfl, by decide +kernel, rfl, by decide +kernel, by decide +kernel⟩
abbrev s_first_bad : Stmt := topS 47
abbrev N_first_bad : List Str := ["world", "functions", "name", "line"]
abbrev P_first_bad : List Str := ["world", "functions"]
theorem sc_first_bad : FnScope N_first_bad P_first_bad (defScope s_first_bad) := ⟨rfl, rfl, rfl, by decide +kernel, rfl, by decide +kernel, by decide +kernel⟩
abbrev s_tidy : Stmt := topS 49
abbrev N_tidy : List Str := ["function", "statement"]
abbrev P_tidy : List Str := ["function"]
theorem sc_tidy : FnScope N_tidy P_tidy (defScope s_tidy) := ⟨rfl, rfl, rfl, by decide +kernel, rfl, by decide +kernel, by decide +kernel⟩
abbrev s__law_bag : Stmt := topS 51
abbrev N__law_bag : List Str := ["_law_script", "_law_cell"]
abbrev P__law_bag : List Str := ["_law_script"]
theorem sc__law_bag : FnScope N__law_bag P__law_bag (defScope s__law_bag) := ⟨rfl, rfl, rfl, by decide +kernel, rfl, by decide +kernel, by decide +kernel⟩
abbrev s__law_take : Stmt := topS 52
abbrev N__law_take : List Str := ["_law_bag_here", "_law_many", "_law_cell", "_law_mixed_here", "_law_value", "_law_begin", "_law_second"]
abbrev P__law_take : List Str := ["_law_bag_here", "_law_many"]
theorem sc__law_take : FnScope N__law_take P__law_take (defScope s__law_take) := ⟨rfl, rfl, rfl, by decide +kernel, rfl, by decide +kernel, by decide +kernel⟩
abbrev s__law_alike : Stmt := topS 53
abbrev N__law_alike : List Str := ["_law_found", "_law_due"]
abbrev P__law_alike : List Str := ["_law_found", "_law_due"]
theorem sc__law_alike : FnScope N__law_alike P__law_alike (defScope s__law_alike) := ⟨rfl, rfl, rfl, by decide +kernel, rfl, by decide +kernel, by decide +kernel⟩
abbrev s__law_mixed : Stmt := topS 54
abbrev N__law_mixed : List Str := ["_law_bag_here", "_law_things", "_law_found", "_law_thing"]
abbrev P__law_mixed : List Str := ["_law_bag_here", "_law_things"]
theorem sc__law_mixed : FnScope N__law_mixed P__law_mixed (defScope s__law_mixed) := ⟨rfl, rfl, rfl, by decide +kernel, rfl, by decide +kernel, by decide +kernel⟩
abbrev s__law_names : Stmt := topS 55
abbrev N__law_names : List Str := ["_law_bag_here", "_law_many", "_law_letters", "_law_words", "_law_way", "_law_turn", "_law_base", "_law_at", "_law_k"]
abbrev P__law_names : List Str := ["_law_bag_here", "_law_many"]
theorem sc__law_names : FnScope N__law_names P__law_names (defScope s__law_names) := ⟨rfl, rfl, rfl, by decide +kernel, rfl, by decide +kernel, by decide +kernel⟩
abbrev s__law_reach : Stmt := topS 56
abbrev N__law_reach : List Str := ["_law_calls", "_law_name", "_law_many", "_law_found", "_law_k", "_law_one"]
abbrev P__law_reach : List Str := ["_law_calls", "_law_name", "_law_many"]
theorem sc__law_reach : FnScope N__law_reach P__law_reach (defScope s__law_reach) := ⟨rfl, rfl, rfl, by decide +kernel, rfl, by decide +kernel, by decide +kernel⟩
abbrev s__law_bad_calls : Stmt := topS 57
abbrev N__law_bad_calls : List Str := ["_law_calls", "_law_name", "_law_far", "_law_k"]
abbrev P__law_bad_calls : List Str := ["_law_calls"]
theorem sc__law_bad_calls : FnScope N__law_bad_calls P__law_bad_calls (defScope s__law_bad_calls) := ⟨rfl, rfl, rfl, by decide +kernel, rfl, by decide +kernel, by decide +kernel⟩
abbrev s__law_heard : Stmt := topS 58
abbrev N__law_heard : List Str := ["_law_functions", "e"]
abbrev P__law_heard : List Str := ["_law_functions"]
theorem sc__law_heard : FnScope N__law_heard P__law_heard (defScope s__law_heard) := ⟨rfl, rfl, rfl, by decide +kernel, rfl, by decide +kernel, by decide +kernel⟩
abbrev s_law : Stmt := topS 59
abbrev N_law : List Str := ["_law_script", "_law_bag_here", "_law_turn", "_law_names_here", "_law_calls", "_law_functions", "_law_way", "_law_at", "_law_some", "_law_k", "_law_later", "_law_rows", "_law_one"]
abbrev P_law : List Str := ["_law_script"]
theorem sc_law : FnScope N_law P_law (defScope s_law) := ⟨rfl, rfl, rfl, by decide +kernel, rfl, by decide +kernel, by decide +kernel⟩
abbrev s_World___init__ : Stmt := inClass (topS 22) 1
abbrev N_World___init__ : List Str := ["self", "acts", "name"]
abbrev P_World___init__ : List Str := ["self", "acts"]
theorem sc_World___init__ : FnScope N_World___init__ P_World___init__ (defScope s_World___init__) := ⟨rfl, rfl, rfl, by decide +kernel, rfl, by decide +kernel, by decide +kernel⟩
abbrev s_World_acts : Stmt := inClass (topS 22) 2
abbrev N_World_acts : List Str := ["self"]
abbrev P_World_acts : List Str := ["self"]
theorem sc_World_acts : FnScope N_World_acts P_World_acts (defScope s_World_acts) := ⟨rfl, rfl, rfl, by decide +kernel, rfl, by decide +kernel, by decide +kernel⟩
abbrev s_World_arguments : Stmt := inClass (topS 22) 3
abbrev N_World_arguments : List Str := ["self", "act"]
abbrev P_World_arguments : List Str := ["self", "act"]
theorem sc_World_arguments : FnScope N_World_arguments P_World_arguments (defScope s_World_arguments) := ⟨rfl, rfl, rfl, by decide +kernel, rfl, by decide +kernel, by decide +kernel⟩
abbrev s_World_outcomes : Stmt := inClass (topS 22) 4
abbrev N_World_outcomes : List Str := ["self", "act"]
abbrev P_World_outcomes : List Str := ["self", "act"]
theorem sc_World_outcomes : FnScope N_World_outcomes P_World_outcomes (defScope s_World_outcomes) := ⟨rfl, rfl, rfl, by decide +kernel, rfl, by decide +kernel, by decide +kernel⟩
abbrev s_World_brings : Stmt := inClass (topS 22) 5
abbrev N_World_brings : List Str := ["self", "act", "outcome"]
abbrev P_World_brings : List Str := ["self", "act", "outcome"]
theorem sc_World_brings : FnScope N_World_brings P_World_brings (defScope s_World_brings) := ⟨rfl, rfl, rfl, by decide +kernel, rfl, by decide +kernel, by decide +kernel⟩
abbrev s_World___eq__ : Stmt := inClass (topS 22) 6
abbrev N_World___eq__ : List Str := ["self", "other"]
abbrev P_World___eq__ : List Str := ["self", "other"]
theorem sc_World___eq__ : FnScope N_World___eq__ P_World___eq__ (defScope s_World___eq__) := ⟨rfl, rfl, rfl, by decide +kernel, rfl, by decide +kernel, by decide +kernel⟩
abbrev s_Unit___init__ : Stmt := inClass (topS 48) 1
abbrev N_Unit___init__ : List Str := ["self", "world", "functions", "bad", "name"]
abbrev P_Unit___init__ : List Str := ["self", "world", "functions"]
theorem sc_Unit___init__ : FnScope N_Unit___init__ P_Unit___init__ (defScope s_Unit___init__) := ⟨rfl, rfl, rfl, by decide +kernel, rfl, by decide +kernel, by decide +kernel⟩
abbrev s_Unit_world : Stmt := inClass (topS 48) 2
abbrev N_Unit_world : List Str := ["self"]
abbrev P_Unit_world : List Str := ["self"]
theorem sc_Unit_world : FnScope N_Unit_world P_Unit_world (defScope s_Unit_world) := ⟨rfl, rfl, rfl, by decide +kernel, rfl, by decide +kernel, by decide +kernel⟩
abbrev s_Unit_functions : Stmt := inClass (topS 48) 3
abbrev N_Unit_functions : List Str := ["self"]
abbrev P_Unit_functions : List Str := ["self"]
theorem sc_Unit_functions : FnScope N_Unit_functions P_Unit_functions (defScope s_Unit_functions) := ⟨rfl, rfl, rfl, by decide +kernel, rfl, by decide +kernel, by decide +kernel⟩
abbrev s_Unit_function : Stmt := inClass (topS 48) 4
abbrev N_Unit_function : List Str := ["self", "name"]
abbrev P_Unit_function : List Str := ["self", "name"]
theorem sc_Unit_function : FnScope N_Unit_function P_Unit_function (defScope s_Unit_function) := ⟨rfl, rfl, rfl, by decide +kernel, rfl, by decide +kernel, by decide +kernel⟩
abbrev s_Unit___eq__ : Stmt := inClass (topS 48) 5
abbrev N_Unit___eq__ : List Str := ["self", "other"]
abbrev P_Unit___eq__ : List Str := ["self", "other"]
theorem sc_Unit___eq__ : FnScope N_Unit___eq__ P_Unit___eq__ (defScope s_Unit___eq__) := ⟨rfl, rfl, rfl, by decide +kernel, rfl, by decide +kernel, by decide +kernel⟩
structure TX (K : PySem.W.Frag) (mg : Str → Option Value) where
  d_is_integer : DefAt K mg "is_integer" s_is_integer P_is_integer
  d_is_name : DefAt K mg "is_name" s_is_name P_is_name
  d_is_outcome : DefAt K mg "is_outcome" s_is_outcome P_is_outcome
  d_is_term : DefAt K mg "is_term" s_is_term P_is_term
  d_is_term_over : DefAt K mg "is_term_over" s_is_term_over P_is_term_over
  d_is_within : DefAt K mg "is_within" s_is_within P_is_within
  d_are_outcomes : DefAt K mg "are_outcomes" s_are_outcomes P_are_outcomes
  d_is_act : DefAt K mg "is_act" s_is_act P_is_act
  d_are_different : DefAt K mg "are_different" s_are_different P_are_different
  d_are_terms_over : DefAt K mg "are_terms_over" s_are_terms_over P_are_terms_over
  d_is_place : DefAt K mg "is_place" s_is_place P_is_place
  d_is_pair : DefAt K mg "is_pair" s_is_pair P_is_pair
  d_is_set : DefAt K mg "is_set" s_is_set P_is_set
  d_is_way : DefAt K mg "is_way" s_is_way P_is_way
  d_is_ask : DefAt K mg "is_ask" s_is_ask P_is_ask
  d_is_end : DefAt K mg "is_end" s_is_end P_is_end
  d_is_statement : DefAt K mg "is_statement" s_is_statement P_is_statement
  d_ordered : DefAt K mg "ordered" s_ordered P_ordered
  d_first_of : DefAt K mg "first_of" s_first_of P_first_of
  d_is_function : DefAt K mg "is_function" s_is_function P_is_function
  d_is_call : DefAt K mg "is_call" s_is_call P_is_call
  d_is_back : DefAt K mg "is_back" s_is_back P_is_back
  d_is_line : DefAt K mg "is_line" s_is_line P_is_line
  d_called_by : DefAt K mg "called_by" s_called_by P_called_by
  d_all_called : DefAt K mg "all_called" s_all_called P_all_called
  d_open_at_once : DefAt K mg "open_at_once" s_open_at_once P_open_at_once
  d_first_bad : DefAt K mg "first_bad" s_first_bad P_first_bad
  d_tidy : DefAt K mg "tidy" s_tidy P_tidy
  d__law_bag : DefAt K mg "_law_bag" s__law_bag P__law_bag
  d__law_take : DefAt K mg "_law_take" s__law_take P__law_take
  d__law_alike : DefAt K mg "_law_alike" s__law_alike P__law_alike
  d__law_mixed : DefAt K mg "_law_mixed" s__law_mixed P__law_mixed
  d__law_names : DefAt K mg "_law_names" s__law_names P__law_names
  d__law_reach : DefAt K mg "_law_reach" s__law_reach P__law_reach
  d__law_bad_calls : DefAt K mg "_law_bad_calls" s__law_bad_calls P__law_bad_calls
  d__law_heard : DefAt K mg "_law_heard" s__law_heard P__law_heard
  d_law : DefAt K mg "law" s_law P_law
  C_World : Addr
  g_World : mg "World" = some (.ref C_World)
  k_World : PySem.W.keepIn K (.ref C_World) = true
  c_World : SCls K C_World
  mk_World : PySem.W.makesIn K C_World = true
  is_World : SIsi K C_World
  p_World_its_acts : Addr
  sl_World_its_acts : Slot1 K C_World "its_acts" p_World_its_acts 0
  d_World___init__ : MethAt K C_World "__init__" "World.__init__" s_World___init__ P_World___init__
  d_World_acts : MethAt K C_World "acts" "World.acts" s_World_acts P_World_acts
  d_World_arguments : MethAt K C_World "arguments" "World.arguments" s_World_arguments P_World_arguments
  d_World_outcomes : MethAt K C_World "outcomes" "World.outcomes" s_World_outcomes P_World_outcomes
  d_World_brings : MethAt K C_World "brings" "World.brings" s_World_brings P_World_brings
  d_World___eq__ : MethAt K C_World "__eq__" "World.__eq__" s_World___eq__ P_World___eq__
  C_Unit : Addr
  g_Unit : mg "Unit" = some (.ref C_Unit)
  k_Unit : PySem.W.keepIn K (.ref C_Unit) = true
  c_Unit : SCls K C_Unit
  mk_Unit : PySem.W.makesIn K C_Unit = true
  is_Unit : SIsi K C_Unit
  p_Unit_its_functions : Addr
  sl_Unit_its_functions : Slot1 K C_Unit "its_functions" p_Unit_its_functions 0
  p_Unit_its_world : Addr
  sl_Unit_its_world : Slot1 K C_Unit "its_world" p_Unit_its_world 1
  d_Unit___init__ : MethAt K C_Unit "__init__" "Unit.__init__" s_Unit___init__ P_Unit___init__
  d_Unit_world : PropAt K C_Unit "world" "Unit.world" s_Unit_world P_Unit_world
  d_Unit_functions : MethAt K C_Unit "functions" "Unit.functions" s_Unit_functions P_Unit_functions
  d_Unit_function : MethAt K C_Unit "function" "Unit.function" s_Unit_function P_Unit_function
  d_Unit___eq__ : MethAt K C_Unit "__eq__" "Unit.__eq__" s_Unit___eq__ P_Unit___eq__
  b_ValueError : mg "ValueError" = none
  b_abs : mg "abs" = none
  b_all : mg "all" = none
  b_bool : mg "bool" = none
  b_dict : mg "dict" = none
  b_int : mg "int" = none
  b_isinstance : mg "isinstance" = none
  b_len : mg "len" = none
  b_list : mg "list" = none
  b_max : mg "max" = none
  b_range : mg "range" = none
  b_repr : mg "repr" = none
  b_set : mg "set" = none
  b_sorted : mg "sorted" = none
  b_str : mg "str" = none
  b_sum : mg "sum" = none
  b_tuple : mg "tuple" = none
  v_LETTERS : Value
  c_LETTERS : mg "LETTERS" = some v_LETTERS
  r_LETTERS : RelV (.str "abcdefghijklmnopqrstuvwxyz") v_LETTERS
  v_MOST_LETTERS : Value
  c_MOST_LETTERS : mg "MOST_LETTERS" = some v_MOST_LETTERS
  r_MOST_LETTERS : RelV (.int 8) v_MOST_LETTERS
  v_MOST_PARTS : Value
  c_MOST_PARTS : mg "MOST_PARTS" = some v_MOST_PARTS
  r_MOST_PARTS : RelV (.int 3) v_MOST_PARTS
  v_MOST_ARGUMENTS : Value
  c_MOST_ARGUMENTS : mg "MOST_ARGUMENTS" = some v_MOST_ARGUMENTS
  r_MOST_ARGUMENTS : RelV (.int 2) v_MOST_ARGUMENTS
  v_MOST_OUTCOMES : Value
  c_MOST_OUTCOMES : mg "MOST_OUTCOMES" = some v_MOST_OUTCOMES
  r_MOST_OUTCOMES : RelV (.int 6) v_MOST_OUTCOMES
  v_MOST_BROUGHT : Value
  c_MOST_BROUGHT : mg "MOST_BROUGHT" = some v_MOST_BROUGHT
  r_MOST_BROUGHT : RelV (.int 2) v_MOST_BROUGHT
  v_MOST_TOLD : Value
  c_MOST_TOLD : mg "MOST_TOLD" = some v_MOST_TOLD
  r_MOST_TOLD : RelV (.int 2) v_MOST_TOLD
  v_MOST_VARIABLES : Value
  c_MOST_VARIABLES : mg "MOST_VARIABLES" = some v_MOST_VARIABLES
  r_MOST_VARIABLES : RelV (.int 8) v_MOST_VARIABLES
  v_MOST_RESULTS : Value
  c_MOST_RESULTS : mg "MOST_RESULTS" = some v_MOST_RESULTS
  r_MOST_RESULTS : RelV (.int 2) v_MOST_RESULTS
  v_MOST_DEEP : Value
  c_MOST_DEEP : mg "MOST_DEEP" = some v_MOST_DEEP
  r_MOST_DEEP : RelV (.int 3) v_MOST_DEEP
structure TY (P : Program) (K : PySem.W.Frag) (mg : Str → Option Value) where
  C_MoveError : Addr
  x_MoveError : ExN K mg "MoveError" C_MoveError
  C_Wrong : Addr
  x_Wrong : ExT P K mg "Wrong" "place" C_Wrong
  C_BadAct : Addr
  x_BadAct : ExT P K mg "BadAct" "name" C_BadAct
  C_BadFunction : Addr
  x_BadFunction : ExT P K mg "BadFunction" "name" C_BadFunction
  C_NoFunction : Addr
  x_NoFunction : ExT P K mg "NoFunction" "name" C_NoFunction
  xc_BadFunction : ExcC K C_BadFunction
  ev_BadFunction : PySem.W.kitOne K (.ref C_BadFunction) (.type "ValueError") = some true
  em_BadFunction_MoveError : PySem.W.exmOne K (.ref C_BadFunction) (.ref C_MoveError) = some true
end Fm
namespace Fm
open PySem PySem.Spec PyProof.Rows L2
section
variable {P : Program} {w : World} {K : PySem.W.Frag} {mg : Str → Option Value} {base : Heap}
def sp_bag (K : PySem.W.Frag) : Sp := fun vs H Q _ => ∃ (a : Addr) (ns : List Int), vs = [.ref a] ∧ SqL K H a (ns.map V.int) ∧ ns.length ≤ 63 ∧ ∀ H' p, Mv [] H H' → H p = none → Bag H' p → Q (.ref p) H'
theorem cut63 (xs : List V) (h : xs.length ≤ 63) : cutV xs none (some 63) = xs := by
  unfold cutV
  rw [HT.sIx_none, show HT.sIx xs.length xs.length (some 63) = min 63 xs.length from HT.sIx_nat xs.length xs.length 63, List.drop_zero, List.take_of_length_le (by omega)]
theorem ok__law_bag (T : TX K mg) {k : Nat} : FnOk P w K mg base CX0 (k + 1) T.d__law_bag.f T.d__law_bag.fd P__law_bag (sp_bag K) := by
  refine T.d__law_bag.F.ok sc__law_bag (fun vs H Q E h => ?_) (fun cdv A outer s H vs Q E hr h => ?_)
  · obtain ⟨a, ns, rfl, _⟩ := h
    rfl
  · obtain ⟨a, ns, rfl, hS, hl, q⟩ := h
    refine ⟨_, (pss_one (ps_ret (pe_lst (pa_cons pe_int (pa_cons pe_int (pa_cons pe_int (pa_cons (pe_lc (own := [("_law_cell", 1)]) (g := gName 1) (by rfl) sc__law_bag.nd (pi_seq (pe_slice (r := rSlG K) sl_G (pv 0) po_none (po_some pe_int))) (blkOk_by (own := [("_law_cell", 1)]) (N := N__law_bag) (sc := defScope s__law_bag) (by decide +kernel)) (fun _ _ _ _ _ => pg_name (i := 1) sc__law_bag.nd rfl (Or.inl rfl)) (fun _ _ _ _ _ => pts_nil) (fun _ _ _ _ _ => (pe_callB call_abs (by rfl) T.b_abs bt_abs (pa_cons (pv 1) pa_nil)))) pa_nil))))))), ?_⟩
    refine ⟨.ref a, rfl, 63, rfl, Or.inl ⟨a, _, rfl, hS, fun c nc => ⟨c, rfl, Or.inl ⟨⟨_, .inl (.inl upd_same)⟩, fun D nD => ?_⟩⟩⟩⟩
    have hlen : (ns.map V.int).length ≤ 63 := by rw [List.length_map]; exact hl
    rw [cut63 _ hlen] at nD ⊢
    refine lc_list (K := K) (a := c) (xs := ns.map V.int) (fun i H3 => ∃ ms : List Int, H3 c = some (.lst (ns.map V.int)) ∧ H3 D = some (.lst (ms.map V.int)) ∧ ms.length = i ∧ (∀ n ∈ ms, 0 ≤ n) ∧ Mv [] H H3)
      ⟨[], ?_, upd_same, rfl, by simp, ?_⟩ (fun i H3 _ h3 => ?_) (fun i x H3 hx h3 => ?_) (fun H3 h3 => ?_)
    · rw [upd_ne (ne_of_none upd_same nD), upd_same]
    · exact (Mv.new nc).trans (.new nD)
    · obtain ⟨ms, h1, _⟩ := h3
      exact .inl (.inl h1)
    · obtain ⟨ms, h1, h2, h4, h5, h6⟩ := h3
      obtain ⟨n, hn, rfl⟩ : ∃ n ∈ ns, x = .int n := by
        have := List.mem_of_getElem? hx
        obtain ⟨n, hn, e⟩ := List.mem_map.mp this
        exact ⟨n, hn, e.symm⟩
      have hDc : c ≠ D := ne_of_none upd_same nD
      refine ⟨rfl, .int n, rfl, n, rfl, _, h2, ?_, ms ++ [if n < 0 then -n else n], ?_, ?_, ?_, ?_, ?_⟩
      · rw [List.length_map]
        have := (List.getElem?_eq_some_iff.mp hx).1
        rw [List.length_map] at this
        exact small1000 (by omega)
      · rw [upd_ne hDc]
        exact h1
      · rw [upd_same, List.map_append]
        rfl
      · simp [h4]
      · intro z hz
        rcases List.mem_append.mp hz with hz | hz
        · exact h5 z hz
        · rw [List.mem_singleton.mp hz]
          split <;> omega
      · exact h6.wr ((Mv.new nc).free nD)
    · obtain ⟨ms, h1, h2, h4, h5, h6⟩ := h3
      refine ⟨(by decide : 4 ≤ sizeLine), fun p np => q _ p (h6.trans (.new np)) (h6.free np) ⟨D, 0, 1234567891, 0, ms, upd_same, ?_, ?_, h5, by decide, by decide, by decide⟩⟩
      · rw [upd_ne (ne_of_none h2 np)]
        exact h2
      · rw [h4, List.length_map]
        exact hl

/-- a number from 0 to n - 1 is drawn -/
def sp_take : Sp := fun vs H Q _ => ∃ (b : Addr) (n : Int), vs = [.ref b, .int n] ∧ Bag H b ∧ 0 < n ∧ n ≤ 1000000 ∧ ∀ (i : Int) H', 0 ≤ i → i < n → Dr b H H' → Q (.int i) H'
theorem Bag.set {H : Hp} {b c : Addr} {ns : List Int} {s m k : Int} {xs : List V} (hb : H b = some (.lst xs)) (hc : H c = some (.lst (ns.map V.int))) (hcb : c ≠ b)
    (hl : ns.length ≤ 63) (hn : ∀ n ∈ ns, 0 ≤ n) (h1 : 0 ≤ s) (h2 : 0 ≤ k) (h3 : 0 ≤ m) : BagC (upd H b (.lst [.int s, .int m, .int k, .ref c])) b c :=
  ⟨s, m, k, ns, upd_same, by rw [upd_ne hcb]; exact hc, hl, hn, h1, h2, h3⟩
theorem rd_set {p : Addr} {xs ys : List V} {k : Int} {j : Nat} {v : V} {H : Hp} {Q : Hp → Prop} (hp : H p = some (.lst xs)) (hj : ixN xs.length k = some j) (hy : xs.set j v = ys)
    (h : ∀ H', H' p = some (.lst ys) → Mv [p] H H' → (∀ a, a ≠ p → H' a = H a) → Q H') : rSetL (.ref p) (.int k) v H Q := by
  refine ⟨p, xs, k, j, rfl, rfl, hp, hj, ?_⟩
  rw [hy]
  exact h _ upd_same (.set hp (by simp)) fun a ha => upd_ne ha
theorem ok__law_take (T : TX K mg) {k : Nat} : FnOk P w K mg base CX0 (k + 1) T.d__law_take.f T.d__law_take.fd P__law_take sp_take := by
  refine T.d__law_take.F.ok sc__law_take (fun vs H Q E h => ?_) (fun cdv A outer s H vs Q E hr h => ?_)
  · obtain ⟨a, ns, rfl, _⟩ := h
    rfl
  · obtain ⟨b, n, rfl, hB, h0, h1, q⟩ := h
    have hu64 := hr.units
    refine ⟨_, (Evl.pss_cut (ps_if (pt_cmpR (r := rEqG K) (op_eqG hu64) (pe_ix (r := rIx K) ix_seq (pv 0) pe_int (fun _ _ => rfl)) pe_int (nomark _)) (pss_cons (ps_set (i := 2) sc__law_take.nd rfl (Or.inl rfl) pe_int) (Evl.pss_cut (ps_if (pt_cmpR op_lt (pe_ix (r := rIx K) ix_seq (pv 0) pe_int (fun _ _ => rfl)) (pe_callB (r := rLenG K) call_lenG (by rfl) T.b_len bt_len (pa_cons (pe_ix (r := rIx K) ix_seq (pv 0) pe_int (fun _ _ => rfl)) pa_nil)) (nomark _)) (pss_one (ps_set (i := 2) sc__law_take.nd rfl (Or.inl rfl) (pe_ix (r := rIx K) ix_seq (pe_ix (r := rIx K) ix_seq (pv 0) pe_int (fun _ _ => rfl)) (pe_ix (r := rIx K) ix_seq (pv 0) pe_int (fun _ _ => rfl)) (fun _ _ => rfl)))) pss_nil) (pss_cons (ps_augS (pv 0) pe_int get_G pe_int ip_add set_list) (Evl.pss_cut (ps_if (pt_cmpR op_ge (pv 2) pe_int (nomark _)) (pss_one (ps_asg (pv 2) (pg_sub (pv 0) pe_int set_list))) pss_nil) (pss_cons (ps_set (i := 3) sc__law_take.nd rfl (Or.inl rfl) (pe_op (r := rAddG K) op_addG (pe_op (r := rAddG K) op_addG (pe_op op_mulG (pe_ix (r := rIx K) ix_seq (pv 0) pe_int (fun _ _ => rfl)) pe_int) (pe_op op_mod (pe_callTy call_int1 (by rfl) T.b_int bt_int (pa_cons (pv 2) pa_nil)) pe_int)) (pe_op op_mulG pe_int (pe_ix (r := rIx K) ix_seq (pv 0) pe_int (fun _ _ => rfl))))) (pss_one (ps_asg (pe_op op_mod (pe_callTy call_int1 (by rfl) T.b_int bt_int (pa_cons (pv 3) pa_nil)) pe_int) (pg_sub (pv 0) pe_int set_list)))))))) pss_nil) (pss_cons (ps_if (pt_cmpR op_gt (pe_ix (r := rIx K) ix_seq (pv 0) pe_int (fun _ _ => rfl)) pe_int (nomark _)) (pss_cons (ps_set (i := 4) sc__law_take.nd rfl (Or.inl rfl) (pe_op op_mod (pe_callTy call_int1 (by rfl) T.b_int bt_int (pa_cons (pe_ix (r := rIx K) ix_seq (pv 0) pe_int (fun _ _ => rfl)) pa_nil)) (pv 1))) (pss_cons (ps_asg (pe_op op_fdivW (pe_ix (r := rIx K) ix_seq (pv 0) pe_int (fun _ _ => rfl)) (pv 1)) (pg_sub (pv 0) pe_int set_list)) (pss_one (ps_ret (pv 4))))) pss_nil) (pss_cons (ps_set (i := 5) sc__law_take.nd rfl (Or.inl rfl) (pe_op op_mod (pe_callTy call_int1 (by rfl) T.b_int bt_int (pa_cons (pe_op op_mulG (pe_op (r := rAddG K) op_addG (pe_ix (r := rIx K) ix_seq (pv 0) pe_int (fun _ _ => rfl)) pe_int) pe_int) pa_nil)) pe_int)) (pss_cons (ps_set (i := 6) sc__law_take.nd rfl (Or.inl rfl) (pe_op op_mod (pe_callTy call_int1 (by rfl) T.b_int bt_int (pa_cons (pe_op op_mulG (pe_op op_mod (pe_callTy call_int1 (by rfl) T.b_int bt_int (pa_cons (pe_op op_mulG (pv 5) (pv 5)) pa_nil)) pe_int) pe_int) pa_nil)) pe_int)) (pss_cons (ps_if (pt_cmpR op_gt (pv 1) pe_int (nomark _)) (pss_one (ps_ret (pe_op op_mod (pe_callTy call_int1 (by rfl) T.b_int bt_int (pa_cons (pe_op (r := rAddG K) op_addG (pe_op op_mulG (pv 6) pe_int) (pv 5)) pa_nil)) (pv 1)))) pss_nil) (pss_one (ps_ret (pe_op op_mod (pe_callTy call_int1 (by rfl) T.b_int bt_int (pa_cons (pe_op op_fdivW (pv 6) pe_int) pa_nil)) (pv 1))))))))), ?_⟩
    obtain ⟨c, hB⟩ := hB
    have hBC := hB
    obtain ⟨z, m, j, ns, eb, ec, hl, hn, hz, hj, hm⟩ := hB
    have hcb : c ≠ b := Bag.ne (xs := [.int z, .int m, .int j]) eb ec
    have sq : ∀ {H : Hp} {xs : List V}, H b = some (.lst xs) → SqL K H b xs := fun h => .inl (.inl h)
    -- behind the first if
    refine ⟨fun σ H1 => ∃ y2 y3 y4 y5 y6, σ = [some (.ref b), some (.int n), y2, y3, y4, y5, y6] ∧ Dr b H H1 ∧ BagC H1 b c, ?_, fun σ H1 hM => ?_⟩
    · refine ⟨.ref b, rfl, Or.inl ⟨b, _, 0, .int z, rfl, rfl, sq eb, rfl, Or.inl ⟨rfl, _, rfl, ite2 (fun e => ?_) (fun e => ?_)⟩⟩⟩
      · -- cell = 0; the next cell
        refine ⟨fun σ H1 => ∃ x : Int, 0 ≤ x ∧ σ = [some (.ref b), some (.int n), some (.int x), none, none, none, none] ∧ H1 = H, ?_, fun σ H1 hM => ?_⟩
        · refine ⟨.ref b, rfl, Or.inl ⟨b, _, 2, .int j, rfl, rfl, sq eb, rfl, .ref b, rfl, Or.inl ⟨b, _, 3, .ref c, rfl, rfl, sq eb, rfl, Or.inl ⟨c, _, rfl, .inl (.inl (.inl ec)), j, _, rfl, rfl, _, rfl, ite2 (fun e => ?_) (fun e => ?_)⟩⟩⟩⟩
          · have e' : j < (ns.map V.int).length := of_decide_eq_true e
            obtain ⟨i, rfl⟩ := Int.eq_ofNat_of_zero_le hj
            have hi : i < ns.length := by
              rw [List.length_map] at e'
              omega
            have gi : (ns.map V.int)[i]? = some (.int ns[i]) := by
              rw [List.getElem?_map, List.getElem?_eq_getElem hi]
              rfl
            refine ⟨.ref b, rfl, Or.inl ⟨b, _, 3, .ref c, rfl, rfl, sq eb, rfl, .ref b, rfl, Or.inl ⟨b, _, 2, .int (i : Int), rfl, rfl, sq eb, rfl, Or.inl ⟨c, _, _, .int ns[i], rfl, rfl, .inl (.inl ec), atI_nat gi, ?_⟩⟩⟩⟩
            exact ⟨ns[i], hn _ (List.getElem_mem hi), rfl, rfl⟩
          · exact ⟨0, Int.le_refl _, rfl, rfl⟩
        · obtain ⟨x, hx, rfl, rfl⟩ := hM
          -- bag[2] += 1
          refine ⟨.ref b, rfl, b, _, 2, .int j, rfl, rfl, sq eb, rfl, j, 1, rfl, rfl, rd_set eb rfl rfl fun H2 eb2 m1 k1 => ?_⟩
          have ec2 : H2 c = some (.lst (ns.map V.int)) := by rw [k1 c hcb]; exact ec
          -- a great cell is kept
          refine ⟨fun σ H3 => ∃ z' : Int, 0 ≤ z' ∧ σ = [some (.ref b), some (.int n), some (.int x), none, none, none, none] ∧ H3 b = some (.lst [.int z', .int m, .int (j + 1), .ref c]) ∧ H3 c = some (.lst (ns.map V.int)) ∧ Mv [b] H2 H3, ?_, fun σ H3 hM => ?_⟩
          · refine ⟨.int x, rfl, x, _, rfl, rfl, _, rfl, ite2 (fun e => ?_) (fun e => ?_)⟩
            · refine ⟨.int x, rfl, .ref b, rfl, b, _, 0, 0, rfl, rfl, eb2, rfl, x, hx, rfl, upd_same, ?_, .set eb2 (by simp)⟩
              rw [upd_ne hcb]
              exact ec2
            · exact ⟨z, hz, rfl, eb2, ec2, .refl⟩
          · obtain ⟨z', hz', rfl, eb3, ec3, m3⟩ := hM
            refine ⟨.ref b, rfl, Or.inl ⟨b, _, 1, .int m, rfl, rfl, sq eb3, rfl, Or.inl ⟨m, 48271, rfl, rfl, .inr ⟨by decide, by decide⟩, .int x, rfl, Or.inl ⟨x, rfl, x, _, rfl, rfl, (by decide : (0 : Int) < _), ?_⟩⟩⟩⟩
            refine Or.inl ⟨_, _, rfl, rfl, .ref b, rfl, Or.inl ⟨b, _, 2, .int (j + 1), rfl, rfl, sq eb3, rfl, Or.inl ⟨7919, j + 1, rfl, rfl, .inl ⟨by decide, by decide⟩, Or.inl ⟨_, _, rfl, rfl, ?_⟩⟩⟩⟩
            refine ⟨_, rfl, Or.inl ⟨_, rfl, _, _, rfl, rfl, (by decide : (0 : Int) < _), .ref b, rfl, b, _, 1, 1, rfl, rfl, eb3, rfl, _, _, _, _, _, rfl, ?_, ?_⟩⟩
            · exact .mkc ((m1.trans m3).trans (.set eb3 (by simp))) hBC (Bag.set eb3 ec3 hcb hl hn hz' (by omega) (Int.emod_nonneg _ (by decide)))
            · exact Bag.set eb3 ec3 hcb hl hn hz' (by omega) (Int.emod_nonneg _ (by decide))
      · exact ⟨_, _, _, _, _, rfl, .refl, z, m, j, ns, eb, ec, hl, hn, hz, hj, hm⟩
    · obtain ⟨y2, y3, y4, y5, y6, rfl, hD, hB⟩ := hM
      have hBC1 := hB
      obtain ⟨z, m, j, ns, eb, ec, hl, hn, hz, hj, hm⟩ := hB
      have hcb : c ≠ b := Bag.ne (xs := [.int z, .int m, .int j]) eb ec
      refine ⟨.ref b, rfl, Or.inl ⟨b, _, 0, .int z, rfl, rfl, sq eb, rfl, z, 0, rfl, rfl, _, rfl, ite2 (fun e => ?_) (fun e => ?_)⟩⟩
      · -- value = int(bag[0]) % many; bag[0] = bag[0] // many; return value
        refine ⟨.ref b, rfl, Or.inl ⟨b, _, 0, .int z, rfl, rfl, sq eb, rfl, Or.inl ⟨z, rfl, .int n, rfl, z, n, rfl, rfl, h0, ?_⟩⟩⟩
        refine ⟨.ref b, rfl, Or.inl ⟨b, _, 0, .int z, rfl, rfl, sq eb, rfl, .int n, rfl, z, n, rfl, rfl, ?_, ?_⟩⟩
        · exact wide_div (b := 64) h0 (by omega) (by decide) (by decide)
        · refine ⟨.ref b, rfl, b, _, 0, 0, rfl, rfl, eb, rfl, ?_⟩
          refine ⟨.int (z % n), rfl, q _ _ (Int.emod_nonneg z (by omega)) (Int.emod_lt_of_pos z h0) (hD.trans (.mkc (.set eb (by simp)) hBC1 ?_))⟩
          exact Bag.set eb ec hcb hl hn (Int.ediv_nonneg hz (by omega)) hj hm
      · refine ⟨.ref b, rfl, Or.inl ⟨b, _, 1, .int m, rfl, rfl, sq eb, rfl, Or.inl ⟨m, 1, rfl, rfl, Or.inl ⟨_, _, rfl, rfl, .inr ⟨by decide, by decide⟩, Or.inl ⟨_, rfl, _, _, rfl, rfl, (by decide : (0 : Int) < _), ?_⟩⟩⟩⟩⟩
        have hx0 : 0 ≤ (m + 1) * 39373 % 1000000007 := Int.emod_nonneg _ (by decide)
        have hx1 : (m + 1) * 39373 % 1000000007 < 1000000007 := Int.emod_lt_of_pos _ (by decide)
        refine ⟨_, rfl, _, rfl, Or.inl ⟨(m + 1) * 39373 % 1000000007, (m + 1) * 39373 % 1000000007, rfl, rfl, .inl ⟨by omega, by omega⟩, Or.inl ⟨_, rfl, _, _, rfl, rfl, (by decide : (0 : Int) < _), Or.inl ⟨_, _, rfl, rfl, .inr ⟨by decide, by decide⟩, Or.inl ⟨_, rfl, _, _, rfl, rfl, (by decide : (0 : Int) < _), ?_⟩⟩⟩⟩⟩
        refine ⟨.int n, rfl, n, _, rfl, rfl, _, rfl, ite2 (fun e => ?_) (fun e => ?_)⟩
        · exact absurd (of_decide_eq_true e) (by omega)
        · refine ⟨_, rfl, _, 7, rfl, rfl, ⟨by decide, by decide⟩, Or.inl ⟨_, rfl, .int n, rfl, _, n, rfl, rfl, h0, ?_⟩⟩
          exact q _ _ (Int.emod_nonneg _ (by omega)) (Int.emod_lt_of_pos _ h0) hD
end
end Fm
namespace Fm
open PySem PySem.Spec PyProof.Rows L2
/-- a new list of names -/
def sp_names : Sp := fun vs H Q _ => ∃ (b : Addr) (n : Nat), vs = [.ref b, .int n] ∧ Bag H b ∧ 0 < n ∧ n ≤ 12 ∧
  ∀ (p : Addr) (xs : List Str) H', xs.length = n → (∀ x ∈ xs, Nm x) → H p = none → H' p = some (.lst (xs.map V.str)) → Dr b H H' → Q (.ref p) H'
theorem rd_split {X : Cx} {a b : Str} {H : Hp} {Q : VK} (P : List Str → Bool) (hP : P (Txt.split a b) = true)
    (h : ∀ p ws H', P ws = true → H p = none → H' p = some (.lst (ws.map V.str)) → Mv [] H H' → Q (.ref p) H') : rNewStrs (Txt.split a b) H Q :=
  fun p np => h p _ _ hP np upd_same (.new np)
theorem str_len_append (x y : Str) : (x ++ y).length = x.length + y.length := by first | exact strLen_append x y | (show (x.cps ++ y.cps).size = _; simp [Str.length])
theorem str_cps_append (x y : Str) : (x ++ y).cps.toList = x.cps.toList ++ y.cps.toList := by
  show (x.cps ++ y.cps).toList = _
  simp
theorem join_chars : ∀ l : List Nat, Txt.join "" (l.map fun c => (⟨#[c]⟩ : Str)) = ⟨l.toArray⟩
  | [] => by decide +kernel
  | [c] => by
    show Builtin.Str.glued _ _ = _
    rw [StrLaws.glued_eq_join]
    rfl
  | c :: d :: l => by
    have ih := join_chars (d :: l)
    show Builtin.Str.glued _ _ = _
    have ih' : Builtin.Str.glued "" ((d :: l).map fun c => (⟨#[c]⟩ : Str)) = ⟨(d :: l).toArray⟩ := ih
    rw [StrLaws.glued_eq_join] at ih' ⊢
    show (⟨#[c]⟩ : Str) ++ "" ++ Str.join "" ((d :: l).map fun c => (⟨#[c]⟩ : Str)) = _
    rw [ih']
    show (⟨(#[c] ++ #[]) ++ (d :: l).toArray⟩ : Str) = _
    simp
theorem cutS_to (z : Str) (i : Nat) (h : i ≤ z.length) : (cutS z none (some (i : Int))).cps.toList = z.cps.toList.take i := by
  unfold cutS
  rw [HT.sIx_none, HT.sIx_nat, Nat.min_eq_left h]
  simp
theorem cutS_from (z : Str) (i : Nat) (h : i ≤ z.length) : (cutS z (some (i : Int)) none).cps.toList = z.cps.toList.drop i := by
  unfold cutS
  rw [HT.sIx_none, HT.sIx_nat, Nat.min_eq_left h]
  have e : z.cps.toList.length = z.length := by simp [Str.length]
  show ((z.cps.toList.drop i).take (z.length - i)).toArray.toList = _
  rw [List.take_of_length_le (by rw [List.length_drop, e]; exact Nat.le_refl _)]
theorem len_cps (z : Str) : z.cps.toList.length = z.length := by simp [Str.length]
theorem sum_ones : ∀ cs : List Nat, ((cs.map fun c => (⟨#[c]⟩ : Str)).map (·.length)).sum = cs.length
  | [] => rfl
  | c :: cs => by
    have := sum_ones cs
    simp only [List.map_cons, List.sum_cons, List.length_cons, this]
    show 1 + cs.length = _
    omega
theorem cutV_from {xs : List V} {i : Int} (h0 : 0 ≤ i) (h : i ≤ xs.length) : cutV xs (some i) none = xs.drop i.toNat := by
  obtain ⟨j, rfl⟩ := Int.eq_ofNat_of_zero_le h0
  unfold cutV
  rw [HT.sIx_none, HT.sIx_nat, Nat.min_eq_left (by omega), List.take_of_length_le (by rw [List.length_drop]; exact Nat.le_refl _)]
  rfl
theorem cutV_to {xs : List V} {i : Int} (h0 : 0 ≤ i) : cutV xs none (some i) = xs.take i.toNat := by
  obtain ⟨j, rfl⟩ := Int.eq_ofNat_of_zero_le h0
  unfold cutV
  rw [HT.sIx_none, HT.sIx_nat, List.drop_zero]
  show xs.take (min j xs.length - 0) = xs.take j
  rw [Nat.sub_zero]
  by_cases e : j ≤ xs.length
  · rw [Nat.min_eq_left e]
  · rw [Nat.min_eq_right (by omega), List.take_of_length_le (Nat.le_refl _), List.take_of_length_le (by omega)]
theorem rd_letter {K : PySem.W.Frag} {z : Str} {j : Int} {H : Hp} {Q : VK} (hz : (decide (z.length = 26) && z.cps.toList.all fun c => decide (97 ≤ c) && decide (c ≤ 122)) = true) (h0 : 0 ≤ j) (h1 : j < 26)
    (h : ∀ c : Nat, 97 ≤ c → c ≤ 122 → z.cps.toList[j.toNat]? = some c → Q (.str ⟨#[c]⟩) H) : rIx K (.str z) (.int j) H Q := by
  simp only [Bool.and_eq_true, decide_eq_true_eq, List.all_eq_true] at hz
  obtain ⟨hl, ha⟩ := hz
  obtain ⟨i, rfl⟩ := Int.eq_ofNat_of_zero_le h0
  have hi : i < z.cps.toList.length := by rw [len_cps, hl]; omega
  have e := List.getElem?_eq_getElem hi
  have hc := ha _ (List.getElem_mem hi)
  exact Or.inr (Or.inr ⟨z, i, _, rfl, rfl, by rw [hl]; decide, atI_nat e, h _ hc.1 hc.2 e⟩)
section
variable {P : Program} {w : World} {K : PySem.W.Frag} {mg : Str → Option Value} {base : Heap}
theorem ok__law_names (T : TX K mg) {k : Nat} : FnOk P w K mg base CX0 (k + 2) T.d__law_names.f T.d__law_names.fd P__law_names sp_names := by
  have G__law_take : FnOk P w K mg base CX0 (k + 1) T.d__law_take.f T.d__law_take.fd P__law_take sp_take := ok__law_take T
  refine T.d__law_names.F.ok sc__law_names (fun vs H Q E h => ?_) (fun cdv A outer s H vs Q E hr h => ?_)
  · obtain ⟨b, n, rfl, _⟩ := h
    rfl
  · obtain ⟨b, n, rfl, hB, h0, h1, q⟩ := h
    have hu64 := hr.units
    refine ⟨_, (pss_cons (ps_set (i := 2) sc__law_names.nd rfl (Or.inr rfl) pe_str) (pss_cons (ps_set (i := 3) sc__law_names.nd rfl (Or.inl rfl) pe_str) (pss_cons (ps_set (i := 3) sc__law_names.nd rfl (Or.inl rfl) (pe_bm PySem.F.plainAttrs_str PySem.F.slot_str_split PySem.F.type_str_split mt_split (pe_op (r := rAddG K) op_addG (pv 3) pe_str) (pa_cons pe_str pa_nil))) (pss_cons (ps_asg (pe_tup (pa_cons (pe_call G__law_take (hr.mono (by omega)) rfl T.d__law_take.g T.d__law_take.F.kp T.d__law_take.b .nil pass0 (pa_cons (pv 0) (pa_cons pe_int pa_nil))) (pa_cons (pe_call G__law_take (hr.mono (by omega)) rfl T.d__law_take.g T.d__law_take.F.kp T.d__law_take.b .nil pass0 (pa_cons (pv 0) (pa_cons pe_int pa_nil))) pa_nil))) (pg_tup rfl (pgs_cons (pg_name (i := 4) sc__law_names.nd rfl (Or.inl rfl)) (pgs_cons (pg_name (i := 5) sc__law_names.nd rfl (Or.inr rfl)) pgs_nil)))) (pss_cons (ps_set (i := 6) sc__law_names.nd rfl (Or.inr rfl) (pe_bm PySem.F.plainAttrs_str PySem.F.slot_str_join PySem.F.type_str_join mt_join pe_str (pa_cons (pe_lc (own := [("_law_k", 8)]) (g := gName 8) (by rfl) sc__law_names.nd (pi_range1 (by rfl) T.b_range (pa_cons (pe_op (r := rAddG K) op_addG pe_int (pe_call G__law_take (hr.mono (by omega)) rfl T.d__law_take.g T.d__law_take.F.kp T.d__law_take.b .nil pass0 (pa_cons (pv 0) (pa_cons pe_int pa_nil)))) pa_nil)) (blkOk_by (own := [("_law_k", 8)]) (N := N__law_names) (sc := defScope s__law_names) (by decide +kernel)) (fun _ _ _ _ _ => pg_name (i := 8) sc__law_names.nd rfl (Or.inl rfl)) (fun _ _ _ _ _ => pts_nil) (fun _ _ _ _ _ => (pe_ix (r := rIx K) ix_seq (pv 2) (pe_call G__law_take (hr.mono (by omega)) rfl T.d__law_take.g T.d__law_take.F.kp T.d__law_take.b .nil pass0 (pa_cons (pv 0) (pa_cons pe_int pa_nil))) (fun _ _ => rfl)))) pa_nil))) (pss_cons (ps_set (i := 7) sc__law_names.nd rfl (Or.inr rfl) (pe_call G__law_take (hr.mono (by omega)) rfl T.d__law_take.g T.d__law_take.F.kp T.d__law_take.b .nil pass0 (pa_cons (pv 0) (pa_cons (pe_op (r := rAddG K) op_addG (pe_callB (r := rLenG K) call_lenG (by rfl) T.b_len bt_len (pa_cons (pv 6) pa_nil)) pe_int) pa_nil)))) (pss_cons (ps_if (pt_cmpR (r := rEqG K) (op_eqG hu64) (pv 4) pe_int (nomark _)) (pss_one (ps_ret (pe_slice (r := rSlG K) sl_G (pe_op (r := rAddG K) op_addG (pe_slice (r := rSlG K) sl_G (pv 3) (po_some (pv 5)) po_none) (pe_slice (r := rSlG K) sl_G (pv 3) po_none (po_some (pv 5)))) po_none (po_some (pv 1))))) pss_nil) (pss_cons (ps_if (pt_cmpR (r := rEqG K) (op_eqG hu64) (pv 4) pe_int (nomark _)) (pss_one (ps_ret (pe_lc (own := [("_law_k", 8)]) (g := gName 8) (by rfl) sc__law_names.nd (pi_range1 (by rfl) T.b_range (pa_cons (pv 1) pa_nil)) (blkOk_by (own := [("_law_k", 8)]) (N := N__law_names) (sc := defScope s__law_names) (by decide +kernel)) (fun _ _ _ _ _ => pg_name (i := 8) sc__law_names.nd rfl (Or.inl rfl)) (fun _ _ _ _ _ => pts_nil) (fun _ _ _ _ _ => (pe_ix (r := rIx K) ix_seq (pv 2) (pe_op op_mod (pe_callTy call_int1 (by rfl) T.b_int bt_int (pa_cons (pe_op (r := rAddG K) op_addG (pv 5) (pe_op op_mulG pe_int (pv 8))) pa_nil)) pe_int) (fun _ _ => rfl)))))) pss_nil) (pss_one (ps_ret (pe_lc (own := [("_law_k", 8)]) (g := gName 8) (by rfl) sc__law_names.nd (pi_range1 (by rfl) T.b_range (pa_cons (pv 1) pa_nil)) (blkOk_by (own := [("_law_k", 8)]) (N := N__law_names) (sc := defScope s__law_names) (by decide +kernel)) (fun _ _ _ _ _ => pg_name (i := 8) sc__law_names.nd rfl (Or.inl rfl)) (fun _ _ _ _ _ => pts_nil) (fun _ _ _ _ _ => (pe_op (r := rAddG K) op_addG (pe_op (r := rAddG K) op_addG (pe_slice (r := rSlG K) sl_G (pv 6) po_none (po_some (pv 7))) (pe_ix (r := rIx K) ix_seq (pv 2) (pe_op op_mod (pe_callTy call_int1 (by rfl) T.b_int bt_int (pa_cons (pe_op (r := rAddG K) op_addG (pv 5) (pe_op op_mulG pe_int (pv 8))) pa_nil)) pe_int) (fun _ _ => rfl))) (pe_slice (r := rSlG K) sl_G (pv 6) (po_some (pv 7)) po_none)))))))))))))), ?_⟩
    refine ⟨_, rfl, Or.inr (Or.inl ⟨_, _, rfl, rfl, by decide +kernel, rfl, _, _, rfl, rfl, by decide +kernel, by decide +kernel, ?_⟩)⟩
    refine rd_split (X := (cxOf CX0 P w K mg base N__law_names "_law_names" (defScope s__law_names) T.d__law_names.f cdv A outer s H E)) (fun ws => decide (ws.length = 20) && ws.all fun x => decide (Nm x)) (by decide +kernel) fun wp ws H1 hws nwp ewp m1 => ?_
    simp only [Bool.and_eq_true, decide_eq_true_eq, List.all_eq_true] at hws
    obtain ⟨hw20, hwN⟩ := hws
    -- way, turn
    refine ⟨.ref b, rfl, b, 4, rfl, hB.mv m1, by decide, by decide, fun way H2 hw0 hw1 d2 => ⟨.ref b, rfl, b, 20, rfl, d2.bag (hB.mv m1), by decide, by decide, fun turn H3 ht0 ht1 d3 => ?_⟩⟩
    refine ⟨(by decide : 2 ≤ sizeLine), fun p np => ⟨p, _, rfl, .inl (.inl upd_same), rfl, _, _, rfl, _, _, rfl, rfl, ?_⟩⟩
    have d14 := (d2.trans d3).trans (Dr.new (o := .tup [.int way, .int turn]) np)
    have hB4 := d14.bag (hB.mv m1)
    generalize upd H3 p (.tup [.int way, .int turn]) = H4 at d14 hB4 ⊢
    have hwb : wp ≠ b := (hB.fneq nwp)
    have ew4 : H4 wp = some (.lst (ws.map V.str)) := d14.get hwb ewp
    -- base = ''.join([..])
    refine ⟨rfl, .ref b, rfl, b, 7, rfl, hB4, by decide, by decide, fun l H5 hl0 hl1 d5 => Or.inl ⟨1, l, rfl, rfl, 1 + l, rfl, by omega, by omega, fun D nD => ?_⟩⟩
    have hB5 := d5.bag hB4
    refine lc_range (lo := 0) (n := (1 + l).toNat) (fun i H6 => ∃ cs : List Nat, H6 D = some (.lst (cs.map fun c => V.str ⟨#[c]⟩)) ∧ cs.length = i ∧ (∀ c ∈ cs, 97 ≤ c ∧ c ≤ 122) ∧ Dr b H5 H6)
      ⟨[], upd_same, rfl, by simp, Dr.new nD⟩ (fun i H6 hi h6 => ?_) (fun H6 h6 => ?_)
    · obtain ⟨cs, e6, l6, c6, d6⟩ := h6
      refine ⟨rfl, _, rfl, .ref b, rfl, b, 26, rfl, d6.bag hB5, by decide, by decide, fun j H7 hj0 hj1 d7 => rd_letter (by decide +kernel) hj0 hj1 fun c hc0 hc1 _ => ?_⟩
      refine ⟨_, d7.get (hB5.fneq nD) e6, ?_, cs ++ [c], ?_, by simp [l6], ?_, (d6.trans d7).wr nD⟩
      · rw [List.length_map, l6]
        exact small1000 (by omega)
      · rw [upd_same, List.map_append]
        rfl
      · intro z hz
        rcases List.mem_append.mp hz with hz | hz
        · exact c6 z hz
        · rw [List.mem_singleton.mp hz]
          exact ⟨hc0, hc1⟩
    · obtain ⟨cs, e6, l6, c6, d6⟩ := h6
      have hmap : cs.map (fun c => V.str ⟨#[c]⟩) = (cs.map fun c => (⟨#[c]⟩ : Str)).map V.str := by rw [List.map_map]; rfl
      refine ⟨_, D, _, rfl, rfl, .inl (.inl (.inl (by rw [← hmap]; exact e6))), ?_, ?_⟩
      · rw [sum_ones, List.length_map, l6, show ("" : Str).length = 0 from by decide]
        omega
      · rw [join_chars]
        obtain ⟨B, hB0, hBl, hBc⟩ : ∃ B : Str, B = ⟨cs.toArray⟩ ∧ B.length = (1 + l).toNat ∧ ∀ c ∈ B.cps.toList, 97 ≤ c ∧ c ≤ 122 := ⟨_, rfl, by rw [← l6]; rfl, by simpa using c6⟩
        rw [← hB0]
        have hB6 := d6.bag hB5
        -- at
        refine ⟨.ref b, rfl, .str B, rfl, Or.inr (Or.inl ⟨B, rfl, Nat.le_of_lt (small1000 (by omega)), Or.inl ⟨_, 1, rfl, rfl, b, _, rfl, hB6, by omega, by omega, fun pl H7 hp0 hp1 d7 => ?_⟩⟩)⟩
        have d17 := (d14.trans d5).trans (d6.trans d7)
        have ew7 : H7 wp = some (.lst (ws.map V.str)) := d17.get hwb ewp
        have dH7 : Dr b H H7 := (Dr.of m1).trans d17
        have hB7 : Bag H7 b := dH7.bag hB
        have lenL : ∀ c : Nat, (⟨#[c]⟩ : Str).length = 1 := fun _ => rfl
        have fresh : ∀ {p H'}, Mv [] H7 H' → H' p = none → H p = none := fun m e => dH7.free hB (m.free e)
        refine ⟨.int way, rfl, Or.inl ⟨rfl, _, rfl, ite2 (fun e => ?_) (fun e => ?_)⟩⟩
        · -- the words, turned
          refine ⟨.ref wp, rfl, .int turn, rfl, turn, rfl, Or.inl ⟨wp, _, rfl, .inl (.inl ew7), fun p1 np1 => ?_⟩⟩
          have n1 : wp ≠ p1 := ne_of_none ew7 np1
          refine ⟨.ref wp, rfl, .int turn, rfl, turn, rfl, Or.inl ⟨wp, _, rfl, .inl (.inl (by rw [upd_ne n1]; exact ew7)), fun p2 np2 => ?_⟩⟩
          have n2 : p1 ≠ p2 := ne_of_none upd_same np2
          rw [cutV_from ht0 (by rw [List.length_map]; omega), cutV_to ht0] at *
          refine Or.inr (Or.inr (Or.inr ⟨p1, p2, _, _, rfl, rfl, by rw [upd_ne n2, upd_same], upd_same, ?_, fun p3 np3 => ?_⟩))
          · rw [List.length_drop, List.length_take, List.length_map]
            exact Nat.le_of_lt (small1000 (by omega))
          · refine ⟨.int n, rfl, (n : Int), rfl, Or.inl ⟨p3, _, rfl, .inl (.inl upd_same), fun p4 np4 => ?_⟩⟩
            refine q p4 ((ws.drop turn.toNat ++ ws.take turn.toNat).take n) _ ?_ (fun x hx => ?_) (fresh (((Mv.new (S := []) np1).trans (Mv.new np2)).trans (Mv.new np3)) np4) ?_ (dH7.trans (Dr.of (((Mv.new np1).trans (Mv.new np2)).trans ((Mv.new np3).trans (Mv.new np4)))))
            · rw [List.length_take, List.length_append, List.length_drop, List.length_take]
              omega
            · have h := List.mem_of_mem_take hx
              rcases List.mem_append.mp h with h | h
              · exact hwN x (List.mem_of_mem_drop h)
              · exact hwN x (List.mem_of_mem_take h)
            · rw [upd_same, cutV_to (by omega), List.map_take, List.map_append, List.map_drop, List.map_take]
              rfl
        · refine ⟨.int way, rfl, Or.inl ⟨rfl, _, rfl, ite2 (fun e => ?_) (fun e => ?_)⟩⟩
          · refine ⟨.int n, rfl, (n : Int), rfl, by omega, by omega, fun D8 nD8 => ?_⟩
            refine lc_range (lo := 0) (n := (n : Int).toNat) (fun i H8 => ∃ xs : List Str, H8 D8 = some (.lst (xs.map V.str)) ∧ xs.length = i ∧ (∀ x ∈ xs, Nm x) ∧ Mv [] H7 H8)
              ⟨[], upd_same, rfl, by simp, .new nD8⟩ (fun i H8 hi h8 => ?_) (fun H8 h8 => ?_)
            · obtain ⟨xs, e8, l8, c8, m8⟩ := h8
              refine ⟨rfl, _, rfl, .int turn, rfl, _, rfl, Or.inl ⟨3, _, rfl, rfl, .inl ⟨by decide, by decide⟩, Or.inl ⟨turn, _, rfl, rfl, Or.inl ⟨_, rfl, _, _, rfl, rfl, (by decide : (0 : Int) < _), ?_⟩⟩⟩⟩
              refine rd_letter (by decide +kernel) (Int.emod_nonneg _ (by decide)) (Int.emod_lt_of_pos _ (by decide)) fun c hc0 hc1 _ => ?_
              refine ⟨_, e8, ?_, xs ++ [⟨#[c]⟩], ?_, by simp [l8], ?_, m8.wr nD8⟩
              · rw [List.length_map, l8]
                exact small1000 (by omega)
              · rw [upd_same, List.map_append]
                rfl
              · intro z hz
                rcases List.mem_append.mp hz with hz | hz
                · exact c8 z hz
                · rw [List.mem_singleton.mp hz]
                  exact ⟨by rw [lenL]; decide, by rw [lenL]; decide, by simpa using ⟨hc0, hc1⟩⟩
            · obtain ⟨xs, e8, l8, c8, m8⟩ := h8
              exact q D8 xs H8 (by omega) c8 (dH7.free hB nD8) e8 (dH7.trans (Dr.of m8))
          · refine ⟨.int n, rfl, (n : Int), rfl, by omega, by omega, fun D8 nD8 => ?_⟩
            obtain ⟨at', rfl⟩ := Int.eq_ofNat_of_zero_le hp0
            have hat : at' ≤ B.length := by omega
            refine lc_range (lo := 0) (n := (n : Int).toNat) (fun i H8 => ∃ xs : List Str, H8 D8 = some (.lst (xs.map V.str)) ∧ xs.length = i ∧ (∀ x ∈ xs, Nm x) ∧ Mv [] H7 H8)
              ⟨[], upd_same, rfl, by simp, .new nD8⟩ (fun i H8 hi h8 => ?_) (fun H8 h8 => ?_)
            · obtain ⟨xs, e8, l8, c8, m8⟩ := h8
              have hsz : B.length ≤ sizeLine := Nat.le_of_lt (small1000 (by omega))
              have l1 : (cutS B none (some (at' : Int))).length = at' := by rw [← len_cps, cutS_to B at' hat, List.length_take, len_cps]; omega
              have l2 : (cutS B (some (at' : Int)) none).length = B.length - at' := by rw [← len_cps, cutS_from B at' hat, List.length_drop, len_cps]
              refine ⟨rfl, .str B, rfl, _, rfl, _, rfl, Or.inr (Or.inr ⟨B, rfl, hsz, _, rfl, .int turn, rfl, _, rfl, Or.inl ⟨3, _, rfl, rfl, .inl ⟨by decide, by decide⟩, Or.inl ⟨turn, _, rfl, rfl, Or.inl ⟨_, rfl, _, _, rfl, rfl, (by decide : (0 : Int) < _), ?_⟩⟩⟩⟩)⟩
              refine rd_letter (by decide +kernel) (Int.emod_nonneg _ (by decide)) (Int.emod_lt_of_pos _ (by decide)) fun c hc0 hc1 _ => ?_
              refine Or.inr (Or.inl ⟨_, _, rfl, rfl, by rw [l1, lenL]; exact Nat.le_of_lt (small1000 (by omega)), .str B, rfl, _, rfl, _, rfl, Or.inr (Or.inr ⟨B, rfl, hsz, Or.inr (Or.inl ⟨_, _, rfl, rfl, ?_, ?_⟩)⟩)⟩)
              · rw [str_len_append, l1, l2, lenL]
                exact Nat.le_of_lt (small1000 (by omega))
              · refine ⟨_, e8, ?_, xs ++ [cutS B none (some (at' : Int)) ++ ⟨#[c]⟩ ++ cutS B (some (at' : Int)) none], ?_, by simp [l8], ?_, m8.wr nD8⟩
                · rw [List.length_map, l8]
                  exact small1000 (by omega)
                · rw [upd_same, List.map_append]
                  rfl
                · intro z hz
                  rcases List.mem_append.mp hz with hz | hz
                  · exact c8 z hz
                  · rw [List.mem_singleton.mp hz]
                    refine ⟨?_, ?_, fun d hd => ?_⟩
                    · rw [str_len_append, str_len_append, l1, l2, lenL]
                      omega
                    · rw [str_len_append, str_len_append, l1, l2, lenL]
                      omega
                    · rw [str_cps_append, str_cps_append, cutS_to B at' hat, cutS_from B at' hat] at hd
                      rcases List.mem_append.mp hd with hd | hd
                      · rcases List.mem_append.mp hd with hd | hd
                        · exact hBc d (List.mem_of_mem_take hd)
                        · have : d = c := by simpa using hd
                          rw [this]
                          exact ⟨hc0, hc1⟩
                      · exact hBc d (List.mem_of_mem_drop hd)
            · obtain ⟨xs, e8, l8, c8, m8⟩ := h8
              exact q D8 xs H8 (by omega) c8 (dH7.free hB nD8) e8 (dH7.trans (Dr.of m8))
end
end Fm
namespace Fm
open PySem PySem.Spec PyProof.Rows L2
def sp_term (K : PySem.W.Frag) (d : Nat) : Sp := fun vs H Q _ => ∃ (b nm : Addr) (xs : List Str) (many deep : Int), vs = [.ref b, .ref nm, .int many, .int deep] ∧ Bag H b ∧
  H nm = some (.lst (xs.map V.str)) ∧ nm ≠ b ∧ xs ≠ [] ∧ xs.length ≤ 1000 ∧ (∀ x ∈ xs, Nm x) ∧ 0 ≤ many ∧ many ≤ 1000000 ∧ deep.toNat < d ∧
  ∀ v (t : Tm) H', t.ok (fun i => 0 ≤ i ∧ i < many) → t.dep ≤ max deep.toNat 1 → (0 < many → t.dep ≤ deep.toNat) → Im K H' v t.d → Dr b H H' → Q v H'
local macro_rules | `(tactic| walk_at "nn") => `(tactic| dsimp only [tC, tNil, tCons, tCB, tCall, gName, tSeq, tAsg, tPar, tDrop, tRet])
section
variable {P : Program} {w : World} {K : PySem.W.Frag} {mg : Str → Option Value} {base : Heap}
end
end Fm
namespace Fm
open PySem PySem.Spec PyProof.Rows L2
theorem bt_range : bootBuiltins "range" = some (.type "range") := by decide +kernel
/-! things: what a function of kinds may be handed -/
inductive Th where
  | non
  | bl (b : Bool)
  | int (i : Int)
  | str (x : Str)
  | tup (ts : List Th)
  | lst
  | dct
mutual
/-- v is such a thing; b: a list that may change meanwhile -/
def Is (K : PySem.W.Frag) (b : Addr) (H : Hp) (v : V) : Th → Prop
  | .non => v = .non
  | .bl c => v = .bl c
  | .int i => v = .int i
  | .str x => v = .str x ∧ x.length ≤ 1000
  | .tup ts => ∃ a xs, v = .ref a ∧ SqT K H a xs ∧ IsAll K b H xs ts
  | .lst => ∃ a xs, v = .ref a ∧ a ≠ b ∧ H a = some (.lst xs)
  | .dct => ∃ a kvs, v = .ref a ∧ a ≠ b ∧ H a = some (.dK kvs)
def IsAll (K : PySem.W.Frag) (b : Addr) (H : Hp) (xs : List V) : List Th → Prop
  | [] => xs = []
  | t :: ts => ∃ y ys, xs = y :: ys ∧ Is K b H y t ∧ IsAll K b H ys ts
end
section
variable {K : PySem.W.Frag} {b : Addr} {H H' : Hp}
mutual
theorem Is.mv (m : Mv [b] H H') : ∀ (t : Th) (v : V), Is K b H v t → Is K b H' v t
  | .non, v, h => h
  | .bl _, v, h => h
  | .int _, v, h => h
  | .str _, v, h => h
  | .tup ts, v, h => by
    obtain ⟨a, xs, e, hs, ha⟩ := h
    exact ⟨a, xs, e, m.sqT hs, IsAll.mv m ts xs ha⟩
  | .lst, v, h => by
    obtain ⟨a, xs, e, hb, ha⟩ := h
    exact ⟨a, xs, e, hb, m.keep a _ (by simpa using hb) ha⟩
  | .dct, v, h => by
    obtain ⟨a, xs, e, hb, ha⟩ := h
    exact ⟨a, xs, e, hb, m.keep a _ (by simpa using hb) ha⟩
theorem IsAll.mv (m : Mv [b] H H') : ∀ (ts : List Th) (xs : List V), IsAll K b H xs ts → IsAll K b H' xs ts
  | [], xs, h => h
  | t :: ts, xs, h => by
    obtain ⟨y, ys, e, h1, h2⟩ := h
    exact ⟨y, ys, e, Is.mv m t y h1, IsAll.mv m ts ys h2⟩
end
theorem Is.mv0 {t : Th} {v : V} (h : Is K b H v t) (m : Mv [] H H') : Is K b H' v t := Is.mv (m.mono (by simp)) t v h
theorem IsAll.mv0 {ts : List Th} {xs : List V} (h : IsAll K b H xs ts) (m : Mv [] H H') : IsAll K b H' xs ts := IsAll.mv (m.mono (by simp)) ts xs h
theorem Is.dr {t : Th} {v : V} (h : Is K b H v t) (m : Dr b H H') : Is K b H' v t := Is.mv m.mv t v h
theorem IsAll.dr {ts : List Th} {xs : List V} (h : IsAll K b H xs ts) (m : Dr b H H') : IsAll K b H' xs ts := IsAll.mv m.mv ts xs h
theorem IsAll.length : ∀ {ts : List Th} {xs : List V}, IsAll K b H xs ts → xs.length = ts.length
  | [], xs, h => by
    have h' : xs = [] := h
    rw [h']
    rfl
  | t :: ts, xs, h => by
    obtain ⟨y, ys, rfl, _, k⟩ := h
    simp [k.length]
theorem IsAll.append : ∀ {ts us : List Th} {xs ys : List V}, IsAll K b H xs ts → IsAll K b H ys us → IsAll K b H (xs ++ ys) (ts ++ us)
  | [], _, xs, _, h, k => by
    have h' : xs = [] := h
    rw [h']
    exact k
  | t :: ts, _, xs, _, h, k => by
    obtain ⟨y, zs, rfl, h1, h2⟩ := h
    exact ⟨y, zs ++ _, rfl, h1, h2.append k⟩
theorem IsAll.nil : IsAll K b H [] [] := rfl
theorem IsAll.cons {t : Th} {ts : List Th} {y : V} {ys : List V} (h : Is K b H y t) (k : IsAll K b H ys ts) : IsAll K b H (y :: ys) (t :: ts) := ⟨y, ys, rfl, h, k⟩
theorem IsAll.get : ∀ {ts : List Th} {xs : List V} {i : Nat} {v : V}, IsAll K b H xs ts → xs[i]? = some v → ∃ t, ts[i]? = some t ∧ Is K b H v t
  | [], xs, _, _, h, e => by
    have h' : xs = [] := h
    rw [h'] at e
    simp at e
  | t :: ts, _, 0, _, h, e => by
    obtain ⟨y, ys, rfl, h1, h2⟩ := h
    simp at e
    subst e
    exact ⟨t, rfl, h1⟩
  | t :: ts, _, i + 1, _, h, e => by
    obtain ⟨y, ys, rfl, h1, h2⟩ := h
    exact h2.get (i := i) (by simpa using e)
theorem IsAll.take : ∀ {ts : List Th} {xs : List V} (n : Nat), IsAll K b H xs ts → IsAll K b H (xs.take n) (ts.take n)
  | [], xs, n, h => by
    have h' : xs = [] := h
    rw [h']
    simpa using IsAll.nil
  | t :: ts, _, 0, h => by simpa using IsAll.nil
  | t :: ts, _, n + 1, h => by
    obtain ⟨y, ys, rfl, h1, h2⟩ := h
    exact IsAll.cons h1 (h2.take n)
theorem IsAll.drop : ∀ {ts : List Th} {xs : List V} (n : Nat), IsAll K b H xs ts → IsAll K b H (xs.drop n) (ts.drop n)
  | [], xs, n, h => by
    have h' : xs = [] := h
    rw [h']
    simpa using IsAll.nil
  | t :: ts, _, 0, h => by simpa using h
  | t :: ts, _, n + 1, h => by
    obtain ⟨y, ys, rfl, h1, h2⟩ := h
    exact h2.drop n
theorem IsAll.last {ts : List Th} {t : Th} : ∀ {us : List Th} {xs : List V}, us = ts ++ [t] → IsAll K b H xs us → ∃ ys y, xs = ys ++ [y] ∧ IsAll K b H ys ts ∧ Is K b H y t := by
  induction ts with
  | nil =>
    intro us xs e h
    subst e
    obtain ⟨y, ys, rfl, h1, h2⟩ := h
    have h3 : ys = [] := h2
    exact ⟨[], y, by rw [h3]; rfl, IsAll.nil, h1⟩
  | cons u ts ih =>
    intro us xs e h
    subst e
    obtain ⟨y, ys, rfl, h1, h2⟩ := h
    obtain ⟨zs, z, rfl, h3, h4⟩ := ih rfl h2
    exact ⟨y :: zs, z, rfl, IsAll.cons h1 h3, h4⟩
/-! classes -/
def tyN : Th → String
  | .non => "NoneType"
  | .bl _ => "bool"
  | .int _ => "int"
  | .str _ => "str"
  | .tup _ => "tuple"
  | .lst => "list"
  | .dct => "dict"
theorem tyx_is {t : Th} {v : V} (h : Is K b H v t) : TyX K H v (.type (tyN t)) := by
  cases t with
  | non => cases (show v = V.non from h); exact .base .non
  | bl c => cases (show v = V.bl c from h); exact .base (.bl c)
  | int i => cases (show v = V.int i from h); exact .base (.int i)
  | str x => cases (show v = V.str x from h.1); exact .base (.str x)
  | tup ts =>
    obtain ⟨a, xs, rfl, hs, _⟩ := h
    rcases hs with (hs | ⟨o, hs⟩) | ⟨o, its, n, hk, hc, _⟩
    · exact .base (.tup hs)
    · exact .fTuple hs
    · exact .kTuple hk hc
  | lst =>
    obtain ⟨a, xs, rfl, _, ha⟩ := h
    exact .base (.lst ha)
  | dct =>
    obtain ⟨a, kvs, rfl, _, ha⟩ := h
    exact .base (.dK ha)
theorem rd_isi {t : Th} {v : V} {T : String} {c : Bool} {Q : VK} (h : Is K b H v t) (k : kitB (tyN t) T = some c) (q : Q (.bl c) H) : rIsi K [v, .ty T] H Q := ⟨v, .ty T, _, _, c, rfl, .ty T, tyx_is h, kit_ty k, q⟩
def isIntT : Th → Bool
  | .int _ => true
  | .bl _ => true
  | _ => false
def isBoolT : Th → Bool
  | .bl _ => true
  | _ => false
def isStrT : Th → Bool
  | .str _ => true
  | _ => false
def isTupT : Th → Bool
  | .tup _ => true
  | _ => false
def isLstT : Th → Bool
  | .lst => true
  | _ => false
theorem kit_int (t : Th) : kitB (tyN t) "int" = some (isIntT t) := by cases t <;> (simp only [tyN, isIntT]; decide +kernel)
theorem kit_bool (t : Th) : kitB (tyN t) "bool" = some (isBoolT t) := by cases t <;> (simp only [tyN, isBoolT]; decide +kernel)
theorem kit_str (t : Th) : kitB (tyN t) "str" = some (isStrT t) := by cases t <;> (simp only [tyN, isStrT]; decide +kernel)
theorem kit_tup (t : Th) : kitB (tyN t) "tuple" = some (isTupT t) := by cases t <;> (simp only [tyN, isTupT]; decide +kernel)
theorem kit_lst (t : Th) : kitB (tyN t) "list" = some (isLstT t) := by cases t <;> (simp only [tyN, isLstT]; decide +kernel)
end
/-! what kind a thing is -/
def lettersS : Str := "abcdefghijklmnopqrstuvwxyz"
def nmd (x : Str) : Bool := decide (1 ≤ x.length) && decide (x.length ≤ 8) && x.cps.toList.all fun c => decide (c ∈ lettersS.cps.toList)
def isWhole : Th → Bool
  | .int _ => true
  | _ => false
def isNamed : Th → Bool
  | .str x => nmd x
  | _ => false
mutual
def isTerm : Th → Bool
  | .int i => decide (0 ≤ i)
  | .tup [] => false
  | .tup (t :: ts) => isNamed t && decide (ts.length ≤ 3) && isTerms ts
  | _ => false
def isTerms : List Th → Bool
  | [] => true
  | t :: ts => isTerm t && isTerms ts
end
mutual
def Th.cnt : Th → Nat
  | .tup ts => Th.cnts ts + 1
  | _ => 1
def Th.cnts : List Th → Nat
  | [] => 0
  | t :: ts => t.cnt + Th.cnts ts
end
theorem isTerms_all : ∀ ts : List Th, isTerms ts = ts.all isTerm
  | [] => by simp [isTerms]
  | t :: ts => by simp [isTerms, isTerms_all ts]
theorem Th.cnts_append : ∀ ts us : List Th, Th.cnts (ts ++ us) = Th.cnts ts + Th.cnts us
  | [], us => by simp [Th.cnts]
  | t :: ts, us => by
    simp only [List.cons_append, Th.cnts, Th.cnts_append ts us]
    omega
mutual
/-- a term as a thing -/
def Tm.th : Tm → Th
  | .var i => .int i
  | .op x ts => .tup (.str x :: Tm.ths ts)
def Tm.ths : List Tm → List Th
  | [] => []
  | t :: ts => t.th :: Tm.ths ts
end
section
variable {K : PySem.W.Frag} {b : Addr} {H : Hp}
mutual
theorem Is.of_im {R : Int → Prop} : ∀ (t : Tm) (v : V), t.ok R → Im K H v t.d → Is K b H v t.th
  | .var i, v, _, h => h.intI
  | .op x ts, v, k, h => by
    obtain ⟨a, xs0, rfl, ha, hxs⟩ := h.tupI
    obtain ⟨x', xs, rfl, hx', hys⟩ := hxs.invD
    exact ⟨a, x' :: xs, rfl, ha, IsAll.cons ⟨hx'.strI, by have := k.1.2.1; omega⟩ (IsAll.of_ims ts xs k.2.2 hys)⟩
theorem IsAll.of_ims {R : Int → Prop} : ∀ (ts : List Tm) (xs : List V), Tm.oks R ts → Ims K H xs (Tm.ds ts) → IsAll K b H xs (Tm.ths ts)
  | [], xs, _, h => h.nilD
  | t :: ts, xs, k, h => by
    obtain ⟨v, vs, rfl, h1, h2⟩ := h.invD
    exact IsAll.cons (Is.of_im t v k.1 h1) (IsAll.of_ims ts vs k.2 h2)
end
end
theorem nmd_nm {x : Str} (h : Nm x) : nmd x = true := by
  unfold nmd
  have h3 : (x.cps.toList.all fun c => decide (c ∈ lettersS.cps.toList)) = true := by
    rw [List.all_eq_true]
    intro c hc
    have := h.2.2 c hc
    have k : ∀ c : Fin 123, 97 ≤ c.val → decide (c.val ∈ lettersS.cps.toList) = true := by decide +kernel
    exact k ⟨c, by omega⟩ this.1
  rw [h3, decide_eq_true h.1, decide_eq_true h.2.1]
  rfl
end Fm
namespace Fm
open PySem PySem.Spec PyProof.Rows L2
local macro_rules | `(tactic| walk_at "nn") => `(tactic| dsimp only [tC, tNil, tCons, tCB, tCall, gName, tSeq, tAsg, tPar, tDrop, tRet])
local macro_rules | `(tactic| walk_at "nc") => `(tactic| dsimp only [tC, tNil, tCons, tCB])
theorem hu65_of {k : Nat} {A : Around} (h : Room k A) : A.units + 65 < cLine := by
  have := h.un
  omega
/-- a test of one thing -/
def sp_kind (K : PySem.W.Frag) (f : Th → Bool) : Sp := fun vs H Q _ => ∃ (v : V) (t : Th) (b : Addr), vs = [v] ∧ Is K b H v t ∧ ∀ H', Mv [] H H' → Q (.bl (f t)) H'
section
variable {P : Program} {w : World} {K : PySem.W.Frag} {mg : Str → Option Value} {base : Heap}
theorem ok_is_integer (T : TX K mg) {k : Nat} : FnOk P w K mg base CX0 (k + 1) T.d_is_integer.f T.d_is_integer.fd P_is_integer (sp_kind K isWhole) := by
  refine T.d_is_integer.F.ok sc_is_integer (fun vs H Q E h => ?_) (fun cdv A outer s H vs Q E hr h => ?_)
  · obtain ⟨_, _, _, rfl, _⟩ := h
    rfl
  · obtain ⟨v, t, b, rfl, hv, q⟩ := h
    refine ⟨_, (pss_one (ps_ret (pe_and (pe_callB (r := rIsi K) call_isi (by rfl) T.b_isinstance bt_isinstance (pa_cons (pv 0) (pa_cons (pe_ty T.b_int bt_int) pa_nil))) (pe_one (pe_not (pe_callB (r := rIsi K) call_isi (by rfl) T.b_isinstance bt_isinstance (pa_cons (pv 0) (pa_cons (pe_ty T.b_bool bt_bool) pa_nil)))))))), ?_⟩
    refine ⟨v, rfl, ?_⟩
    walk_at "nn"
    refine rd_isi hv (kit_int t) ?_
    refine ⟨_, rfl, ?_⟩
    cases t with
    | int j =>
      refine ⟨v, rfl, ?_⟩
      walk_at "nc"
      exact rd_isi hv (kit_bool (.int j)) ⟨_, rfl, q H .refl⟩
    | bl c =>
      refine ⟨v, rfl, ?_⟩
      walk_at "nc"
      exact rd_isi hv (kit_bool (.bl c)) ⟨_, rfl, q H .refl⟩
    | non => exact q H .refl
    | str x => exact q H .refl
    | tup ts => exact q H .refl
    | lst => exact q H .refl
    | dct => exact q H .refl
theorem ok_is_name (T : TX K mg) {k : Nat} : FnOk P w K mg base CX0 (k + 1) T.d_is_name.f T.d_is_name.fd P_is_name (sp_kind K isNamed) := by
  refine T.d_is_name.F.ok sc_is_name (fun vs H Q E h => ?_) (fun cdv A outer s H vs Q E hr h => ?_)
  · obtain ⟨_, _, _, rfl, _⟩ := h
    rfl
  · obtain ⟨v, t, b, rfl, hv, q⟩ := h
    have hu65 := hu65_of hr
    refine ⟨_, (pss_cons (ps_if (PW.pt (pw_or (pt_not (pt_val (pe_callB (r := rIsi K) call_isi (by rfl) T.b_isinstance bt_isinstance (pa_cons (pv 0) (pa_cons (pe_ty T.b_str bt_str) pa_nil))))) (pw_or1 (pt_not (pt_chain op_le op_le pe_int (pe_callB (r := rLenG K) call_lenG (by rfl) T.b_len bt_len (pa_cons (pv 0) pa_nil)) (pe_glob rfl T.c_MOST_LETTERS T.r_MOST_LETTERS)))))) (pss_one (ps_ret pe_bl)) pss_nil) (pss_one (ps_ret (pe_callB (r := rAll K) (cr_all rfl) (by rfl) T.b_all bt_all (pa_cons (pe_lc (own := [("sign", 1)]) (g := gName 1) (by rfl) sc_is_name.nd (pi_str (pv 0)) (blkOk_by (own := [("sign", 1)]) (N := N_is_name) (sc := defScope s_is_name) (by decide +kernel)) (fun _ _ _ _ _ => pg_name (i := 1) sc_is_name.nd rfl (Or.inl rfl)) (fun _ _ _ _ _ => pts_nil) (fun _ _ _ _ _ => (pe_cmpR (r := rInG K) (op_inG hu65) (pv 1) (pe_glob rfl T.c_LETTERS T.r_LETTERS) rfl))) pa_nil))))), ?_⟩
    refine ⟨v, rfl, ?_⟩
    walk_at "nn"
    refine rd_isi hv (kit_str t) ?_
    refine ⟨_, rfl, ?_⟩
    cases t with
    | int j => exact q H .refl
    | bl c => exact q H .refl
    | non => exact q H .refl
    | tup ts => exact q H .refl
    | lst => exact q H .refl
    | dct => exact q H .refl
    | str x =>
      obtain ⟨rfl, hlen⟩ := hv
      refine ⟨.str x, rfl, ?_⟩
      walk_at "nc"
      refine Or.inr (Or.inl ⟨x, rfl, Nat.le_of_lt (small1000 (by omega)), 1, _, rfl, rfl, _, rfl, ite2 (fun e1 => ?_) (fun e1 => ?_)⟩)
      · refine ⟨_, 8, rfl, rfl, _, rfl, ite2 (fun e2 => ?_) (fun e2 => ?_)⟩
        · have e : isNamed (.str x) = false := by
            simp only [isNamed, nmd]
            have : ¬ x.length ≤ 8 := by simp at e2; omega
            rw [decide_eq_false this]
            simp
          rw [e] at q
          exact q H .refl
        · have h1 : 1 ≤ x.length := by simp at e1; omega
          have h2 : x.length ≤ 8 := by simp at e2; omega
          refine ⟨.str x, rfl, x, rfl, fun D nD => ?_⟩
          have hsz : x.cps.toList.length = x.cps.size := by simp
          have hsl : x.cps.size = x.length := rfl
          refine lc_it walk_str (fun i H1 => H1 D = some (.lst (((x.cps.toList.take i).map fun c => decide (c ∈ lettersS.cps.toList)).map V.bl)) ∧ Mv [] H H1) ⟨upd_same, .new nD⟩ (fun _ _ _ _ => trivial) (fun i y H1 H2 hi h1 hy => ?_) (fun H1 h1 => ?_)
          · obtain ⟨e1, m1⟩ := h1
            obtain ⟨rfl, c, hc, rfl⟩ := hy
            have hc' : x.cps.toList[i]? = some c := by simpa using hc
            refine ⟨rfl, .str ⟨#[c]⟩, rfl, Or.inr ⟨c, _, rfl, rfl, _, e1, ?_, ?_, m1.wr nD⟩⟩
            · rw [List.length_map, List.length_map, List.length_take]
              exact small1000 (by omega)
            · rw [upd_same, List.take_add_one, hc']
              simp
              rfl
          · obtain ⟨e1, m1⟩ := h1
            rw [← hsz, List.take_length] at e1
            refine ⟨D, _, rfl, .inl (.inl e1), ?_⟩
            have e : isNamed (.str x) = ((x.cps.toList.map fun c => decide (c ∈ lettersS.cps.toList)).all id) := by
              simp only [isNamed, nmd]
              rw [decide_eq_true h1, decide_eq_true h2, List.all_map]
              rfl
            rw [← e]
            exact q H1 m1
      · have e : isNamed (.str x) = false := by
          simp only [isNamed, nmd]
          have : ¬ 1 ≤ x.length := by simp at e1; omega
          rw [decide_eq_false this]
          simp
        rw [e] at q
        exact ⟨_, rfl, q H .refl⟩
end
end Fm
namespace Fm
open PySem PySem.Spec PyProof.Rows L2
local macro_rules | `(tactic| walk_at "nn") => `(tactic| dsimp only [tC, tNil, tCons, tCB, tCall, gName, tSeq, tAsg, tPar, tDrop, tRet])
local macro_rules | `(tactic| walk_at "nc") => `(tactic| dsimp only [tC, tNil, tCons, tCB])
theorem isTerms_append (ts us : List Th) : isTerms (ts ++ us) = (isTerms ts && isTerms us) := by
  rw [isTerms_all, isTerms_all, isTerms_all, List.all_append]
theorem Th.cnt_pos (t : Th) : 1 ≤ t.cnt := by cases t <;> simp [Th.cnt]
theorem Th.cnts_len : ∀ ts : List Th, ts.length ≤ Th.cnts ts
  | [] => Nat.zero_le _
  | t :: ts => by
    have := Th.cnts_len ts
    have := t.cnt_pos
    simp only [Th.cnts, List.length_cons]
    omega
def sp_isTerm (K : PySem.W.Frag) : Sp := fun vs H Q _ => ∃ (v : V) (t : Th) (b : Addr), vs = [v] ∧ Is K b H v t ∧ t.cnt ≤ 90000 ∧ ∀ H', Mv [] H H' → Q (.bl (isTerm t)) H'
section
variable {P : Program} {w : World} {K : PySem.W.Frag} {mg : Str → Option Value} {base : Heap}
theorem ok_is_term (T : TX K mg) {k : Nat} : FnOk P w K mg base CX0 (k + 2) T.d_is_term.f T.d_is_term.fd P_is_term (sp_isTerm K) := by
  have G_is_integer : FnOk P w K mg base CX0 1 T.d_is_integer.f T.d_is_integer.fd P_is_integer (sp_kind K isWhole) := ok_is_integer T
  have G_is_name : FnOk P w K mg base CX0 1 T.d_is_name.f T.d_is_name.fd P_is_name (sp_kind K isNamed) := ok_is_name T
  refine T.d_is_term.F.ok sc_is_term (fun vs H Q E h => ?_) (fun cdv A outer s H vs Q E hr h => ?_)
  · obtain ⟨_, _, _, rfl, _⟩ := h
    rfl
  · obtain ⟨v, t, b, rfl, hv, hcn, q⟩ := h
    have hu65 := hu65_of hr
    refine ⟨_, (pss_cons (ps_set (i := 1) sc_is_term.nd rfl (Or.inl rfl) (pe_lst (pa_cons (pv 0) pa_nil))) (pss_cons (ps_while PassesOwn.never (pt_cmpR (r := rNeNil K) (op_neNil (Nat.lt_of_le_of_lt (Nat.le_add_right _ 65) hu65)) (pv 1) (pe_lst pa_nil) (nomark _)) (pss_cons (ps_set (i := 2) sc_is_term.nd rfl (Or.inl rfl) (pe_bm0 PySem.F.plainAttrs_list PySem.F.slot_list_pop PySem.F.type_list_pop mt_pop (pv 1))) (pss_one (ps_if (pt_val (pe_call G_is_integer (hr.mono (by omega)) rfl T.d_is_integer.g T.d_is_integer.F.kp T.d_is_integer.b .nil pass0 (pa_cons (pv 2) pa_nil))) (pss_one (ps_if (pt_cmpR op_lt (pv 2) pe_int (nomark _)) (pss_one (ps_ret pe_bl)) pss_nil)) (pss_one (ps_if (PW.pt (pw_or (pt_not (pt_val (pe_callB (r := rIsi K) call_isi (by rfl) T.b_isinstance bt_isinstance (pa_cons (pv 2) (pa_cons (pe_ty T.b_tuple bt_tuple) pa_nil))))) (pw_or (pt_not (pt_chain op_le op_le pe_int (pe_callB (r := rLenG K) call_lenG (by rfl) T.b_len bt_len (pa_cons (pv 2) pa_nil)) (pe_op (r := rAddG K) op_addG pe_int (pe_glob rfl T.c_MOST_PARTS T.r_MOST_PARTS)))) (pw_or1 (pt_not (pt_val (pe_call G_is_name (hr.mono (by omega)) rfl T.d_is_name.g T.d_is_name.F.kp T.d_is_name.b .nil pass0 (pa_cons (pe_ix (r := rIx K) ix_seq (pv 2) pe_int (fun _ _ => rfl)) pa_nil)))))))) (pss_one (ps_ret pe_bl)) (pss_one (ps_expr (pe_bm PySem.F.plainAttrs_list PySem.F.slot_list_extend PySem.F.type_list_extend (r := rExtG K) mt_extendG (pv 1) (pa_cons (pe_slice (r := rSlG K) sl_G (pv 2) (po_some pe_int) po_none) pa_nil)))))))))) (pss_one (ps_ret pe_bl)))), ?_⟩
    refine ⟨v, rfl, (by decide : 1 ≤ sizeLine), fun l nl => ?_⟩
    refine ⟨fun m σ H2 => ∃ (ys : List V) (us : List Th) (y : Option V), σ = [some v, some (.ref l), y] ∧ H2 l = some (.lst ys) ∧ IsAll K b H ys us ∧ isTerms us = isTerm t ∧ Th.cnts us ≤ 90000 ∧ m = Th.cnts us ∧ Mv [] H H2,
      ⟨_, [v], [t], none, rfl, upd_same, IsAll.cons hv IsAll.nil, by simp [isTerms], by simp only [Th.cnts]; omega, rfl, .new nl⟩, fun m σ H2 hW => ?_⟩
    obtain ⟨ys, us, y, rfl, e2, i2, s2, b2, rfl, m2⟩ := hW
    refine ⟨.ref l, rfl, Nat.zero_le _, fun q1 n1 => ⟨l, q1, ys, rfl, rfl, .inl (.inl (same_new n1 _ _ e2)), .inl (.inl upd_same), ?_⟩⟩
    have m23 : Mv [] H (upd H2 q1 (.lst [])) := m2.trans (.new n1)
    have e3 : upd H2 q1 (.lst []) l = some (.lst ys) := same_new n1 _ _ e2
    generalize upd H2 q1 (.lst []) = H3 at m23 e3 ⊢
    refine ⟨_, rfl, ?_⟩
    rcases List.eq_nil_or_concat us with rfl | ⟨us', u, rfl⟩
    · have hy : ys = [] := i2
      subst hy
      rw [show isTerms ([] : List Th) = true from by simp [isTerms]] at s2
      rw [← s2] at q
      exact q H3 m23
    · rw [List.concat_eq_append] at *
      obtain ⟨ys', z, rfl, i4, hz⟩ := IsAll.last rfl i2
      rw [show (!(ys' ++ [z]).isEmpty) = true by simp]
      refine ⟨fun σ' H' => ∃ m', m' < Th.cnts (us' ++ [u]) ∧ _, fun _ _ h => h, ?_⟩
      -- one = waiting.pop()
      refine ⟨.ref l, rfl, .inl ⟨rfl, _, .inl (.inl e3)⟩, l, _, z, rfl, rfl, e3, by simp, ?_⟩
      have m25 : Mv [] H (upd H3 l (.lst (ys' ++ [z]).dropLast)) := m23.wr nl
      have e5 : upd H3 l (.lst (ys' ++ [z]).dropLast) l = some (.lst ys') := by rw [upd_same, List.dropLast_concat]
      generalize upd H3 l (.lst (ys' ++ [z]).dropLast) = H5 at m25 e5 ⊢
      rw [Th.cnts_append] at b2 ⊢
      rw [isTerms_append] at s2
      have e1u : isTerms [u] = isTerm u := by simp [isTerms]
      have c1u : Th.cnts [u] = u.cnt := by simp [Th.cnts]
      rw [e1u] at s2
      rw [c1u] at b2 ⊢
      have hpos := u.cnt_pos
      have hbad : isTerm u = false → isTerm t = false := fun e => by rw [← s2, e, Bool.and_false]
      -- is_integer(one)
      refine ⟨z, rfl, z, u, b, rfl, hz.mv0 m25, fun H6 m6 => ?_⟩
      have m26 := m25.trans m6
      have e6 := m6.same _ _ e5
      refine ⟨_, rfl, ?_⟩
      have bad : isTupT u = false → isWhole u = false → isTerm u = false := fun h1 h2 => by
        cases u <;> simp [isTupT, isWhole, isTerm] at *
      cases u with
      | int i =>
        cases (show z = V.int i from hz)
        refine ⟨.int i, rfl, i, 0, rfl, rfl, _, rfl, ite2 (fun e => ?_) (fun e => ?_)⟩
        · have h0 : ¬ 0 ≤ i := by simp at e; omega
          have e9 := hbad (by simp only [isTerm]; exact decide_eq_false h0)
          rw [e9] at q
          exact q H6 m26
        · have h0 : 0 ≤ i := by simp at e; omega
          refine ⟨Th.cnts us', by omega, ys', us', _, rfl, e6, i4, ?_, by omega, rfl, m26⟩
          rw [← s2]
          simp only [isTerm]
          rw [decide_eq_true h0, Bool.and_true]
      | tup ts =>
        obtain ⟨a1, zs0, rfl, ha1, hzs0⟩ := hz
        have hl0 := hzs0.length
        have ha6 := m26.sqT ha1
        refine ⟨.ref a1, rfl, ?_⟩
        walk_at "nn"
        refine rd_isi (show Is K b H6 (.ref a1) (.tup ts) from ⟨a1, zs0, rfl, ha6, hzs0.mv0 m26⟩) (kit_tup (.tup ts)) ⟨_, rfl, ?_⟩
        refine ⟨.ref a1, rfl, ?_⟩
        walk_at "nc"
        refine rd_len (.inr ha6) ⟨1, _, rfl, rfl, _, rfl, ite2 (fun e => ?_) (fun e => ?_)⟩
        · have h1 : 1 ≤ zs0.length := by simp at e; omega
          refine Or.inl ⟨1, 3, rfl, rfl, _, _, rfl, rfl, _, rfl, ite2 (fun e1 => ?_) (fun e1 => ?_)⟩
          · have h2 : ¬ zs0.length ≤ 4 := by simp at e1; omega
            have e9 := hbad (by
              cases ts with
              | nil => simp [isTerm]
              | cons t0 tr =>
                simp only [List.length_cons] at hl0
                simp only [isTerm]
                rw [decide_eq_false (show ¬ tr.length ≤ 3 by omega)]
                simp)
            rw [e9] at q
            exact q H6 m26
          · have h2 : zs0.length ≤ 4 := by simp at e1; omega
            cases ts with
            | nil =>
              simp only [List.length_nil] at hl0
              omega
            | cons t0 tr =>
              obtain ⟨z0, zs, rfl, hz0, hzs⟩ := hzs0
              simp only [List.length_cons] at hl0 h2
              refine ⟨.ref a1, rfl, rd_ixT ha6 (by decide) (v := z0) rfl ?_⟩
              refine ⟨z0, t0, b, rfl, hz0.mv0 m26, fun H7 m7 => ⟨_, rfl, ite2 (fun e2 => ?_) (fun e2 => ?_)⟩⟩
              · have e9 := hbad (by
                  simp only [isTerm]
                  rw [show isNamed t0 = false by simpa using e2]
                  simp)
                rw [e9] at q
                exact q H7 (m26.trans m7)
              · have m27 := m26.trans m7
                have e7 := m7.same _ _ e6
                refine ⟨.ref l, rfl, .inl ⟨rfl, _, .inl (.inl e7)⟩, .ref a1, rfl, 1, rfl, rd_sl1 (m27.sqT ha1) fun p8 H8 m8 e8 => ?_⟩
                have hl4 := i4.length
                have hc4 := Th.cnts_len us'
                simp only [Th.cnt, Th.cnts] at b2 ⊢
                have hpos0 := t0.cnt_pos
                have hczs := Th.cnts_len tr
                refine Or.inr ⟨l, p8, ys', zs, rfl, rfl, m8.same _ _ e7, e8, Nat.le_trans (show ys'.length + zs.length ≤ 100000 by omega) (by decide), ?_⟩
                refine ⟨Th.cnts (us' ++ tr), by rw [Th.cnts_append]; omega, ys' ++ zs, us' ++ tr, _, rfl, upd_same, i4.append hzs, ?_, by rw [Th.cnts_append]; omega, rfl, (m27.trans m8).wr nl⟩
                rw [← s2, isTerms_append]
                simp only [isTerm]
                rw [show isNamed t0 = true by simpa using e2, decide_eq_true (show tr.length ≤ 3 by omega)]
                rfl
        · have h1 : ¬ 1 ≤ zs0.length := by simp at e; omega
          have e9 := hbad (by
            cases ts with
            | nil => simp [isTerm]
            | cons t0 tr =>
              simp only [List.length_cons] at hl0
              omega)
          rw [e9] at q
          exact ⟨_, rfl, q H6 m26⟩
      | non =>
        refine ⟨z, rfl, ?_⟩
        walk_at "nn"
        refine rd_isi (hz.mv0 m26) (kit_tup .non) ⟨_, rfl, ?_⟩
        have e9 := hbad (by simp [isTerm])
        rw [e9] at q
        exact q H6 m26
      | bl c =>
        refine ⟨z, rfl, ?_⟩
        walk_at "nn"
        refine rd_isi (hz.mv0 m26) (kit_tup (.bl c)) ⟨_, rfl, ?_⟩
        have e9 := hbad (by simp [isTerm])
        rw [e9] at q
        exact q H6 m26
      | str x =>
        refine ⟨z, rfl, ?_⟩
        walk_at "nn"
        refine rd_isi (hz.mv0 m26) (kit_tup (.str x)) ⟨_, rfl, ?_⟩
        have e9 := hbad (by simp [isTerm])
        rw [e9] at q
        exact q H6 m26
      | lst =>
        refine ⟨z, rfl, ?_⟩
        walk_at "nn"
        refine rd_isi (hz.mv0 m26) (kit_tup .lst) ⟨_, rfl, ?_⟩
        have e9 := hbad (by simp [isTerm])
        rw [e9] at q
        exact q H6 m26
      | dct =>
        refine ⟨z, rfl, ?_⟩
        walk_at "nn"
        refine rd_isi (hz.mv0 m26) (kit_tup .dct) ⟨_, rfl, ?_⟩
        have e9 := hbad (by simp [isTerm])
        rw [e9] at q
        exact q H6 m26
end
end Fm
namespace Fm
open PySem PySem.Spec PyProof.Rows L2
local macro_rules | `(tactic| walk_at "nn") => `(tactic| dsimp only [tC, tNil, tCons, tCB, tCall, gName, tSeq, tAsg, tPar, tDrop, tRet])
local macro_rules | `(tactic| walk_at "nc") => `(tactic| dsimp only [tC, tNil, tCons, tCB])
def initS (x : Str) : Str := ⟨(x.cps.toList.take (x.length - 1)).toArray⟩
def dashed (x : Str) : Bool := decide (x.cps.toList.drop (x.length - 1) = [45])
def isOutc : Th → Bool
  | .str x => if dashed x = true then nmd (initS x) else nmd x
  | _ => false
theorem toList_len (x : Str) : x.cps.toList.length = x.length := by simp; rfl
theorem sIx_m1 (n d : Nat) : HT.sIx n d (some (-1)) = n - 1 := by
  show (if (-1 : Int) < 0 then ((-1 : Int) + (n : Int)).toNat else min (-1 : Int).toNat n) = n - 1
  rw [if_pos (by decide)]
  omega
theorem cut_last (x : Str) : cutS x (some (-1)) none = ⟨(x.cps.toList.drop (x.length - 1)).toArray⟩ := by
  unfold cutS
  rw [sIx_m1, HT.sIx_none, List.take_of_length_le]
  rw [List.length_drop, toList_len]
  omega
theorem cut_init (x : Str) : cutS x none (some (-1)) = initS x := by
  unfold cutS initS
  rw [sIx_m1, HT.sIx_none, List.drop_zero, Nat.sub_zero]
theorem dash_eq (x : Str) : decide (V.str (cutS x (some (-1)) none) = V.str "-") = dashed x := by
  rw [cut_last]
  unfold dashed
  rw [Bool.eq_iff_iff, decide_eq_true_iff, decide_eq_true_iff]
  constructor
  · intro h
    injection h with h
    have h2 := congrArg (fun s : Str => s.cps.toList) h
    have e45 : (Str.ofString "-").cps.toList = [45] := by decide +kernel
    rw [← e45]
    simpa using h2
  · intro h
    rw [h]
    rfl
theorem initS_len (x : Str) : (initS x).length = x.length - 1 := by
  show (x.cps.toList.take (x.length - 1)).toArray.size = _
  rw [List.size_toArray, List.length_take, toList_len]
  omega
def sp_vals (K : PySem.W.Frag) : Sp := fun vs H Q _ => ∃ (n : Int) (v : V) (t : Th) (b : Addr), vs = [.int n, v] ∧ Is K b H v t ∧ t.cnt ≤ 90000 ∧ ∀ H', Mv [] H H' → Q (.bl (match t with | .tup ts => decide ((ts.length : Int) = n) && isTerms ts | _ => false)) H'
section
variable {P : Program} {w : World} {K : PySem.W.Frag} {mg : Str → Option Value} {base : Heap}
theorem ok_is_outcome (T : TX K mg) {k : Nat} : FnOk P w K mg base CX0 (k + 2) T.d_is_outcome.f T.d_is_outcome.fd P_is_outcome (sp_kind K isOutc) := by
  have G_is_name : FnOk P w K mg base CX0 1 T.d_is_name.f T.d_is_name.fd P_is_name (sp_kind K isNamed) := ok_is_name T
  refine T.d_is_outcome.F.ok sc_is_outcome (fun vs H Q E h => ?_) (fun cdv A outer s H vs Q E hr h => ?_)
  · obtain ⟨_, _, _, rfl, _⟩ := h
    rfl
  · obtain ⟨v, t, b, rfl, hv, q⟩ := h
    have hu64 := hr.units
    refine ⟨_, (pss_cons (ps_if (PW.pt (pw_and (pt_val (pe_callB (r := rIsi K) call_isi (by rfl) T.b_isinstance bt_isinstance (pa_cons (pv 0) (pa_cons (pe_ty T.b_str bt_str) pa_nil)))) (pw_and1 (pt_cmpR (r := rEqG K) (op_eqG hu64) (pe_slice (r := rSlG K) sl_G (pv 0) (po_some (pe_un un_neg pe_int)) po_none) pe_str (nomark _))))) (pss_one (ps_ret (pe_call G_is_name (hr.mono (by omega)) rfl T.d_is_name.g T.d_is_name.F.kp T.d_is_name.b .nil pass0 (pa_cons (pe_slice (r := rSlG K) sl_G (pv 0) po_none (po_some (pe_un un_neg pe_int))) pa_nil)))) pss_nil) (pss_one (ps_ret (pe_call G_is_name (hr.mono (by omega)) rfl T.d_is_name.g T.d_is_name.F.kp T.d_is_name.b .nil pass0 (pa_cons (pv 0) pa_nil))))), ?_⟩
    refine ⟨v, rfl, ?_⟩
    walk_at "nn"
    refine rd_isi hv (kit_str t) ⟨_, rfl, ?_⟩
    cases t with
    | int j => exact ⟨v, rfl, v, .int j, b, rfl, hv, q⟩
    | bl c => exact ⟨v, rfl, v, .bl c, b, rfl, hv, q⟩
    | non => exact ⟨v, rfl, v, .non, b, rfl, hv, q⟩
    | tup ts => exact ⟨v, rfl, v, .tup ts, b, rfl, hv, q⟩
    | lst => exact ⟨v, rfl, v, .lst, b, rfl, hv, q⟩
    | dct => exact ⟨v, rfl, v, .dct, b, rfl, hv, q⟩
    | str x =>
      obtain ⟨rfl, hlen⟩ := hv
      have hsz : x.length ≤ sizeLine := Nat.le_of_lt (small1000 (by omega))
      refine ⟨.str x, rfl, 1, rfl, -1, rfl, Or.inr (Or.inr ⟨x, rfl, hsz, Or.inl ⟨rfl, ?_⟩⟩)⟩
      have ed := dash_eq x
      rw [show (("-" : String) : Str) = Str.ofString "-" from rfl] at ed
      rw [ed]
      refine ⟨_, rfl, ite2 (fun e => ?_) (fun e => ?_)⟩
      · refine ⟨.str x, rfl, 1, rfl, -1, rfl, Or.inr (Or.inr ⟨x, rfl, hsz, ?_⟩)⟩
        rw [cut_init]
        refine ⟨_, .str (initS x), b, rfl, ⟨rfl, by rw [initS_len]; omega⟩, fun H' m => ?_⟩
        have := q H' m
        simp only [isOutc] at this
        rw [if_pos e] at this
        exact this
      · refine ⟨.str x, rfl, _, .str x, b, rfl, ⟨rfl, hlen⟩, fun H' m => ?_⟩
        have := q H' m
        simp only [isOutc] at this
        rw [if_neg e] at this
        exact this
end
end Fm
namespace Fm
open PySem PySem.Spec PyProof.Rows L2
local macro_rules | `(tactic| walk_at "nn") => `(tactic| dsimp only [tC, tNil, tCons, tCB, tCall, gName, tSeq, tAsg, tPar, tDrop, tRet])
local macro_rules | `(tactic| walk_at "nc") => `(tactic| dsimp only [tC, tNil, tCons, tCB, tCall])
/-! terms over some variables -/
mutual
def under (many : Int) : Th → Bool
  | .int i => decide (i < many)
  | .tup (_ :: ts) => unders many ts
  | _ => true
def unders (many : Int) : List Th → Bool
  | [] => true
  | t :: ts => under many t && unders many ts
end
theorem unders_append (many : Int) (ts us : List Th) : unders many (ts ++ us) = (unders many ts && unders many us) := by
  induction ts with
  | nil => simp [unders]
  | cons t ts ih => simp [unders, ih, Bool.and_assoc]
def sp_termOver (K : PySem.W.Frag) : Sp := fun vs H Q _ => ∃ (many : Int) (v : V) (t : Th) (b : Addr), vs = [.int many, v] ∧ Is K b H v t ∧ t.cnt ≤ 90000 ∧ ∀ H', Mv [] H H' → Q (.bl (isTerm t && under many t)) H'
section
variable {P : Program} {w : World} {K : PySem.W.Frag} {mg : Str → Option Value} {base : Heap}
theorem ok_is_term_over (T : TX K mg) {k : Nat} : FnOk P w K mg base CX0 (k + 3) T.d_is_term_over.f T.d_is_term_over.fd P_is_term_over (sp_termOver K) := by
  have G_is_term : FnOk P w K mg base CX0 2 T.d_is_term.f T.d_is_term.fd P_is_term (sp_isTerm K) := ok_is_term T
  refine T.d_is_term_over.F.ok sc_is_term_over (fun vs H Q E h => ?_) (fun cdv A outer s H vs Q E hr h => ?_)
  · obtain ⟨_, _, _, _, rfl, _⟩ := h
    rfl
  · obtain ⟨many, v, t, b, rfl, hv, hcn, q⟩ := h
    have hu65 := hu65_of hr
    refine ⟨_, (pss_cons (ps_if (pt_not (pt_val (pe_call G_is_term (hr.mono (by omega)) rfl T.d_is_term.g T.d_is_term.F.kp T.d_is_term.b .nil pass0 (pa_cons (pv 1) pa_nil)))) (pss_one (ps_ret pe_bl)) pss_nil) (pss_cons (ps_set (i := 2) sc_is_term_over.nd rfl (Or.inl rfl) (pe_lst (pa_cons (pv 1) pa_nil))) (pss_cons (ps_while PassesOwn.never (pt_cmpR (r := rNeNil K) (op_neNil (Nat.lt_of_le_of_lt (Nat.le_add_right _ 65) hu65)) (pv 2) (pe_lst pa_nil) (nomark _)) (pss_cons (ps_set (i := 3) sc_is_term_over.nd rfl (Or.inl rfl) (pe_bm0 PySem.F.plainAttrs_list PySem.F.slot_list_pop PySem.F.type_list_pop mt_pop (pv 2))) (pss_one (ps_if (pt_not (pt_val (pe_callB (r := rIsi K) call_isi (by rfl) T.b_isinstance bt_isinstance (pa_cons (pv 3) (pa_cons (pe_ty T.b_int bt_int) pa_nil))))) (pss_one (ps_expr (pe_bm PySem.F.plainAttrs_list PySem.F.slot_list_extend PySem.F.type_list_extend (r := rExtG K) mt_extendG (pv 2) (pa_cons (pe_slice (r := rSlG K) sl_G (pv 3) (po_some pe_int) po_none) pa_nil)))) (pss_one (ps_if (pt_cmpR op_ge (pv 3) (pv 0) (nomark _)) (pss_one (ps_ret pe_bl)) pss_nil)))))) (pss_one (ps_ret pe_bl))))), ?_⟩
    refine ⟨v, rfl, v, t, b, rfl, hv, hcn, fun H1 m1 => ⟨_, rfl, ite2 (fun e1 => ?_) (fun e1 => ?_)⟩⟩
    · have e9 : isTerm t = false := by simpa using e1
      rw [e9] at q
      exact q H1 m1
    have e9 : isTerm t = true := by simpa using e1
    rw [e9] at q
    refine ⟨v, rfl, (by decide : 1 ≤ sizeLine), fun l nl => ?_⟩
    have nl0 := m1.free nl
    refine ⟨fun m σ H2 => ∃ (ys : List V) (us : List Th) (y : Option V), σ = [some (.int many), some v, some (.ref l), y] ∧ H2 l = some (.lst ys) ∧ IsAll K b H ys us ∧ isTerms us = true ∧ unders many us = under many t ∧ Th.cnts us ≤ 90000 ∧ m = Th.cnts us ∧ Mv [] H H2,
      ⟨_, [v], [t], none, rfl, upd_same, IsAll.cons hv IsAll.nil, by simp [isTerms, e9], by simp [unders], by simp only [Th.cnts]; omega, rfl, m1.trans (.new nl)⟩, fun m σ H2 hW => ?_⟩
    obtain ⟨ys, us, y, rfl, e2, i2, s2, t2, b2, rfl, m2⟩ := hW
    refine ⟨.ref l, rfl, Nat.zero_le _, fun q1 n1 => ⟨l, q1, ys, rfl, rfl, .inl (.inl (same_new n1 _ _ e2)), .inl (.inl upd_same), ?_⟩⟩
    have m23 : Mv [] H (upd H2 q1 (.lst [])) := m2.trans (.new n1)
    have e3 : upd H2 q1 (.lst []) l = some (.lst ys) := same_new n1 _ _ e2
    generalize upd H2 q1 (.lst []) = H3 at m23 e3 ⊢
    refine ⟨_, rfl, ?_⟩
    rcases List.eq_nil_or_concat us with rfl | ⟨us', u, rfl⟩
    · have hy : ys = [] := i2
      subst hy
      rw [show unders many ([] : List Th) = true from by simp [unders]] at t2
      rw [← t2] at q
      exact q H3 m23
    · rw [List.concat_eq_append] at *
      obtain ⟨ys', z, rfl, i4, hz⟩ := IsAll.last rfl i2
      rw [show (!(ys' ++ [z]).isEmpty) = true by simp]
      refine ⟨fun σ' H' => ∃ m', m' < Th.cnts (us' ++ [u]) ∧ _, fun _ _ h => h, ?_⟩
      refine ⟨.ref l, rfl, .inl ⟨rfl, _, .inl (.inl e3)⟩, l, _, z, rfl, rfl, e3, by simp, ?_⟩
      have m25 : Mv [] H (upd H3 l (.lst (ys' ++ [z]).dropLast)) := m23.wr nl0
      have e5 : upd H3 l (.lst (ys' ++ [z]).dropLast) l = some (.lst ys') := by rw [upd_same, List.dropLast_concat]
      generalize upd H3 l (.lst (ys' ++ [z]).dropLast) = H5 at m25 e5 ⊢
      rw [Th.cnts_append] at b2 ⊢
      rw [isTerms_append, Bool.and_eq_true] at s2
      rw [unders_append] at t2
      have e1u : isTerms [u] = isTerm u := by simp [isTerms]
      have c1u : Th.cnts [u] = u.cnt := by simp [Th.cnts]
      rw [e1u] at s2
      rw [show unders many [u] = under many u by simp [unders]] at t2
      rw [c1u] at b2 ⊢
      have hpos := u.cnt_pos
      refine ⟨z, rfl, ?_⟩
      walk_at "nn"
      refine rd_isi (hz.mv0 m25) (kit_int u) ⟨_, rfl, ?_⟩
      cases u with
      | int i =>
        cases (show z = V.int i from hz)
        refine ⟨.int i, rfl, .int many, rfl, i, many, rfl, rfl, _, rfl, ite2 (fun e => ?_) (fun e => ?_)⟩
        · have h0 : ¬ i < many := by simp at e; omega
          rw [show under many t = false by rw [← t2]; simp only [under]; rw [decide_eq_false h0, Bool.and_false]] at q
          exact q H5 m25
        · have h0 : i < many := by simp at e; omega
          refine ⟨Th.cnts us', by omega, ys', us', _, rfl, e5, i4, s2.1, ?_, by omega, rfl, m25⟩
          rw [← t2]
          simp only [under]
          rw [decide_eq_true h0, Bool.and_true]
      | tup ts =>
        obtain ⟨a1, zs0, rfl, ha1, hzs0⟩ := hz
        cases ts with
        | nil => simp [isTerm] at s2
        | cons t0 tr =>
          obtain ⟨z0, zs, rfl, hz0, hzs⟩ := hzs0
          have s3 : isTerms tr = true ∧ tr.length ≤ 3 := by
            have := s2.2
            simp only [isTerm, Bool.and_eq_true, decide_eq_true_eq] at this
            exact ⟨this.2, this.1.2⟩
          have hlz := hzs.length
          refine ⟨.ref l, rfl, .inl ⟨rfl, _, .inl (.inl e5)⟩, .ref a1, rfl, 1, rfl, rd_sl1 (m25.sqT ha1) fun p8 H8 m8 e8 => ?_⟩
          have hl4 := i4.length
          have hc4 := Th.cnts_len us'
          simp only [Th.cnt, Th.cnts] at b2 ⊢
          have hpos0 := t0.cnt_pos
          have hczs := Th.cnts_len tr
          refine Or.inr ⟨l, p8, ys', zs, rfl, rfl, m8.same _ _ e5, e8, Nat.le_trans (show ys'.length + zs.length ≤ 100000 by omega) (by decide), ?_⟩
          refine ⟨Th.cnts (us' ++ tr), by rw [Th.cnts_append]; omega, ys' ++ zs, us' ++ tr, _, rfl, upd_same, i4.append hzs, ?_, ?_, by rw [Th.cnts_append]; omega, rfl, (m25.trans m8).wr nl0⟩
          · rw [isTerms_append, s2.1, s3.1]
            rfl
          · rw [← t2, unders_append]
            simp only [under]
      | non => simp [isTerm] at s2
      | bl c => simp [isTerm] at s2
      | str x => simp [isTerm] at s2
      | lst => simp [isTerm] at s2
      | dct => simp [isTerm] at s2
end
mutual
theorem isTerm_th {R : Int → Prop} (hR : ∀ i, R i → 0 ≤ i) : ∀ t : Tm, t.ok R → isTerm t.th = true
  | .var i, h => by simpa [Tm.th, isTerm] using hR i h
  | .op x ts, h => by
    simp only [Tm.th, isTerm, isNamed, nmd_nm h.1, isTerms_ths hR ts h.2.2, Bool.true_and, Bool.and_true, ths_len, decide_eq_true_eq]
    exact h.2.1
theorem isTerms_ths {R : Int → Prop} (hR : ∀ i, R i → 0 ≤ i) : ∀ ts : List Tm, Tm.oks R ts → isTerms (Tm.ths ts) = true
  | [], _ => by simp [Tm.ths, isTerms]
  | t :: ts, h => by simp [Tm.ths, isTerms, isTerm_th hR t h.1, isTerms_ths hR ts h.2]
theorem ths_len : ∀ ts : List Tm, (Tm.ths ts).length = ts.length
  | [] => by simp [Tm.ths]
  | t :: ts => by simp [Tm.ths, ths_len ts]
end
mutual
theorem under_th {R : Int → Prop} {n : Int} (hR : ∀ i, R i → i < n) : ∀ t : Tm, t.ok R → under n t.th = true
  | .var i, h => by simpa [Tm.th, under] using hR i h
  | .op x ts, h => by
    simp only [Tm.th, under]
    exact unders_ths hR ts h.2.2
theorem unders_ths {R : Int → Prop} {n : Int} (hR : ∀ i, R i → i < n) : ∀ ts : List Tm, Tm.oks R ts → unders n (Tm.ths ts) = true
  | [], _ => by simp [Tm.ths, unders]
  | t :: ts, h => by simp [Tm.ths, unders, under_th hR t h.1, unders_ths hR ts h.2]
end
mutual
theorem cnt_th : ∀ t : Tm, t.th.cnt ≤ t.cst + t.lv
  | .var i => by simp [Tm.th, Th.cnt, Tm.lv]
  | .op x ts => by
    have := cnts_ths ts
    simp only [Tm.th, Th.cnt, Th.cnts, Tm.cst, Tm.lv]
    omega
theorem cnts_ths : ∀ ts : List Tm, Th.cnts (Tm.ths ts) ≤ Tm.csts ts + Tm.lvs ts
  | [] => by simp [Tm.ths, Th.cnts]
  | t :: ts => by
    have := cnt_th t
    have := cnts_ths ts
    simp only [Tm.ths, Th.cnts, Tm.csts, Tm.lvs]
    omega
end
end Fm
namespace Fm
open PySem PySem.Spec PyProof.Rows L2 SlX
/-! a built-in's method within a comprehension, d.items() -/
section
variable {X : Cx} {K : PySem.W.Frag} {o e : Expr} {es : List Expr} {to : TE} {t : TA} {apos cpos : Pos} {T id : String} {name f : Str} {r : V → List V → Hp → VK → Prop}
theorem pe_bm0C (hK : X.K = K) (pa : PlainAttrs T) (slot : Slot T name id) (hty : typeOf (.builtin id) = pure (.type "method_descriptor")) (hm : MtR X id r) (ho : PE X o to)
    (hbase : attributeBase o name X.env (eval o X.env) = eval o X.env := by rfl) (hline : (apos.endLine == cpos.line) = true := by rfl) : PE X (.Call (.Attribute o name apos) [] [] cpos) (tBM0 K T r to) := by
  subst hK
  exact pe_bm0 pa slot hty hm ho hbase hline
theorem pe_slC (hK : X.K = K) (he : PE X e to) (hb : attributeBase e f X.env (eval e X.env) = eval e X.env := by rfl) : PE X (.Attribute e f apos) (SlX.tSl K to f) := by
  subst hK
  exact pe_sl he hb
end
/-- a dict comprehension over what is walked -/
theorem dc_it {J : It} {n : Nat} {G : Hp → Prop} {Y : Nat → Hp → V → Hp → Prop} (w : Walk J n G Y) {g : TG} {tt : TT} {tk tv : TE} {vs : List Nat} {σ : L2.St} {H1 : Hp} {D : Addr} {Qd : Hp → Prop} (Pv : Nat → Hp → Prop) (h0 : Pv 0 (upd H1 D (.dK []))) (hG : ∀ i H, i ≤ n → Pv i H → G H)
    (hs : ∀ i x H H', i < n → Pv i H → Y i H x H' → g x (wipe σ vs) H' fun σ2 H2 => wipe σ2 vs = wipe σ vs ∧ tt σ2 H2 fun b H3 =>
      if b = true then tk σ2 H3 fun y H4 => tv σ2 H4 fun z H5 => ∃ kvs k, y = kV k ∧ H5 D = some (.dK kvs) ∧ kvs.length < sizeLine ∧ Pv (i + 1) (upd H5 D (.dK (putK kvs k z))) else Pv (i + 1) H3) (hd : ∀ H, Pv n H → Qd H) :
    ∃ W : Nat → Nat → Hp → Prop, (∃ m, W 0 m (upd H1 D (.dK []))) ∧ ∀ i m H, W i m H →
      (J.stop i H ∧ Qd H) ∨ (J.go i H ∧ ∃ Nx : Hp → Prop, (∀ H', Nx H' → ∃ m', m' < m ∧ W (i + 1) m' H') ∧ ∀ x H', J.yld i H x H' → g x (wipe σ vs) H' fun σ2 H2 => wipe σ2 vs = wipe σ vs ∧ tt σ2 H2 fun b H3 =>
        if b = true then tk σ2 H3 fun y H4 => tv σ2 H4 fun z H5 => ∃ kvs k, y = kV k ∧ H5 D = some (.dK kvs) ∧ kvs.length < sizeLine ∧ Nx (upd H5 D (.dK (putK kvs k z))) else Nx H3) := by
  refine ⟨fun i m H => m = n - i ∧ i ≤ n ∧ Pv i H, ⟨n, by simp, Nat.zero_le _, h0⟩, ?_⟩
  rintro i m H ⟨rfl, hi, p⟩
  have q := hG i H hi p
  by_cases hlt : i < n
  · exact .inr ⟨w.goes i H hlt q, Pv (i + 1), fun H' p' => ⟨n - (i + 1), by omega, rfl, hlt, p'⟩, fun x H' y => hs i x H H' hlt p (w.yields i H x H' hlt q y)⟩
  · have e : i = n := by omega
    subst e
    exact .inl ⟨w.stops H q, hd H p⟩
/-! orders -/
structure TotO {κ : Type} (le : κ → κ → Bool) : Prop where
  tr : ∀ a b c, le a b = true → le b c = true → le a c = true
  to : ∀ a b, (le a b || le b a) = true
  an : ∀ a b, le a b = true → le b a = true → a = b
def leS (x y : Str) : Bool := !decide (y.cps.toList < x.cps.toList)
def leZ (i j : Int) : Bool := decide (i ≤ j)
theorem leS_iff {x y : Str} : leS x y = true ↔ x.cps.toList ≤ y.cps.toList := by
  unfold leS
  rw [Bool.not_eq_true', decide_eq_false_iff_not, List.not_lt]
theorem totS : TotO leS where
  tr a b c h k := leS_iff.mpr (List.le_trans (leS_iff.mp h) (leS_iff.mp k))
  to a b := by
    rcases List.le_total a.cps.toList b.cps.toList with h | h
    · rw [leS_iff.mpr h]; rfl
    · rw [leS_iff.mpr h, Bool.or_true]
  an a b h k := str_ext (List.le_antisymm (leS_iff.mp h) (leS_iff.mp k))
theorem totZ : TotO leZ where
  tr a b c h k := by
    have := of_decide_eq_true h
    have := of_decide_eq_true k
    exact decide_eq_true (by omega)
  to a b := by
    unfold leZ
    rw [← Bool.decide_or]
    exact decide_eq_true (by omega)
  an a b h k := by
    have := of_decide_eq_true h
    have := of_decide_eq_true k
    omega
theorem inj_of_nd {α κ : Type} {k : α → κ} : ∀ {xs : List α}, (xs.map k).Nodup → ∀ {a b}, a ∈ xs → b ∈ xs → k a = k b → a = b
  | [], _, _, _, h, _, _ => absurd h List.not_mem_nil
  | x :: xs, n, a, b, ha, hb, e => by
    rw [List.map_cons, List.nodup_cons] at n
    rcases List.mem_cons.mp ha with h1 | h1
    · rcases List.mem_cons.mp hb with h2 | h2
      · rw [h1, h2]
      · exact absurd (List.mem_map.mpr ⟨b, h2, by rw [← e, h1]⟩) n.1
    · rcases List.mem_cons.mp hb with h2 | h2
      · exact absurd (List.mem_map.mpr ⟨a, h1, by rw [e, h2]⟩) n.1
      · exact inj_of_nd n.2 h1 h2 e
section
variable {α κ : Type} {le : κ → κ → Bool} {k : α → κ}
/-- xs by the key k -/
def srt (le : κ → κ → Bool) (k : α → κ) (xs : List α) : List α := xs.mergeSort fun a b => le (k a) (k b)
theorem srt_perm (xs : List α) : (srt le k xs).Perm xs := List.mergeSort_perm _ _
theorem srt_pw (t : TotO le) (xs : List α) : (srt le k xs).Pairwise fun a b => le (k a) (k b) = true :=
  List.pairwise_mergeSort (le := fun a b => le (k a) (k b)) (fun a b c h h' => t.tr (k a) (k b) (k c) h h') (fun a b => t.to (k a) (k b)) xs
theorem srt_mem {xs : List α} {a : α} : a ∈ srt le k xs ↔ a ∈ xs := (srt_perm xs).mem_iff
theorem srt_len (xs : List α) : (srt le k xs).length = xs.length := (srt_perm xs).length_eq
theorem srt_one (t : TotO le) {xs ys : List α} (n : (xs.map k).Nodup) (p : ys.Perm xs) (s : ys.Pairwise fun a b => le (k a) (k b) = true) : ys = srt le k xs :=
  List.Perm.eq_of_pairwise (le := fun a b => le (k a) (k b) = true) (fun a b ha hb h h' => inj_of_nd n (p.mem_iff.mp ha) (srt_mem.mp hb) (t.an _ _ h h')) s (srt_pw t xs) (p.trans (srt_perm xs).symm)
theorem srt_keys (t : TotO le) {xs : List α} (n : (xs.map k).Nodup) {ys : List κ} (p : ys.Perm (xs.map k)) (s : ys.Pairwise fun a b => le a b = true) : ys = (srt le k xs).map k :=
  List.Perm.eq_of_pairwise (le := fun a b => le a b = true) (fun a b _ _ h h' => t.an _ _ h h') s (List.pairwise_map.mpr (srt_pw t xs)) (p.trans ((srt_perm xs).map k).symm)
theorem srt_nd {xs : List α} (n : (xs.map k).Nodup) : ((srt le k xs).map k).Nodup := ((srt_perm xs).map k).nodup_iff.mpr n
theorem srt_idem (t : TotO le) {xs : List α} (n : (xs.map k).Nodup) : srt le k (srt le k xs) = srt le k xs := (srt_one t (srt_nd n) (.refl _) (srt_pw t xs)).symm
theorem srt_of_perm (t : TotO le) {xs ys : List α} (n : (xs.map k).Nodup) (p : ys.Perm xs) : srt le k ys = srt le k xs := srt_one t n ((srt_perm ys).trans p) (srt_pw t ys)
end
theorem srt_map {α β κ : Type} {le : κ → κ → Bool} {k : α → κ} {l : β → κ} (t : TotO le) {f : α → β} (hk : ∀ a, l (f a) = k a) {xs : List α} (n : (xs.map k).Nodup) : srt le l (xs.map f) = (srt le k xs).map f := by
  have e : (xs.map f).map l = xs.map k := by
    rw [List.map_map]
    exact List.map_congr_left fun a _ => hk a
  refine (srt_one t (by rw [e]; exact n) ((srt_perm xs).map f) ?_).symm
  rw [List.pairwise_map]
  refine (srt_pw t xs).imp fun {a b} h => ?_
  rw [hk, hk]
  exact h
theorem risingS_pw : ∀ (p : Str) (l : List Str), risingS p l = true → (p :: l).Pairwise fun a b => leS a b = true
  | p, [], _ => List.pairwise_singleton _ _
  | p, x :: r, h => by
    have h' : (!ltCps x.cps.toList p.cps.toList) = true ∧ risingS x r = true := by simpa [risingS] using h
    have h1 : leS p x = true := by
      have := h'.1
      rw [ltCps_eq] at this
      exact this
    have ih := risingS_pw x r h'.2
    refine .cons (fun c hc => ?_) ih
    rcases List.mem_cons.mp hc with rfl | hc
    · exact h1
    · exact totS.tr _ _ _ h1 ((List.pairwise_cons.mp ih).1 c hc)
theorem sortedS_pw : ∀ (l : List Str), sortedS l = true → l.Pairwise fun a b => leS a b = true
  | [], _ => .nil
  | x :: r, h => risingS_pw x r h
theorem nd_key {α β : Type} {f : α → β} : ∀ {xs : List α} {x y : α}, (xs.map f).Nodup → x ∈ xs → y ∈ xs → f x = f y → x = y
  | z :: xs, x, y, n, hx, hy, e => by
    rw [List.map_cons, List.nodup_cons] at n
    rcases List.mem_cons.mp hx with ex | mx
    · rcases List.mem_cons.mp hy with ey | my
      · rw [ex, ey]
      · exact absurd (List.mem_map.mpr ⟨y, my, by rw [← e, ex]⟩) n.1
    · rcases List.mem_cons.mp hy with ey | my
      · exact absurd (List.mem_map.mpr ⟨x, mx, by rw [e, ey]⟩) n.1
      · exact nd_key n.2 mx my e
/-! dicts -/
section
variable {κ : Type} [DecidableEq κ]
theorem valV_mem {kvs : List (κ × V)} {k : κ} {v : V} (n : (kvs.map (·.1)).Nodup) (h : (k, v) ∈ kvs) : valV kvs k = some v := by
  induction kvs with
  | nil => exact absurd h List.not_mem_nil
  | cons p r ih =>
    rw [List.map_cons, List.nodup_cons] at n
    rcases List.mem_cons.mp h with rfl | h
    · exact valV_pos rfl
    · rw [valV_neg (fun e => n.1 (by rw [e]; exact List.mem_map.mpr ⟨_, h, rfl⟩))]
      exact ih n.2 h
theorem valV_none {kvs : List (κ × V)} {k : κ} (h : k ∉ kvs.map (·.1)) : valV kvs k = none := by
  induction kvs with
  | nil => rfl
  | cons p r ih =>
    rw [List.map_cons, List.mem_cons, not_or] at h
    rw [valV_neg (fun e => h.1 e.symm)]
    exact ih h.2
theorem putK_new {kvs : List (κ × V)} {k : κ} {v : V} (h : k ∉ kvs.map (·.1)) : putK kvs k v = kvs ++ [(k, v)] := by
  unfold putK
  rw [valV_any, valV_none h]
  rfl
theorem putK_keys {kvs : List (κ × V)} {k : κ} {v : V} : (putK kvs k v).map (·.1) = if k ∈ kvs.map (·.1) then kvs.map (·.1) else kvs.map (·.1) ++ [k] := by
  by_cases h : k ∈ kvs.map (·.1)
  · rw [if_pos h]
    unfold putK
    have : (kvs.any fun kv => decide (kv.1 = k)) = true := by
      obtain ⟨p, hp, e⟩ := List.mem_map.mp h
      exact List.any_eq_true.mpr ⟨p, hp, by simpa using e⟩
    rw [if_pos this, List.map_map]
    refine List.map_congr_left fun p _ => ?_
    simp only [Function.comp]
    split <;> rfl
  · rw [if_neg h, putK_new h]
    simp
theorem nd_snoc {α : Type} {xs : List α} {x : α} (n : xs.Nodup) (h : x ∉ xs) : (xs ++ [x]).Nodup := by
  rw [List.nodup_append]
  refine ⟨n, by simp, fun a ha b hb => ?_⟩
  rw [List.mem_singleton] at hb
  subst hb
  exact fun e => h (by rw [← e]; exact ha)
theorem putK_nd {kvs : List (κ × V)} {k : κ} {v : V} (n : (kvs.map (·.1)).Nodup) : ((putK kvs k v).map (·.1)).Nodup := by
  rw [putK_keys]
  split
  · exact n
  · exact nd_snoc n ‹_›
theorem putK_mem {kvs : List (κ × V)} {k : κ} {v : V} {p : κ × V} (h : p ∈ putK kvs k v) : p ∈ kvs ∨ p = (k, v) := by
  unfold putK at h
  split at h
  · obtain ⟨q, hq, rfl⟩ := List.mem_map.mp h
    split
    · rename_i e
      exact .inr (by rw [e])
    · exact .inl hq
  · rcases List.mem_append.mp h with h | h
    · exact .inl h
    · exact .inr (List.mem_singleton.mp h)
theorem putK_len {kvs : List (κ × V)} {k : κ} {v : V} : kvs.length ≤ (putK kvs k v).length ∧ (putK kvs k v).length ≤ kvs.length + 1 ∧ 1 ≤ (putK kvs k v).length := by
  have e : (putK kvs k v).length = ((putK kvs k v).map (·.1)).length := by simp
  have h := putK_keys (kvs := kvs) (k := k) (v := v)
  rw [e, h]
  split
  · rename_i hk
    have : 0 < (kvs.map (·.1)).length := List.length_pos_of_mem hk
    rw [List.length_map] at this ⊢
    omega
  · simp
end
theorem mergeK_nd : ∀ (more kvs : List (L2.Key × V)), ((kvs ++ more).map (·.1)).Nodup → mergeK kvs more = kvs ++ more
  | [], kvs, _ => by simp [mergeK]
  | p :: r, kvs, n => by
    have h : p.1 ∉ kvs.map (·.1) := by
      rw [List.map_append, List.nodup_append] at n
      intro h
      exact n.2.2 _ h p.1 (by simp) rfl
    show mergeK (putK kvs p.1 p.2) r = _
    rw [putK_new h, mergeK_nd r (kvs ++ [(p.1, p.2)]) (by simpa using n)]
    simp
/-! lists of texts -/
section
variable {K : PySem.W.Frag} {H : Hp}
theorem dp_strs : ∀ o : List Str, DpAll K H (o.map V.str) (o.map PyData.str)
  | [] => .nil
  | x :: o => .cons (.str x) (dp_strs o)
theorem strs_shaped {o : List Str} (h : ∀ s ∈ o, PyData.strOk s = true) : SeqAt.shaped (.list (o.map PyData.str)) = true := by
  have h1 : ∀ o : List Str, (∀ s ∈ o, PyData.strOk s = true) → PyData.canLayAll0 (o.map PyData.str) = true := fun o => by
    induction o with
    | nil => intro _; rfl
    | cons x o ih =>
      intro h
      simp [PyData.canLayAll0, PyData.canLay0, ih fun s hs => h s (by simp [hs]), h x (by simp)]
  have h2 : ∀ o : List Str, PyData.depthAll (o.map PyData.str) = 0 := fun o => by
    induction o with
    | nil => rfl
    | cons x o ih => simp [PyData.depthAll, PyData.depth, ih]
  show (PyData.canLay0 (.list (o.map PyData.str)) && decide (PyData.depth (.list (o.map PyData.str)) ≤ 64)) = true
  simp only [PyData.canLay0, PyData.depth, h1 o h, h2]
  rfl
theorem shaped_lay {d : PyData} (h : SeqAt.shaped d = true) : d.canLay0 = true := by
  have h' : (d.canLay0 && decide (d.depth ≤ 64)) = true := h
  rw [Bool.and_eq_true] at h'
  exact h'.1
/-- list of texts == list of texts, the same -/
theorem rd_eqS {a b : Addr} {xs : List Str} {Q : VK} (ha : H a = some (.lst (xs.map V.str))) (hb : H b = some (.lst (xs.map V.str))) (hx : ∀ s ∈ xs, PyData.strOk s = true) (q : Q (.bl true) H) : rEqG K (.ref a) (.ref b) H Q := by
  refine Or.inr ⟨_, _, .lst (.inl (.inl ha)) (dp_strs xs), .lst (.inl (.inl hb)) (dp_strs xs), strs_shaped hx, strs_shaped hx, ?_⟩
  rw [SeqAt.eqv_refl _ (shaped_lay (strs_shaped hx))]
  exact q
theorem inV_strs (x : Str) : ∀ xs : List Str, inV (.str x) (xs.map V.str) = decide (x ∈ xs)
  | [] => rfl
  | y :: ys => by
    have ih := inV_strs x ys
    unfold inV at ih ⊢
    rw [List.map_cons, List.any_cons, ih]
    simp only [eqV, List.mem_cons, Bool.decide_or]
    congr 1
    rw [Bool.eq_iff_iff, beq_iff_eq, decide_eq_true_iff]
    exact eq_comm
theorem flat_strs (xs : List Str) : (xs.map V.str).all flatV = true := by
  rw [List.all_map, List.all_eq_true]
  intro _ _
  rfl
/-- x not in a list of texts -/
theorem rd_notS {a : Addr} {xs : List Str} {x : Str} {Q : VK} (ha : H a = some (.lst (xs.map V.str))) (q : Q (.bl (!decide (x ∈ xs))) H) : rIn K true (.str x) (.ref a) H Q := by
  refine ⟨a, _, rfl, .inl (.inl (.inl ha)), rfl, flat_strs xs, ?_⟩
  rw [inV_strs]
  exact q
end
/-! d != {}, d == {} -/
section
variable {X : Cx}
def rNeE : R2 := fun x y H Q => ∃ (a b : Addr) (kvs : List (L2.Key × V)), x = .ref a ∧ y = .ref b ∧ H a = some (.dK kvs) ∧ H b = some (.dK []) ∧ Q (.bl (!kvs.isEmpty)) H
def rEqE : R2 := fun x y H Q => ∃ (a b : Addr) (kvs : List (L2.Key × V)), x = .ref a ∧ y = .ref b ∧ H a = some (.dK kvs) ∧ H b = some (.dK []) ∧ Q (.bl kvs.isEmpty) H
theorem op_neE (hu : X.A.units < cLine) : OpR X (compareOp .NotEq) rNeE := by
  intro pins s σ H x y v u Q I rx ry h
  obtain ⟨a, b, kvs, rfl, rfl, ea, eb, q⟩ := h
  cases kvs with
  | nil => exact op_ne_dictA hu pins s σ H _ _ v u Q I rx ry ⟨a, b, [], [], rfl, rfl, ea, eb, rfl, fun p hp => absurd hp List.not_mem_nil, q⟩
  | cons kv kvs =>
    obtain rfl : v = Value.ref a := rx
    obtain rfl : u = Value.ref b := ry
    obtain ⟨_, ya, va, ra, da⟩ := (show ObjOk X.prog X.w H s.heap a (.dK (kv :: kvs)) from I.hok a _ ea)
    obtain ⟨_, yb, vb, rb, db⟩ := (show ObjOk X.prog X.w H s.heap b (.dK []) from I.hok b _ eb)
    have hl : va.length ≠ vb.length := by rw [← ra.length, ← rb.length]; simp
    exact PySem.W.keq_ne (knd := mixKind X.prog X.w) (r := true) ya yb da db hu (fun h => absurd h hl) (fin_bl I q (by simp [hl]))
theorem op_eqE (hu : X.A.units < cLine) : OpR X (compareOp .Eq) rEqE := by
  intro pins s σ H x y v u Q I rx ry h
  obtain ⟨a, b, kvs, rfl, rfl, ea, eb, q⟩ := h
  cases kvs with
  | nil => exact op_eq_dictA hu pins s σ H _ _ v u Q I rx ry ⟨a, b, [], [], rfl, rfl, ea, eb, rfl, fun p hp => absurd hp List.not_mem_nil, q⟩
  | cons kv kvs =>
    obtain rfl : v = Value.ref a := rx
    obtain rfl : u = Value.ref b := ry
    obtain ⟨_, ya, va, ra, da⟩ := (show ObjOk X.prog X.w H s.heap a (.dK (kv :: kvs)) from I.hok a _ ea)
    obtain ⟨_, yb, vb, rb, db⟩ := (show ObjOk X.prog X.w H s.heap b (.dK []) from I.hok b _ eb)
    have hl : va.length ≠ vb.length := by rw [← ra.length, ← rb.length]; simp
    exact PySem.W.keq_eq (knd := mixKind X.prog X.w) (r := true) ya yb da db hu (fun h => absurd h hl) (fin_bl I q (by simp [hl]))
end
/-! heaps -/
section
variable {b p : Addr} {H H' : Hp} {o : HO}
theorem Dr.getK (d : Dr b H H') (hB : Bag H b) (h : H p = some o) (ho : ∀ xs, o ≠ .lst xs) : H' p = some o := by
  refine d.get ?_ h
  rintro rfl
  obtain ⟨xs, e⟩ := hB.lst
  rw [e] at h
  exact ho xs (Option.some.inj h).symm
theorem Mv.unlock {d : Addr} {u : HO} {od : Obj} (h : H d = some u) (hu : ∀ xs, u ≠ .tup xs) (hv : ∀ o xs, u ≠ .frz o (.tup xs)) (m : Mv [] (upd H d (.frz od u)) H') : Mv [] H (upd H' d u) := by
  refine ⟨fun a xs r => ?_, fun a o _ e => ?_⟩
  · have hd : a ≠ d := by
      rintro rfl
      rcases r with r | ⟨o, r⟩
      · rw [h] at r
        exact hu xs (Option.some.inj r)
      · rw [h] at r
        exact hv o xs (Option.some.inj r)
    have r' : Rd (upd H d (.frz od u)) a (.tup xs) := r.imp (fun r => by rw [upd_ne hd]; exact r) fun ⟨o, r⟩ => ⟨o, by rw [upd_ne hd]; exact r⟩
    exact (m.tk a xs r').imp (fun r => by rw [upd_ne hd]; exact r) fun ⟨o, r⟩ => ⟨o, by rw [upd_ne hd]; exact r⟩
  · by_cases hd : a = d
    · subst hd
      rw [upd_same, ← e, h]
    · rw [upd_ne hd]
      exact m.keep a o (by simp) (by rw [upd_ne hd]; exact e)
theorem Mv.put {d : Addr} {u o : HO} (h : H d = some u) (hu : ∀ xs, u ≠ .tup xs) (hv : ∀ o xs, u ≠ .frz o (.tup xs)) : Mv [d] H (upd H d o) := by
  refine ⟨fun a xs r => ?_, fun a o n e => ?_⟩
  · have hd : a ≠ d := by
      rintro rfl
      rcases r with r | ⟨o, r⟩
      · rw [h] at r
        exact hu xs (Option.some.inj r)
      · rw [h] at r
        exact hv o xs (Option.some.inj r)
    exact r.imp (fun r => by rw [upd_ne hd]; exact r) fun ⟨o, r⟩ => ⟨o, by rw [upd_ne hd]; exact r⟩
  · rw [upd_ne (fun z => n (by rw [z]; exact List.mem_singleton.mpr rfl))]
    exact e
theorem Mv.putD {d : Addr} {kvs : List (L2.Key × V)} {o : HO} (h : H d = some (.dK kvs)) : Mv [d] H (upd H d o) := .put h (fun _ z => by cases z) (fun _ _ z => by cases z)
theorem Mv.lock {d : Addr} {u : HO} {od : Obj} (h : H d = some u) (hu : ∀ xs, u ≠ .tup xs) (hv : ∀ o xs, u ≠ .frz o (.tup xs)) : Mv [d] H (upd H d (.frz od u)) := .put h hu hv
theorem slO_nolst {a C dx : Addr} {vs : List (Option V)} (xs : List V) : SlO a C dx vs ≠ .lst xs := fun z => by
  unfold SlO at z
  cases z
theorem Slt.mv {a C dx : Addr} {vs : List (Option V)} (h : Slt H a C dx vs) (m : Mv [] H H') : Slt H' a C dx vs := h.imp (fun h => ⟨m.same _ _ h.1, h.2⟩) fun h => ⟨m.same _ _ h.1, m.same _ _ h.2⟩
theorem Slt.dr {a C dx : Addr} {vs : List (Option V)} (h : Slt H a C dx vs) (d : Dr b H H') (hB : Bag H b) : Slt H' a C dx vs :=
  h.imp (fun h => ⟨d.getK hB h.1 (fun _ z => by cases z), h.2⟩) fun h => ⟨d.getK hB h.1 slO_nolst, d.getK hB h.2 (fun _ z => by cases z)⟩
end
/-! acts -/
structure ActR where
  nm : Str
  ar : Int
  outs : List (Str × Int)
/-- an act in a dict: its tuple at a, its outcomes at o -/
structure ActA where
  r : ActR
  a : Addr
  o : Addr
def ActA.kv (z : ActA) : L2.Key × V := (.inr z.r.nm, .ref z.a)
structure ActsAt (K : PySem.W.Frag) (H : Hp) (d : Addr) (zs : List ActA) : Prop where
  at_ : H d = some (.dK (zs.map ActA.kv))
  nd : (zs.map (·.r.nm)).Nodup
  tup : ∀ z ∈ zs, SqT K H z.a [.int z.r.ar, .ref z.o]
  out : ∀ z ∈ zs, H z.o = some (.dK (z.r.outs.map rowK))
  ond : ∀ z ∈ zs, (z.r.outs.map (·.1)).Nodup
section
variable {K : PySem.W.Frag} {H H' : Hp} {b d : Addr} {zs : List ActA}
theorem ActsAt.mv (h : ActsAt K H d zs) (m : Mv [] H H') : ActsAt K H' d zs := ⟨m.same _ _ h.at_, h.nd, fun z hz => m.sqT (h.tup z hz), fun z hz => m.same _ _ (h.out z hz), h.ond⟩
theorem ActsAt.dr (h : ActsAt K H d zs) (m : Dr b H H') (hB : Bag H b) : ActsAt K H' d zs :=
  ⟨m.getK hB h.at_ (fun _ z => by cases z), h.nd, fun z hz => m.mv.sqT (h.tup z hz), fun z hz => m.getK hB (h.out z hz) (fun _ z => by cases z), h.ond⟩
theorem kv_keys (zs : List ActA) : (zs.map ActA.kv).map (·.1) = (zs.map (·.r.nm)).map Sum.inr := by
  rw [List.map_map, List.map_map]
  rfl
theorem nd_inr {xs : List Str} (n : xs.Nodup) : (xs.map (Sum.inr : Str → L2.Key)).Nodup := by
  refine List.Pairwise.map _ (fun a b h => ?_) n
  exact fun e => h (Sum.inr.inj e)
theorem ActsAt.nk (h : ActsAt K H d zs) : ((zs.map ActA.kv).map (·.1)).Nodup := by
  rw [kv_keys]
  exact nd_inr h.nd
theorem ActsAt.val (h : ActsAt K H d zs) {z : ActA} (hz : z ∈ zs) : valV (zs.map ActA.kv) (.inr z.r.nm) = some (.ref z.a) := valV_mem h.nk (List.mem_map.mpr ⟨z, hz, rfl⟩)
theorem row_keys (rs : List (Str × Int)) : (rs.map rowK).map (·.1) = (rs.map (·.1)).map Sum.inr := by
  rw [List.map_map, List.map_map]
  rfl
theorem row_val {rs : List (Str × Int)} (n : (rs.map (·.1)).Nodup) {x : Str} {i : Int} (h : (x, i) ∈ rs) : valV (rs.map rowK) (.inr x) = some (.int i) :=
  valV_mem (by rw [row_keys]; exact nd_inr n) (List.mem_map.mpr ⟨(x, i), h, rfl⟩)
/-- behind a lock on d itself, or on another dict -/
theorem Dr.lst_ne {l : Addr} {xs : List V} (hB : Bag H b) (h : H l = some (.lst xs)) (hx : ∀ i, xs.getLast? ≠ some (.ref i)) : l ≠ b := by
  rintro rfl
  obtain ⟨c, s, m, k, ns, h1, _⟩ := hB
  rw [h1] at h
  have := Option.some.inj h
  injection this with this
  exact hx c (by rw [← this]; rfl)
end
def ActR.norm (r : ActR) : ActR := { r with outs := srt leS (·.1) r.outs }
def normW (rs : List ActR) : List ActR := srt leS (·.nm) (rs.map ActR.norm)
theorem paired_rows {K : PySem.W.Frag} {H : Hp} : ∀ (ps : List (Addr × Str × Int)), (∀ z ∈ ps, H z.1 = some (.tup [.str z.2.1, .int z.2.2])) → Paired (fun p (kv : L2.Key × V) => SqT K H p [kV kv.1, kv.2]) (ps.map (·.1)) ((ps.map (·.2)).map rowK)
  | [], _ => .nil
  | z :: ps, h => .cons (.inl (.inl (h z (by simp)))) (paired_rows ps fun y hy => h y (by simp [hy]))
/-- dict of the pairs of a list, in order by their texts -/
theorem srt_outs {rows qs : List (Str × Int)} (n : (rows.map (·.1)).Nodup) (p : qs.Perm rows) (s : qs.Pairwise fun e f => e.1.cps.toList < f.1.cps.toList) : qs = srt leS (·.1) rows :=
  srt_one totS n p (s.imp fun {a b} h => leS_iff.mpr (List.le_of_lt h))
/-- a World at x -/
def WldAt (K : PySem.W.Frag) (H : Hp) (C x : Addr) (rs : List ActR) : Prop := ∃ dx d zs, Slt H x C dx [some (.ref d)] ∧ ActsAt K H d zs ∧ zs.map (·.r) = rs
section
variable {K : PySem.W.Frag} {H H' : Hp} {b C x : Addr} {rs : List ActR}
theorem WldAt.mv (h : WldAt K H C x rs) (m : Mv [] H H') : WldAt K H' C x rs := by
  obtain ⟨dx, d, zs, h1, h2, h3⟩ := h
  exact ⟨dx, d, zs, Slt.mv h1 m, h2.mv m, h3⟩
theorem WldAt.dr (h : WldAt K H C x rs) (m : Dr b H H') (hB : Bag H b) : WldAt K H' C x rs := by
  obtain ⟨dx, d, zs, h1, h2, h3⟩ := h
  exact ⟨dx, d, zs, Slt.dr h1 m hB, h2.dr m hB, h3⟩
end
end Fm
namespace Fm
open PySem PySem.Spec PyProof.Rows L2 SlX
local macro_rules | `(tactic| walk_at "nn") => `(tactic| dsimp only [tC, tNil, tCons, tCB, tCall, gName, tSeq, tAsg, tPar, tDrop, tRet])
local macro_rules | `(tactic| walk_at "nc") => `(tactic| dsimp only [tC, tNil, tCons, tCB, tCall])
/-- a name of an outcome -/
def On (x : Str) : Prop := isOutc (.str x) = true ∧ x.length ≤ 9
theorem on_nm {x : Str} (h : Nm x) : On x := by
  refine ⟨?_, by have := h.2.1; omega⟩
  have hd : dashed x = false := by
    unfold dashed
    refine decide_eq_false fun e => ?_
    have h1 : 45 ∈ x.cps.toList := List.mem_of_mem_drop (i := x.length - 1) (by rw [e]; simp)
    have := h.2.2 45 h1
    omega
  simp only [isOutc]
  rw [hd]
  exact nmd_nm h
theorem on_ok {x : Str} (h : On x) : PyData.strOk x = true := by
  show x.cps.all (· < 0x110000) = true
  rw [Array.all_eq_true_iff_forall_mem]
  have low : ∀ z : Str, nmd z = true → ∀ c ∈ z.cps.toList, c < 0x110000 := fun z hz c hc => by
    unfold nmd at hz
    rw [Bool.and_eq_true, List.all_eq_true] at hz
    have := hz.2 c hc
    have k : ∀ c ∈ lettersS.cps.toList, c < 0x110000 := by decide +kernel
    exact k c (of_decide_eq_true this)
  intro c hc
  have hc' : c ∈ x.cps.toList := by simpa using hc
  have h1 := h.1
  simp only [isOutc] at h1
  simp only [decide_eq_true_eq]
  split at h1
  · rename_i hd
    have hd' : x.cps.toList.drop (x.length - 1) = [45] := of_decide_eq_true hd
    rw [← List.take_append_drop (x.length - 1) x.cps.toList, hd'] at hc'
    rcases List.mem_append.mp hc' with hc' | hc'
    · exact low _ h1 c (by simpa [initS] using hc')
    · rw [List.mem_singleton] at hc'
      omega
  · exact low x h1 c hc'
structure ActR.ok (r : ActR) : Prop where
  nm : Nm r.nm
  ar0 : 0 ≤ r.ar
  ar2 : r.ar ≤ 2
  o1 : 1 ≤ r.outs.length
  o6 : r.outs.length ≤ 6
  on : ∀ e ∈ r.outs, On e.1 ∧ 0 ≤ e.2 ∧ e.2 ≤ 2
theorem ActR.ok_norm {r : ActR} (h : r.ok) : r.norm.ok := ⟨h.nm, h.ar0, h.ar2, by simp only [ActR.norm]; rw [srt_len]; exact h.o1, by simp only [ActR.norm]; rw [srt_len]; exact h.o6, fun e he => h.on e (srt_mem.mp he)⟩
def within (m : Int) : Th → Bool
  | .int i => decide (0 ≤ i) && decide (i ≤ m)
  | _ => false
def sp_within (K : PySem.W.Frag) : Sp := fun vs H Q _ => ∃ (v : V) (t : Th) (b : Addr) (m : Int), vs = [v, .int m] ∧ Is K b H v t ∧ ∀ H', Mv [] H H' → Q (.bl (within m t)) H'
def sp_outs : Sp := fun vs H Q _ => ∃ (o : Addr) (rows : List (Str × Int)), vs = [.ref o] ∧ H o = some (.dK (rows.map rowK)) ∧ (rows.map (·.1)).Nodup ∧ 1 ≤ rows.length ∧ rows.length ≤ 6 ∧ (∀ e ∈ rows, On e.1 ∧ 0 ≤ e.2 ∧ e.2 ≤ 2) ∧ ∀ H', Mv [] H H' → Q (.bl true) H'
def sp_act (K : PySem.W.Frag) : Sp := fun vs H Q _ => ∃ (r : ActR) (a o : Addr), vs = [.ref a] ∧ SqT K H a [.int r.ar, .ref o] ∧ H o = some (.dK (r.outs.map rowK)) ∧ (r.outs.map (·.1)).Nodup ∧ r.ok ∧ ∀ H', Mv [] H H' → Q (.bl true) H'
theorem tyx_sqT {K : PySem.W.Frag} {H : Hp} {a : Addr} {xs : List V} (h : SqT K H a xs) : TyX K H (.ref a) (.type "tuple") := by
  rcases h with (hs | ⟨o, hs⟩) | ⟨o, its, n, hk, hc, _⟩
  · exact .base (.tup hs)
  · exact .fTuple hs
  · exact .kTuple hk hc
theorem hu1_of {k : Nat} {A : Around} (h : Room k A) : A.units + 1 < cLine := by
  have := hu65_of h
  omega
section
variable {P : Program} {w : World} {K : PySem.W.Frag} {mg : Str → Option Value} {base : Heap}
theorem ok_is_within (T : TX K mg) {k : Nat} : FnOk P w K mg base CX0 (k + 2) T.d_is_within.f T.d_is_within.fd P_is_within (sp_within K) := by
  have G_is_integer : FnOk P w K mg base CX0 1 T.d_is_integer.f T.d_is_integer.fd P_is_integer (sp_kind K isWhole) := ok_is_integer T
  refine T.d_is_within.F.ok sc_is_within (fun vs H Q E h => ?_) (fun cdv A outer s H vs Q E hr h => ?_)
  · obtain ⟨_, _, _, _, rfl, _⟩ := h
    rfl
  · obtain ⟨v, t, b, m, rfl, hv, q⟩ := h
    refine ⟨_, (pss_one (ps_ret (pe_and (pe_call G_is_integer (hr.mono (by omega)) rfl T.d_is_integer.g T.d_is_integer.F.kp T.d_is_integer.b .nil pass0 (pa_cons (pv 0) pa_nil)) (pe_one (pe_chain op_le op_le pe_int (pv 0) (pv 1)))))), ?_⟩
    refine ⟨v, rfl, v, t, b, rfl, hv, fun H1 m1 => ⟨_, rfl, ?_⟩⟩
    cases t with
    | int i =>
      cases (show v = V.int i from hv)
      refine ⟨.int i, rfl, 0, i, rfl, rfl, _, rfl, ite2 (fun e => ?_) (fun e => ?_)⟩
      · refine ⟨.int m, rfl, i, m, rfl, rfl, ?_⟩
        have := q H1 m1
        simp only [within] at this
        rw [show decide (0 ≤ i) = true from e] at this
        exact this
      · have := q H1 m1
        simp only [within] at this
        rw [show decide (0 ≤ i) = false by simpa using e] at this
        exact this
    | bl c => exact q H1 m1
    | non => exact q H1 m1
    | str x => exact q H1 m1
    | tup ts => exact q H1 m1
    | lst => exact q H1 m1
    | dct => exact q H1 m1
theorem ok_are_outcomes (T : TX K mg) {k : Nat} : FnOk P w K mg base CX0 (k + 3) T.d_are_outcomes.f T.d_are_outcomes.fd P_are_outcomes sp_outs := by
  have G_is_outcome : FnOk P w K mg base CX0 2 T.d_is_outcome.f T.d_is_outcome.fd P_is_outcome (sp_kind K isOutc) := ok_is_outcome T
  have G_is_within : FnOk P w K mg base CX0 2 T.d_is_within.f T.d_is_within.fd P_is_within (sp_within K) := ok_is_within T
  refine T.d_are_outcomes.F.ok sc_are_outcomes (fun vs H Q E h => ?_) (fun cdv A outer s H vs Q E hr h => ?_)
  · obtain ⟨_, _, rfl, _⟩ := h
    rfl
  · obtain ⟨o, rows, rfl, ho, hnd, h1, h6, hon, q⟩ := h
    have hu65 := hu65_of hr
    have hu1 := hu1_of hr
    refine ⟨_, (pss_cons (ps_if (PW.pt (pw_or (pt_not (pt_val (pe_callB (r := rIsi K) call_isi (by rfl) T.b_isinstance bt_isinstance (pa_cons (pv 0) (pa_cons (pe_ty T.b_dict bt_dict) pa_nil))))) (pw_or1 (pt_not (pt_chain op_le op_le pe_int (pe_callB (r := rLenG K) call_lenG (by rfl) T.b_len bt_len (pa_cons (pv 0) pa_nil)) (pe_glob rfl T.c_MOST_OUTCOMES T.r_MOST_OUTCOMES)))))) (pss_one (ps_ret pe_bl)) pss_nil) (pss_one (ps_ret (pe_callB (r := rAll K) (cr_all rfl) (by rfl) T.b_all bt_all (pa_cons (pe_lock (pe_lc (own := [("outcome", 1)]) (g := gName 1) (by rfl) sc_are_outcomes.nd (pi_keys (pv 0)) (blkOk_by (own := [("outcome", 1)]) (N := N_are_outcomes) (sc := defScope s_are_outcomes) (by decide +kernel)) (fun _ _ _ _ _ => pg_name (i := 1) sc_are_outcomes.nd rfl (Or.inl rfl)) (fun _ _ _ _ _ => pts_nil) (fun _ _ _ _ _ => (pe_and (pe_call G_is_outcome (hr.mono (by omega)) rfl T.d_is_outcome.g T.d_is_outcome.F.kp T.d_is_outcome.b .nil pass0 (pa_cons (pv 1) pa_nil)) (pe_one (pe_call G_is_within (hr.mono (by omega)) rfl T.d_is_within.g T.d_is_within.F.kp T.d_is_within.b .nil pass0 (pa_cons (pe_dget hu1 (pv 0) (pv 1) (fun _ _ => rfl)) (pa_cons (pe_glob rfl T.c_MOST_BROUGHT T.r_MOST_BROUGHT) pa_nil)))))))) pa_nil))))), ?_⟩
    refine ⟨.ref o, rfl, ?_⟩
    walk_at "nn"
    refine ⟨_, _, _, _, true, rfl, .ty "dict", .base (.dK ho), kit_ty (by decide +kernel), ?_⟩
    refine ⟨_, rfl, ?_⟩
    refine ⟨.ref o, rfl, ?_⟩
    walk_at "nc"
    refine Or.inr (Or.inr ⟨o, _, rfl, ho, 1, _, rfl, rfl, _, rfl, ?_⟩)
    have hln : (rows.map rowK).length = rows.length := List.length_map _
    rw [hln, show decide ((1 : Int) ≤ ((rows.length : Nat) : Int)) = true from decide_eq_true (by omega)]
    refine ⟨_, 6, rfl, rfl, _, rfl, ?_⟩
    rw [show decide (((rows.length : Nat) : Int) ≤ 6) = true from decide_eq_true (by omega)]
    refine ⟨o, _, ho, trivial, fun od => ?_⟩
    have m0 := Mv.lock (od := od) ho (fun _ z => by cases z) (fun _ _ z => by cases z)
    have e0 : upd H o (.frz od (.dK (rows.map rowK))) o = some (.frz od (.dK (rows.map rowK))) := upd_same
    have un : ∀ H', Mv [] (upd H o (.frz od (.dK (rows.map rowK)))) H' → Mv [] H (upd H' o (.dK (rows.map rowK))) := fun H' m => Mv.unlock ho (fun _ z => by cases z) (fun _ _ z => by cases z) m
    generalize upd H o (.frz od (.dK (rows.map rowK))) = H1 at m0 e0 un ⊢
    refine ⟨.ref o, rfl, o, od, rfl, Or.inl ⟨_, e0, fun D nD => ?_⟩⟩
    refine lc_it walk_keys (fun i H2 => H2 D = some (.lst ((List.replicate i true).map V.bl)) ∧ Mv [] H1 H2) ⟨upd_same, .new nD⟩ (fun i H2 _ h2 => h2.2.same _ _ e0) (fun i x H2 H3 hi h2 y => ?_) (fun H2 h2 => ?_)
    · obtain ⟨e2, m2⟩ := h2
      obtain ⟨rfl, k, v, hk, rfl⟩ := y
      rw [List.getElem?_map] at hk
      obtain ⟨e, he, hk⟩ := Option.map_eq_some_iff.mp hk
      obtain ⟨rfl, rfl⟩ := Prod.mk.inj hk
      have hm := List.mem_of_getElem? he
      obtain ⟨o1, o2, o3⟩ := hon e hm
      refine ⟨rfl, ?_⟩
      refine ⟨.str e.1, rfl, .str e.1, .str e.1, o, rfl, ⟨rfl, by have := o1.2; omega⟩, fun H4 m4 => ?_⟩
      rw [o1.1]
      refine ⟨_, rfl, ?_⟩
      have m14 := m2.trans m4
      refine ⟨.ref o, rfl, .str e.1, rfl, o, .int e.2, rfl, Or.inl ⟨_, .inr e.1, .inr ⟨od, m14.same _ _ e0⟩, rfl, (row_val hnd hm).symm⟩, ?_⟩
      refine ⟨.int e.2, .int e.2, o, 2, rfl, rfl, fun H5 m5 => ?_⟩
      rw [show within 2 (.int e.2) = true by simp [within, o2, o3]]
      have m15 := m14.trans m5
      refine ⟨_, m5.same _ _ (m4.same _ _ e2), ?_, ?_, ?_⟩
      · rw [List.length_map, List.length_replicate]
        have : i < rows.length := by rw [hln] at hi; exact hi
        exact Nat.lt_of_le_of_lt (show i ≤ 10 by omega) (by decide)
      · rw [upd_same, List.replicate_succ', List.map_append]
        rfl
      · exact m15.wr nD
    · obtain ⟨e2, m2⟩ := h2
      refine ⟨m2.same _ _ e0, D, List.replicate (rows.map rowK).length true, rfl, .inl (.inl ?_), ?_⟩
      · rw [upd_ne (by rintro rfl; rw [e0] at nD; cases nD)]
        exact e2
      · rw [show (List.replicate (rows.map rowK).length true).all id = true by simp]
        exact q _ (un H2 m2)
theorem ok_is_act (T : TX K mg) {k : Nat} : FnOk P w K mg base CX0 (k + 4) T.d_is_act.f T.d_is_act.fd P_is_act (sp_act K) := by
  have G_are_outcomes : FnOk P w K mg base CX0 3 T.d_are_outcomes.f T.d_are_outcomes.fd P_are_outcomes sp_outs := ok_are_outcomes T
  have G_is_within : FnOk P w K mg base CX0 2 T.d_is_within.f T.d_is_within.fd P_is_within (sp_within K) := ok_is_within T
  refine T.d_is_act.F.ok sc_is_act (fun vs H Q E h => ?_) (fun cdv A outer s H vs Q E hr h => ?_)
  · obtain ⟨_, _, _, rfl, _⟩ := h
    rfl
  · obtain ⟨r, a, o, rfl, ha, ho, hnd, hok, q⟩ := h
    have hu64 := hr.units
    refine ⟨_, (pss_cons (ps_if (PW.pt (pw_or (pt_not (pt_val (pe_callB (r := rIsi K) call_isi (by rfl) T.b_isinstance bt_isinstance (pa_cons (pv 0) (pa_cons (pe_ty T.b_tuple bt_tuple) pa_nil))))) (pw_or1 (pt_cmpR (r := rNeG K) (op_neG hu64) (pe_callB (r := rLenG K) call_lenG (by rfl) T.b_len bt_len (pa_cons (pv 0) pa_nil)) pe_int (nomark _))))) (pss_one (ps_ret pe_bl)) pss_nil) (pss_one (ps_ret (pe_and (pe_call G_is_within (hr.mono (by omega)) rfl T.d_is_within.g T.d_is_within.F.kp T.d_is_within.b .nil pass0 (pa_cons (pe_ix (r := rIx K) ix_seq (pv 0) pe_int (fun _ _ => rfl)) (pa_cons (pe_glob rfl T.c_MOST_ARGUMENTS T.r_MOST_ARGUMENTS) pa_nil))) (pe_one (pe_call G_are_outcomes (hr.mono (by omega)) rfl T.d_are_outcomes.g T.d_are_outcomes.F.kp T.d_are_outcomes.b .nil pass0 (pa_cons (pe_ix (r := rIx K) ix_seq (pv 0) pe_int (fun _ _ => rfl)) pa_nil))))))), ?_⟩
    refine ⟨.ref a, rfl, ?_⟩
    walk_at "nn"
    refine ⟨_, _, _, _, true, rfl, .ty "tuple", tyx_sqT ha, kit_ty (by decide +kernel), ?_⟩
    refine ⟨_, rfl, ?_⟩
    refine ⟨.ref a, rfl, ?_⟩
    walk_at "nc"
    refine rd_len (.inr ha) (Or.inl ⟨rfl, _, rfl, ?_⟩)
    refine ⟨.ref a, rfl, rd_ixT ha (by decide) (v := .int r.ar) rfl ?_⟩
    refine ⟨.int r.ar, .int r.ar, o, 2, rfl, rfl, fun H1 m1 => ?_⟩
    rw [show within 2 (.int r.ar) = true by simp [within, hok.ar0, hok.ar2]]
    refine ⟨_, rfl, ?_⟩
    refine ⟨.ref a, rfl, rd_ixT (m1.sqT ha) (by decide) (v := .ref o) rfl ?_⟩
    exact ⟨o, r.outs, rfl, m1.same _ _ ho, hnd, hok.o1, hok.o6, hok.on, fun H2 m2 => q H2 (m1.trans m2)⟩
end
end Fm
namespace Fm
open PySem PySem.Spec PyProof.Rows L2 SlX
local macro_rules | `(tactic| walk_at "nn") => `(tactic| dsimp only [tC, tNil, tCons, tCB, tCall, gName, tSeq, tAsg, tPar, tDrop, tRet])
local macro_rules | `(tactic| walk_at "nc") => `(tactic| dsimp only [tC, tNil, tCons, tCB, tCall])
/-- a World whose dicts are new -/
def WldF (K : PySem.W.Frag) (H0 H : Hp) (C x : Addr) (rs : List ActR) : Prop := ∃ dx d zs, Slt H x C dx [some (.ref d)] ∧ ActsAt K H d zs ∧ zs.map (·.r) = rs ∧ H0 d = none ∧ ∀ z ∈ zs, H0 z.o = none
theorem WldF.at_ {K : PySem.W.Frag} {H0 H : Hp} {C x : Addr} {rs : List ActR} (h : WldF K H0 H C x rs) : WldAt K H C x rs := by
  obtain ⟨dx, d, zs, h1, h2, h3, _⟩ := h
  exact ⟨dx, d, zs, h1, h2, h3⟩
/-- World(d), d a dict of acts -/
def sp_World (K : PySem.W.Frag) (C : Addr) : Sp := fun vs H Q _ => ∃ (x dx d : Addr) (zs : List ActA) (H0 : Hp), vs = [.ref x, .ref d] ∧ H = upd (upd H0 dx (.own x)) x (.ins C dx []) ∧ H0 x = none ∧ H0 dx = none ∧ dx ≠ x ∧ ActsAt K H0 d zs ∧ (∀ z ∈ zs, z.r.ok) ∧ zs.length < 60 ∧
  ∀ H', Mv [] H0 H' → WldF K H0 H' C x (normW (zs.map (·.r))) → Q .non H'
section
variable {P : Program} {w : World} {K : PySem.W.Frag} {mg : Str → Option Value} {base : Heap}
theorem ok_World___init__ (T : TX K mg) {k : Nat} : FnOk P w K mg base CX0 (k + 5) T.d_World___init__.f T.d_World___init__.fd P_World___init__ (sp_World K T.C_World) := by
  have G_is_name : FnOk P w K mg base CX0 1 T.d_is_name.f T.d_is_name.fd P_is_name (sp_kind K isNamed) := ok_is_name T
  have G_is_act : FnOk P w K mg base CX0 4 T.d_is_act.f T.d_is_act.fd P_is_act (sp_act K) := ok_is_act T
  refine T.d_World___init__.F.ok sc_World___init__ (fun vs H Q E h => ?_) (fun cdv A outer s H vs Q E hr h => ?_)
  · obtain ⟨_, _, _, _, _, rfl, _⟩ := h
    rfl
  · obtain ⟨x, dx, d, zs, H0, rfl, eH, nx, ndx, hne, hA0, hok, hfew, q⟩ := h
    have hu1 := hu1_of hr
    refine ⟨_, (pss_cons (ps_if (PW.pt (pw_or (pt_not (pt_val (pe_callB (r := rIsi K) call_isi (by rfl) T.b_isinstance bt_isinstance (pa_cons (pv 1) (pa_cons (pe_ty T.b_dict bt_dict) pa_nil))))) (pw_or1 (pt_not (pt_val (pe_callB (r := rAll K) (cr_all rfl) (by rfl) T.b_all bt_all (pa_cons (pe_lock (pe_lc (own := [("name", 2)]) (g := gName 2) (by rfl) sc_World___init__.nd (pi_keys (pv 1)) (blkOk_by (own := [("name", 2)]) (N := N_World___init__) (sc := defScope s_World___init__) (by decide +kernel)) (fun _ _ _ _ _ => pg_name (i := 2) sc_World___init__.nd rfl (Or.inl rfl)) (fun _ _ _ _ _ => pts_nil) (fun _ _ _ _ _ => (pe_call G_is_name (hr.mono (by omega)) rfl T.d_is_name.g T.d_is_name.F.kp T.d_is_name.b .nil pass0 (pa_cons (pv 2) pa_nil))))) pa_nil))))))) (pss_one ps_never) pss_nil) (pss_cons (ps_for PassesOwn.never rfl (pi_seq (pe_callB (r := rSortA K) (cr_sortA rfl) (by rfl) T.b_sorted bt_sorted (pa_cons (pv 1) pa_nil))) (pg_name (i := 2) sc_World___init__.nd rfl (Or.inl rfl)) (pss_one (ps_if (pt_not (pt_val (pe_call G_is_act (hr.mono (by omega)) rfl T.d_is_act.g T.d_is_act.F.kp T.d_is_act.b .nil pass0 (pa_cons (pe_dget hu1 (pv 1) (pv 2) (fun _ _ => rfl)) pa_nil)))) (pss_one ps_never) pss_nil))) (pss_one (ps_sl (pv 0) (pe_dc rfl (own := [("name", 2)]) (g := gName 2) sc_World___init__.nd (pi_seq (pe_callB (r := rSortA K) (cr_sortA rfl) (by rfl) T.b_sorted bt_sorted (pa_cons (pv 1) pa_nil))) (blkOk_by (own := [("name", 2)]) (N := N_World___init__) (sc := defScope s_World___init__) (by decide +kernel)) (fun _ _ _ _ _ => pg_name (i := 2) sc_World___init__.nd rfl (Or.inl rfl)) (fun _ _ _ _ _ => pts_nil) (fun _ _ _ _ _ => (pv 2)) (fun _ _ _ _ _ => (pe_tup (pa_cons (pe_ix (r := rIx K) ix_seq (pe_dget hu1 (pv 1) (pv 2) (fun _ _ => rfl)) pe_int (fun _ _ => rfl)) (pa_cons (pe_callTy (r := rDictG K) (call_dictG rfl) (by rfl) T.b_dict bt_dict (pa_cons (pe_callB (r := rSortSI) (cr_sortSI rfl) (by rfl) T.b_sorted bt_sorted (pa_cons (pe_bm0C (K := K) rfl PySem.F.plainAttrs_dict PySem.F.slot_dict_items PySem.F.type_dict_items mt_itemsK (pe_ix (r := rIx K) ix_seq (pe_dget hu1 (pv 1) (pv 2) (fun _ _ => rfl)) pe_int (fun _ _ => rfl))) pa_nil)) pa_nil)) pa_nil))))))))), ?_⟩
    have mH : Mv [] H0 H := by
      rw [eH]
      exact (Mv.new ndx).wr nx
    have hx : H x = some (.ins T.C_World dx []) := by rw [eH]; exact upd_same
    have hdx : H dx = some (.own x) := by rw [eH, upd_ne hne]; exact upd_same
    have hA := hA0.mv mH
    have hd := hA.at_
    clear eH
    refine ⟨.ref d, rfl, ?_⟩
    walk_at "nn"
    refine ⟨_, _, _, _, true, rfl, .ty "dict", .base (.dK hd), kit_ty (by decide +kernel), ?_⟩
    refine ⟨_, rfl, ?_⟩
    refine ⟨d, _, hd, trivial, fun od => ?_⟩
    have e0 : upd H d (.frz od (.dK (zs.map ActA.kv))) d = some (.frz od (.dK (zs.map ActA.kv))) := upd_same
    have un : ∀ H', Mv [] (upd H d (.frz od (.dK (zs.map ActA.kv)))) H' → Mv [] H (upd H' d (.dK (zs.map ActA.kv))) := fun H' m => Mv.unlock hd (fun _ z => by cases z) (fun _ _ z => by cases z) m
    generalize upd H d (.frz od (.dK (zs.map ActA.kv))) = H1 at e0 un ⊢
    refine ⟨.ref d, rfl, d, od, rfl, Or.inl ⟨_, e0, fun D nD => ?_⟩⟩
    refine lc_it walk_keys (fun i H2 => H2 D = some (.lst ((List.replicate i true).map V.bl)) ∧ Mv [] H1 H2) ⟨upd_same, .new nD⟩ (fun i H2 _ h2 => h2.2.same _ _ e0) (fun i y H2 H3 hi h2 yy => ?_) (fun H2 h2 => ?_)
    · obtain ⟨e2, m2⟩ := h2
      obtain ⟨rfl, k, v, hk, rfl⟩ := yy
      rw [List.getElem?_map] at hk
      obtain ⟨z, he, hk⟩ := Option.map_eq_some_iff.mp hk
      obtain ⟨rfl, rfl⟩ := Prod.mk.inj hk
      have hm := List.mem_of_getElem? he
      have o1 := (hok z hm).nm
      refine ⟨rfl, ?_⟩
      refine ⟨.str z.r.nm, rfl, .str z.r.nm, .str z.r.nm, d, rfl, ⟨rfl, by have := o1.2.1; omega⟩, fun H4 m4 => ?_⟩
      rw [show isNamed (.str z.r.nm) = true from nmd_nm o1]
      refine ⟨_, m4.same _ _ e2, ?_, ?_, (m2.trans m4).wr nD⟩
      · rw [List.length_map, List.length_replicate]
        have : i < zs.length := by rw [List.length_map] at hi; exact hi
        exact Nat.lt_of_le_of_lt (show i ≤ 100 by omega) (by decide)
      · rw [upd_same, List.replicate_succ', List.map_append]
        rfl
    · obtain ⟨e2, m2⟩ := h2
      refine ⟨m2.same _ _ e0, D, List.replicate (zs.map ActA.kv).length true, rfl, .inl (.inl ?_), ?_⟩
      · rw [upd_ne (by rintro rfl; rw [e0] at nD; cases nD)]
        exact e2
      · rw [show (List.replicate (zs.map ActA.kv).length true).all id = true by simp]
        have m3 := un H2 m2
        generalize upd H2 d (.dK (zs.map ActA.kv)) = H3 at m3 ⊢
        have hd3 := m3.same _ _ hd
        have hA3 := hA.mv m3
        have hlz : (zs.map (·.r.nm)).length < 64 := by rw [List.length_map]; omega
        refine ⟨_, rfl, ?_⟩
        refine ⟨.ref d, rfl, Or.inl ⟨d, _, zs.map (·.r.nm), rfl, .inl hd3, kv_keys zs, hlz, fun ys p hp hs np => ⟨p, rfl, ?_⟩⟩⟩
        have hys := srt_keys totS hA.nd hp (sortedS_pw ys hs)
        generalize hss : srt leS (fun z : ActA => z.r.nm) zs = ss at hys
        subst hys
        refine for_seq (xs := (ss.map (·.r.nm)).map V.str) (.inl (.inl (.inl upd_same))) (fun i σ H4 => ∃ y, σ = [some (.ref x), some (.ref d), y] ∧ Mv [] (upd H3 p (.lst ((ss.map (·.r.nm)).map V.str))) H4)
          ⟨none, rfl, .refl⟩ (fun i σ H4 h4 => h4.choose_spec.2) (fun i y σ H4 hy h4 => ?_) (fun σ H4 h4 => ?_)
        · obtain ⟨y0, rfl, m4⟩ := h4
          rw [List.getElem?_map, List.getElem?_map, Option.map_map] at hy
          obtain ⟨z, hz, rfl⟩ := Option.map_eq_some_iff.mp hy
          have hzs : z ∈ zs := by rw [← srt_mem (le := leS) (k := fun z : ActA => z.r.nm), hss]; exact List.mem_of_getElem? hz
          have hA4 := hA3.mv ((Mv.new np).trans m4)
          refine ⟨.ref d, rfl, .str z.r.nm, rfl, d, .ref z.a, rfl, Or.inl ⟨_, .inr z.r.nm, .inl hA4.at_, rfl, (hA4.val hzs).symm⟩, ?_⟩
          refine ⟨z.r, z.a, z.o, rfl, hA4.tup z hzs, hA4.out z hzs, hA4.ond z hzs, hok z hzs, fun H5 m5 => ?_⟩
          exact ⟨_, rfl, _, rfl, m4.trans m5⟩
        · obtain ⟨y0, rfl, m4⟩ := h4
          have m34 := (Mv.new np).trans m4
          have hA4 := hA3.mv m34
          have nss : (ss.map (·.r.nm)).Nodup := by rw [← hss]; exact srt_nd hA.nd
          have hsub : ∀ z ∈ ss, z ∈ zs := fun z hz => by rw [← srt_mem (le := leS) (k := fun z : ActA => z.r.nm), hss]; exact hz
          have hls : ss.length < 60 := by rw [← hss, srt_len]; exact hfew
          refine ⟨.ref d, rfl, Or.inl ⟨d, _, zs.map (·.r.nm), rfl, .inl hA4.at_, kv_keys zs, hlz, fun ys2 p2 hp2 hs2 np2 => ⟨p2, rfl, Or.inl ⟨⟨_, .inl (.inl upd_same)⟩, fun D nD => ?_⟩⟩⟩⟩
          have hys2 := srt_keys totS hA.nd hp2 (sortedS_pw ys2 hs2)
          rw [hss] at hys2
          subst hys2
          have e6 : upd H4 p2 (.lst ((ss.map (·.r.nm)).map V.str)) p2 = some (.lst ((ss.map (·.r.nm)).map V.str)) := upd_same
          have m46 : Mv [] H4 (upd H4 p2 (.lst ((ss.map (·.r.nm)).map V.str))) := .new np2
          generalize upd H4 p2 (.lst ((ss.map (·.r.nm)).map V.str)) = H6 at e6 m46 nD ⊢
          have hA6 := hA4.mv m46
          refine dc_it walk_list (fun i H7 => ∃ ws : List ActA, H7 D = some (.dK (ws.map ActA.kv)) ∧ ws.map (·.r) = (ss.take i).map (·.r.norm) ∧ (∀ w ∈ ws, SqT K H7 w.a [.int w.r.ar, .ref w.o] ∧ H7 w.o = some (.dK (w.r.outs.map rowK)) ∧ w.o ≠ D ∧ H6 w.o = none) ∧ Mv [] H6 H7)
            ⟨[], upd_same, by simp, fun _ h => absurd h List.not_mem_nil, .new nD⟩ (fun i H7 _ h7 => .inl (.inl (h7.choose_spec.2.2.2.same _ _ e6))) (fun i y H7' H7 hi h7 yy => ?_) (fun H7 h7 => ?_)
          · obtain ⟨ws, e7, r7, c7, m7⟩ := h7
            obtain ⟨rfl, hy⟩ := yy
            rw [List.getElem?_map, List.getElem?_map, Option.map_map] at hy
            obtain ⟨z, hz, rfl⟩ := Option.map_eq_some_iff.mp hy
            have hzs := hsub z (List.mem_of_getElem? hz)
            have hA7 := hA6.mv m7
            refine ⟨rfl, .str z.r.nm, rfl, ?_⟩
            refine ⟨.ref d, rfl, .str z.r.nm, rfl, d, .ref z.a, rfl, Or.inl ⟨_, .inr z.r.nm, .inl hA7.at_, rfl, (hA7.val hzs).symm⟩, ?_⟩
            refine rd_ixT (hA7.tup z hzs) (by decide) (v := .int z.r.ar) rfl ?_
            refine ⟨.ref d, rfl, .str z.r.nm, rfl, d, .ref z.a, rfl, Or.inl ⟨_, .inr z.r.nm, .inl hA7.at_, rfl, (hA7.val hzs).symm⟩, ?_⟩
            refine rd_ixT (hA7.tup z hzs) (by decide) (v := .ref z.o) rfl ?_
            refine ⟨.inr (.inr (.inl ⟨rfl, .inl ⟨_, hA7.out z hzs⟩⟩)), z.o, _, rfl, rfl, hA7.out z hzs, fun p8 np8 => ?_⟩
            have hzo : z.o ≠ p8 := ne_of_none (hA7.out z hzs) np8
            refine ⟨p8, z.o, z.r.outs, rfl, upd_same, by rw [upd_ne hzo]; exact hA7.out z hzs, fun H9 l ps k9 nl hpm hpw hl hps => ?_⟩
            have hqs := srt_outs (hA7.ond z hzs) hpm hpw
            have m79 : Mv [] H7 H9 := (Mv.new np8).trans (.of_same k9)
            refine Or.inl ⟨l, ps.map (·.1), (ps.map (·.2)).map rowK, rfl, .inl (.inl (by rw [hl, List.map_map]; rfl)), paired_rows ps hps, fun p10 np10 => ?_⟩
            rw [mergeK_nd _ _ (by rw [List.nil_append, row_keys, hqs]; exact nd_inr (srt_nd (hA7.ond z hzs))), List.nil_append, hqs]
            have m710 := m79.trans (Mv.new (o := .dK ((srt leS (·.1) z.r.outs).map rowK)) np10)
            have e10 : upd H9 p10 (.dK ((srt leS (·.1) z.r.outs).map rowK)) p10 = some (.dK ((srt leS (·.1) z.r.outs).map rowK)) := upd_same
            have hpD : p10 ≠ D := (ne_of_none (m79.same _ _ e7) np10).symm
            have fp10 : H6 p10 = none := (m7.trans m79).free np10
            generalize upd H9 p10 (.dK ((srt leS (·.1) z.r.outs).map rowK)) = H10 at m710 e10 ⊢
            refine ⟨(by decide : 2 ≤ sizeLine), fun p11 np11 => ⟨ws.map ActA.kv, .inr z.r.nm, rfl, ?_, ?_, ?_⟩⟩
            · exact same_new np11 _ _ (m710.same _ _ e7)
            · have : ws.length = (ss.take i).length := by
                have := congrArg List.length r7
                rwa [List.length_map, List.length_map] at this
              rw [List.length_map, this, List.length_take]
              exact Nat.lt_of_le_of_lt (show min i ss.length ≤ 100 by omega) (by decide)
            · have hnew : (.inr z.r.nm : L2.Key) ∉ (ws.map ActA.kv).map (·.1) := by
                rw [kv_keys, show ws.map (fun z : ActA => z.r.nm) = (ss.take i).map (fun z : ActA => z.r.nm) by
                  have := congrArg (List.map ActR.nm) r7
                  rw [List.map_map, List.map_map] at this
                  exact this]
                intro hmem
                obtain ⟨nm, hnm, he⟩ := List.mem_map.mp hmem
                cases he
                have hi' : i < ss.length := (List.getElem?_eq_some_iff.mp hz).1
                have n2 := nss
                rw [show ss = ss.take i ++ z :: ss.drop (i + 1) by rw [← (List.getElem?_eq_some_iff.mp hz).2, List.getElem_cons_drop, List.take_append_drop], List.map_append, List.nodup_append] at n2
                exact n2.2.2 _ hnm z.r.nm (by simp) rfl
              rw [putK_new hnew]
              have hD11 : upd H10 p11 (.tup [.int z.r.ar, .ref p10]) D = some (.dK (ws.map ActA.kv)) := same_new np11 _ _ (m710.same _ _ e7)
              have hm11 := Mv.putD (o := .dK (ws.map ActA.kv ++ [(.inr z.r.nm, .ref p11)])) hD11
              have m711 : Mv [] H7 (upd H10 p11 (.tup [.int z.r.ar, .ref p10])) := m710.trans (.new np11)
              refine ⟨ws ++ [⟨z.r.norm, p11, p10⟩], ?_, ?_, ?_, (m7.trans m711).wr nD⟩
              · rw [upd_same, List.map_append]
                rfl
              · rw [List.map_append, r7, List.take_add_one, hz]
                simp
              · intro w hw
                rcases List.mem_append.mp hw with hw | hw
                · obtain ⟨h1, h2, h3, h4⟩ := c7 w hw
                  exact ⟨hm11.sqT (m711.sqT h1), hm11.keep _ _ (by simpa using h3) (m711.same _ _ h2), h3, h4⟩
                · rw [List.mem_singleton] at hw
                  subst hw
                  refine ⟨hm11.sqT (.inl (.inl upd_same)), hm11.keep _ _ (by simpa using hpD) (same_new np11 _ _ e10), hpD, fp10⟩
          · obtain ⟨ws, e7, r7, c7, m7⟩ := h7
            have m37 := m34.trans (m46.trans m7)
            have mH7 := m3.trans m37
            refine ⟨.ref x, rfl, x, T.C_World, dx, T.p_World_its_acts, [], 0, rfl, Or.inl ⟨mH7.same _ _ hx, rfl⟩, T.c_World, T.sl_World_its_acts, ?_⟩
            have hxD : x ≠ D := by rintro rfl; rw [mH7.same _ _ hx] at e7; cases e7
            have hdxD : dx ≠ D := by rintro rfl; rw [mH7.same _ _ hdx] at e7; cases e7
            have hrl : ws.map (·.r) = normW (zs.map (·.r)) := by
              rw [r7, show ((ss.map (·.r.nm)).map V.str).length = ss.length by simp, List.take_length, ← hss]
              unfold normW
              rw [List.map_map, srt_map (k := fun z : ActA => z.r.nm) (l := fun x => x.nm) (f := ActR.norm ∘ fun x : ActA => x.r) totS (fun _ => rfl) hA.nd]
              rfl
            have keep : ∀ p o, H7 p = some o → p ≠ x → p ≠ dx → slH H7 x T.C_World dx (putS 0 (.ref D) []) p = some o := fun p o h h1 h2 => by rw [slH_ne h1 h2]; exact h
            have fr6 : ∀ {p}, H6 p = none → H0 p = none := fun {p} np => (mH.trans (m3.trans (m34.trans m46))).free np
            refine q _ ?_ ?_
            · unfold slH
              exact ((mH.trans mH7).wr ndx).wr nx
            · refine ⟨dx, D, ws, slH_slt hne, ⟨keep _ _ e7 hxD.symm hdxD.symm, ?_, fun w hw => ?_, fun w hw => ?_, fun w hw => ?_⟩, hrl, fr6 nD, fun w hw => fr6 (c7 w hw).2.2.2⟩
              · rw [show ws.map (fun z : ActA => z.r.nm) = ss.map (fun z : ActA => z.r.nm) by
                  rw [show ((ss.map (·.r.nm)).map V.str).length = ss.length by simp, List.take_length] at r7
                  have := congrArg (List.map ActR.nm) r7
                  rw [List.map_map, List.map_map] at this
                  exact this]
                exact nss
              · have h7x := mH7.same _ _ hx
                have h7d := mH7.same _ _ hdx
                have m1 : Mv [dx] H7 (upd H7 dx (.xd [])) := .put h7d (fun _ z => by cases z) (fun _ _ z => by cases z)
                have m2 : Mv [x] (upd H7 dx (.xd [])) (slH H7 x T.C_World dx (putS 0 (.ref D) [])) := .put (u := .ins T.C_World dx []) (by rw [upd_ne hne.symm]; exact h7x) (fun _ z => by cases z) (fun _ _ z => by cases z)
                exact m2.sqT (m1.sqT (c7 w hw).1)
              · have h2 := (c7 w hw).2.1
                exact keep _ _ h2 (by rintro e; rw [e, mH7.same _ _ hx] at h2; cases h2) (by rintro e; rw [e, mH7.same _ _ hdx] at h2; cases h2)
              · have : w.r ∈ ws.map (·.r) := List.mem_map.mpr ⟨w, hw, rfl⟩
                rw [r7] at this
                obtain ⟨z, hz, e⟩ := List.mem_map.mp this
                rw [← e]
                exact srt_nd (hA.ond z (hsub z (List.mem_of_mem_take hz)))
end
end Fm
namespace Fm
open PySem PySem.Spec PyProof.Rows L2 SlX
local macro_rules | `(tactic| walk_at "nn") => `(tactic| dsimp only [tC, tNil, tCons, tCB, tCall, gName, tSeq, tAsg, tPar, tDrop, tRet])
local macro_rules | `(tactic| walk_at "nc") => `(tactic| dsimp only [tC, tNil, tCons, tCB, tCall])
def sp_Wacts (K : PySem.W.Frag) (C : Addr) : Sp := fun vs H Q _ => ∃ (x : Addr) (rs : List ActR), vs = [.ref x] ∧ WldAt K H C x rs ∧ ∀ p, H p = none → Q (.ref p) (upd H p (.lst ((rs.map (·.nm)).map V.str)))
def sp_Wargs (K : PySem.W.Frag) (C : Addr) : Sp := fun vs H Q _ => ∃ (x : Addr) (rs : List ActR) (r : ActR), vs = [.ref x, .str r.nm] ∧ WldAt K H C x rs ∧ r ∈ rs ∧ Q (.int r.ar) H
def sp_Wouts (K : PySem.W.Frag) (C : Addr) : Sp := fun vs H Q _ => ∃ (x : Addr) (rs : List ActR) (r : ActR), vs = [.ref x, .str r.nm] ∧ WldAt K H C x rs ∧ r ∈ rs ∧ ∀ p, H p = none → Q (.ref p) (upd H p (.lst ((r.outs.map (·.1)).map V.str)))
def sp_Wbrings (K : PySem.W.Frag) (C : Addr) : Sp := fun vs H Q _ => ∃ (x : Addr) (rs : List ActR) (r : ActR) (y : Str) (i : Int), vs = [.ref x, .str r.nm, .str y] ∧ WldAt K H C x rs ∧ r ∈ rs ∧ (y, i) ∈ r.outs ∧ Q (.int i) H
section
variable {P : Program} {w : World} {K : PySem.W.Frag} {mg : Str → Option Value} {base : Heap}
theorem ok_World_acts (T : TX K mg) {k : Nat} : FnOk P w K mg base CX0 (k + 1) T.d_World_acts.f T.d_World_acts.fd P_World_acts (sp_Wacts K T.C_World) := by
  refine T.d_World_acts.F.ok sc_World_acts (fun vs H Q E h => ?_) (fun cdv A outer s H vs Q E hr h => ?_)
  · obtain ⟨_, _, rfl, _⟩ := h
    rfl
  · obtain ⟨x, rs, rfl, ⟨dx, d, zs, hs, hA, rfl⟩, q⟩ := h
    refine ⟨_, (pss_one (ps_ret (pe_callTy (r := rListG K) (call_listA rfl) (by rfl) T.b_list bt_list (pa_cons (pe_slC (K := K) rfl (pv 0)) pa_nil)))), ?_⟩
    refine ⟨.ref x, rfl, x, T.C_World, dx, T.p_World_its_acts, _, 0, .ref d, rfl, hs, T.c_World, T.sl_World_its_acts, rfl, ?_⟩
    refine Or.inr ⟨d, _, rfl, hA.at_, fun p np => ?_⟩
    have := q p np
    rw [List.map_map, List.map_map] at this
    rw [List.map_map]
    exact this
theorem ok_World_arguments (T : TX K mg) {k : Nat} : FnOk P w K mg base CX0 (k + 1) T.d_World_arguments.f T.d_World_arguments.fd P_World_arguments (sp_Wargs K T.C_World) := by
  refine T.d_World_arguments.F.ok sc_World_arguments (fun vs H Q E h => ?_) (fun cdv A outer s H vs Q E hr h => ?_)
  · obtain ⟨_, _, _, rfl, _⟩ := h
    rfl
  · obtain ⟨x, rs, r, rfl, ⟨dx, d, zs, hs, hA, rfl⟩, hr', q⟩ := h
    obtain ⟨z, hz, rfl⟩ := List.mem_map.mp hr'
    have hu1 := hu1_of hr
    refine ⟨_, (pss_one (ps_ret (pe_ix (r := rIx K) ix_seq (pe_dget hu1 (pe_slC (K := K) rfl (pv 0)) (pv 1) (fun _ _ => rfl)) pe_int (fun _ _ => rfl)))), ?_⟩
    refine ⟨.ref x, rfl, x, T.C_World, dx, T.p_World_its_acts, _, 0, .ref d, rfl, hs, T.c_World, T.sl_World_its_acts, rfl, ?_⟩
    refine ⟨.str z.r.nm, rfl, d, .ref z.a, rfl, Or.inl ⟨_, .inr z.r.nm, .inl hA.at_, rfl, (hA.val hz).symm⟩, ?_⟩
    exact rd_ixT (hA.tup z hz) (by decide) (v := .int z.r.ar) rfl q
theorem ok_World_outcomes (T : TX K mg) {k : Nat} : FnOk P w K mg base CX0 (k + 1) T.d_World_outcomes.f T.d_World_outcomes.fd P_World_outcomes (sp_Wouts K T.C_World) := by
  refine T.d_World_outcomes.F.ok sc_World_outcomes (fun vs H Q E h => ?_) (fun cdv A outer s H vs Q E hr h => ?_)
  · obtain ⟨_, _, _, rfl, _⟩ := h
    rfl
  · obtain ⟨x, rs, r, rfl, ⟨dx, d, zs, hs, hA, rfl⟩, hr', q⟩ := h
    obtain ⟨z, hz, rfl⟩ := List.mem_map.mp hr'
    have hu1 := hu1_of hr
    refine ⟨_, (pss_one (ps_ret (pe_callTy (r := rListG K) (call_listA rfl) (by rfl) T.b_list bt_list (pa_cons (pe_ix (r := rIx K) ix_seq (pe_dget hu1 (pe_slC (K := K) rfl (pv 0)) (pv 1) (fun _ _ => rfl)) pe_int (fun _ _ => rfl)) pa_nil)))), ?_⟩
    refine ⟨.ref x, rfl, x, T.C_World, dx, T.p_World_its_acts, _, 0, .ref d, rfl, hs, T.c_World, T.sl_World_its_acts, rfl, ?_⟩
    refine ⟨.str z.r.nm, rfl, d, .ref z.a, rfl, Or.inl ⟨_, .inr z.r.nm, .inl hA.at_, rfl, (hA.val hz).symm⟩, ?_⟩
    refine rd_ixT (hA.tup z hz) (by decide) (v := .ref z.o) rfl ?_
    refine Or.inr ⟨z.o, _, rfl, hA.out z hz, fun p np => ?_⟩
    have := q p np
    rw [List.map_map] at this ⊢
    exact this
theorem ok_World_brings (T : TX K mg) {k : Nat} : FnOk P w K mg base CX0 (k + 1) T.d_World_brings.f T.d_World_brings.fd P_World_brings (sp_Wbrings K T.C_World) := by
  refine T.d_World_brings.F.ok sc_World_brings (fun vs H Q E h => ?_) (fun cdv A outer s H vs Q E hr h => ?_)
  · obtain ⟨_, _, _, _, _, rfl, _⟩ := h
    rfl
  · obtain ⟨x, rs, r, y, i, rfl, ⟨dx, d, zs, hs, hA, rfl⟩, hr', hy, q⟩ := h
    obtain ⟨z, hz, rfl⟩ := List.mem_map.mp hr'
    have hu1 := hu1_of hr
    refine ⟨_, (pss_one (ps_ret (pe_dget hu1 (pe_ix (r := rIx K) ix_seq (pe_dget hu1 (pe_slC (K := K) rfl (pv 0)) (pv 1) (fun _ _ => rfl)) pe_int (fun _ _ => rfl)) (pv 2) (fun _ _ => rfl)))), ?_⟩
    refine ⟨.ref x, rfl, x, T.C_World, dx, T.p_World_its_acts, _, 0, .ref d, rfl, hs, T.c_World, T.sl_World_its_acts, rfl, ?_⟩
    refine ⟨.str z.r.nm, rfl, d, .ref z.a, rfl, Or.inl ⟨_, .inr z.r.nm, .inl hA.at_, rfl, (hA.val hz).symm⟩, ?_⟩
    refine rd_ixT (hA.tup z hz) (by decide) (v := .ref z.o) rfl ?_
    exact ⟨.str y, rfl, z.o, .int i, rfl, Or.inl ⟨_, .inr y, .inl (hA.out z hz), rfl, (row_val (hA.ond z hz) hy).symm⟩, q⟩
end
end Fm
namespace Fm
open PySem PySem.Spec PyProof.Rows L2 SlX
local macro_rules | `(tactic| walk_at "nn") => `(tactic| dsimp only [tC, tNil, tCons, tCB, tCall, gName, tSeq, tAsg, tPar, tDrop, tRet])
local macro_rules | `(tactic| walk_at "nc") => `(tactic| dsimp only [tC, tNil, tCons, tCB, tCall])
/-! statements -/
inductive Sta where
  | set (chs : List (Int × Tm)) (goal : Int)
  | ask (act : Str) (ts : List Tm) (ways : List (Str × List Int × Int))
  | fin (word : Str) (ts : List Tm)
def chD (c : Int × Tm) : PyData := .tuple [.int c.1, c.2.d]
def wayD (w : Str × List Int × Int) : PyData := .tuple [.str w.1, .tuple (w.2.1.map .int), .int w.2.2]
def Sta.d : Sta → PyData
  | .set chs goal => .tuple [.str "set", .tuple (chs.map chD), .int goal]
  | .ask act ts ways => .tuple [.str "ask", .str act, .tuple (Tm.ds ts), .tuple (ways.map wayD)]
  | .fin word ts => .tuple [.str "end", .str word, .tuple (Tm.ds ts)]
def TmOver (many : Int) (t : Tm) : Prop := t.ok (fun i => 0 ≤ i ∧ i < many) ∧ t.th.cnt ≤ 5000 ∧ t.dep ≤ 50
def ChOk (many : Int) (chs : List (Int × Tm)) : Prop := (chs.map (·.1)).Nodup ∧ chs.length ≤ 24 ∧ ∀ c ∈ chs, 0 ≤ c.1 ∧ c.1 < many ∧ TmOver many c.2
def WayOk (r : ActR) (many places : Int) (w : Str × List Int × Int) : Prop := ∃ i, (w.1, i) ∈ r.outs ∧ (w.2.1.length : Int) = i ∧ w.2.1.Nodup ∧ (∀ j ∈ w.2.1, 0 ≤ j ∧ j < many) ∧ 0 ≤ w.2.2 ∧ w.2.2 < places
structure AskOk (r : ActR) (many places : Int) (ts : List Tm) (ways : List (Str × List Int × Int)) : Prop where
  len : (ts.length : Int) = r.ar
  ts : ∀ t ∈ ts, TmOver many t
  pm : (ways.map (·.1)).Perm (r.outs.map (·.1))
  ways : ∀ w ∈ ways, WayOk r many places w
def Sta.ok (rs : List ActR) (many places : Int) : Sta → Prop
  | .set chs goal => ChOk many chs ∧ 0 ≤ goal ∧ goal < places
  | .ask act ts ways => ∃ r ∈ rs, r.nm = act ∧ AskOk r many places ts ways
  | .fin word ts => Nm word ∧ ts.length ≤ 2 ∧ ∀ t ∈ ts, TmOver many t
/-- worlds as they are kept: in order -/
structure WOk (rs : List ActR) : Prop where
  ok : ∀ r ∈ rs, r.ok
  nd : (rs.map (·.nm)).Nodup
  few : rs.length < 60
  ond : ∀ r ∈ rs, (r.outs.map (·.1)).Nodup
  pw : ∀ r ∈ rs, (r.outs.map (·.1)).Pairwise fun a b => leS a b = true
def inPl (places : Int) : Th → Bool
  | .int i => decide (0 ≤ i) && decide (i < places)
  | _ => false
def sp_diff (K : PySem.W.Frag) : Sp := fun vs H Q _ => ∃ (many : Int) (a : Addr) (ns : List Int), vs = [.int many, .ref a] ∧ SqT K H a (ns.map V.int) ∧ ns.Nodup ∧ ns.length ≤ 1000 ∧ (∀ i ∈ ns, 0 ≤ i ∧ i < many) ∧ ∀ H', Mv [] H H' → Q (.bl true) H'
def sp_termsOver (K : PySem.W.Frag) : Sp := fun vs H Q _ => ∃ (many : Int) (v : V) (ts : List Tm), vs = [.int many, v] ∧ Im K H v (.tuple (Tm.ds ts)) ∧ ts.length ≤ 1000 ∧ (∀ t ∈ ts, TmOver many t) ∧ ∀ H', Mv [] H H' → Q (.bl true) H'
def sp_place (K : PySem.W.Frag) : Sp := fun vs H Q _ => ∃ (places : Int) (v : V) (t : Th) (b : Addr), vs = [.int places, v] ∧ Is K b H v t ∧ ∀ H', Mv [] H H' → Q (.bl (inPl places t)) H'
def sp_pair (K : PySem.W.Frag) : Sp := fun vs H Q _ => ∃ (v : V) (d e : PyData), vs = [v] ∧ Im K H v (.tuple [d, e]) ∧ Q (.bl true) H
section
variable {P : Program} {w : World} {K : PySem.W.Frag} {mg : Str → Option Value} {base : Heap}
theorem ok_is_place (T : TX K mg) {k : Nat} : FnOk P w K mg base CX0 (k + 2) T.d_is_place.f T.d_is_place.fd P_is_place (sp_place K) := by
  have G_is_integer : FnOk P w K mg base CX0 1 T.d_is_integer.f T.d_is_integer.fd P_is_integer (sp_kind K isWhole) := ok_is_integer T
  refine T.d_is_place.F.ok sc_is_place (fun vs H Q E h => ?_) (fun cdv A outer s H vs Q E hr h => ?_)
  · obtain ⟨_, _, _, _, rfl, _⟩ := h
    rfl
  · obtain ⟨m, v, t, b, rfl, hv, q⟩ := h
    refine ⟨_, (pss_one (ps_ret (pe_and (pe_call G_is_integer (hr.mono (by omega)) rfl T.d_is_integer.g T.d_is_integer.F.kp T.d_is_integer.b .nil pass0 (pa_cons (pv 1) pa_nil)) (pe_one (pe_chain op_le op_lt pe_int (pv 1) (pv 0)))))), ?_⟩
    refine ⟨v, rfl, v, t, b, rfl, hv, fun H1 m1 => ⟨_, rfl, ?_⟩⟩
    cases t with
    | int i =>
      cases (show v = V.int i from hv)
      refine ⟨.int i, rfl, 0, i, rfl, rfl, _, rfl, ite2 (fun e => ?_) (fun e => ?_)⟩
      · refine ⟨.int m, rfl, i, m, rfl, rfl, ?_⟩
        have := q H1 m1
        simp only [inPl] at this
        rw [show decide (0 ≤ i) = true from e] at this
        exact this
      · have := q H1 m1
        simp only [inPl] at this
        rw [show decide (0 ≤ i) = false by simpa using e] at this
        exact this
    | bl c => exact q H1 m1
    | non => exact q H1 m1
    | str x => exact q H1 m1
    | tup ts => exact q H1 m1
    | lst => exact q H1 m1
    | dct => exact q H1 m1
theorem ok_is_pair (T : TX K mg) {k : Nat} : FnOk P w K mg base CX0 (k + 1) T.d_is_pair.f T.d_is_pair.fd P_is_pair (sp_pair K) := by
  refine T.d_is_pair.F.ok sc_is_pair (fun vs H Q E h => ?_) (fun cdv A outer s H vs Q E hr h => ?_)
  · obtain ⟨_, _, _, rfl, _⟩ := h
    rfl
  · obtain ⟨v, d, e, rfl, hv, q⟩ := h
    have hu64 := hr.units
    obtain ⟨a, xs, rfl, ha, hx⟩ := hv.tupI
    have hl := hx.length
    refine ⟨_, (pss_one (ps_ret (pe_and (pe_callB (r := rIsi K) call_isi (by rfl) T.b_isinstance bt_isinstance (pa_cons (pv 0) (pa_cons (pe_ty T.b_tuple bt_tuple) pa_nil))) (pe_one (pe_cmpR (r := rEqG K) (op_eqG hu64) (pe_callB (r := rLenG K) call_lenG (by rfl) T.b_len bt_len (pa_cons (pv 0) pa_nil)) pe_int (nomark _)))))), ?_⟩
    refine ⟨.ref a, rfl, ?_⟩
    walk_at "nn"
    refine ⟨_, _, _, _, true, rfl, .ty "tuple", tyx_sqT ha, kit_ty (by decide +kernel), ?_⟩
    refine ⟨_, rfl, ?_⟩
    refine ⟨.ref a, rfl, ?_⟩
    walk_at "nc"
    refine rd_len (.inr ha) (Or.inl ⟨rfl, ?_⟩)
    rw [hl]
    exact q
theorem ok_are_different (T : TX K mg) {k : Nat} : FnOk P w K mg base CX0 (k + 2) T.d_are_different.f T.d_are_different.fd P_are_different (sp_diff K) := by
  have G_is_integer : FnOk P w K mg base CX0 1 T.d_is_integer.f T.d_is_integer.fd P_is_integer (sp_kind K isWhole) := ok_is_integer T
  refine T.d_are_different.F.ok sc_are_different (fun vs H Q E h => ?_) (fun cdv A outer s H vs Q E hr h => ?_)
  · obtain ⟨_, _, _, rfl, _⟩ := h
    rfl
  · obtain ⟨many, a, ns, rfl, ha, hnd, hln, hin, q⟩ := h
    have hu64 := hr.units
    refine ⟨_, (pss_cons (ps_if (PW.pt (pw_or (pt_not (pt_val (pe_callB (r := rIsi K) call_isi (by rfl) T.b_isinstance bt_isinstance (pa_cons (pv 1) (pa_cons (pe_ty T.b_tuple bt_tuple) pa_nil))))) (pw_or1 (pt_not (pt_val (pe_callB (r := rAll K) (cr_all rfl) (by rfl) T.b_all bt_all (pa_cons (pe_lc (own := [("one", 2)]) (g := gName 2) (by rfl) sc_are_different.nd (pi_seq (pv 1)) (blkOk_by (own := [("one", 2)]) (N := N_are_different) (sc := defScope s_are_different) (by decide +kernel)) (fun _ _ _ _ _ => pg_name (i := 2) sc_are_different.nd rfl (Or.inl rfl)) (fun _ _ _ _ _ => pts_nil) (fun _ _ _ _ _ => (pe_and (pe_call G_is_integer (hr.mono (by omega)) rfl T.d_is_integer.g T.d_is_integer.F.kp T.d_is_integer.b .nil pass0 (pa_cons (pv 2) pa_nil)) (pe_one (pe_chain op_le op_lt pe_int (pv 2) (pv 0)))))) pa_nil))))))) (pss_one (ps_ret pe_bl)) pss_nil) (pss_one (ps_ret (pe_cmpR (r := rEqG K) (op_eqG hu64) (pe_lenSetG rfl (by rfl) T.b_len (by rfl) T.b_set (pv 1)) (pe_callB (r := rLenG K) call_lenG (by rfl) T.b_len bt_len (pa_cons (pv 1) pa_nil)) (nomark _))))), ?_⟩
    refine ⟨.ref a, rfl, ?_⟩
    walk_at "nn"
    refine ⟨_, _, _, _, true, rfl, .ty "tuple", tyx_sqT ha, kit_ty (by decide +kernel), ?_⟩
    refine ⟨_, rfl, ?_⟩
    refine ⟨.ref a, rfl, a, rfl, ?_⟩
    refine lc_seq (xs := ns.map V.int) (.inr ha) (fun i D H1 => H1 D = some (.lst ((List.replicate i true).map V.bl)) ∧ Mv [] H H1)
      (fun D nD => ⟨upd_same, .new nD⟩) (fun i D H1 nD h1 => h1.2) (fun D nD i x H1 hx h1 => ?_) (fun D H1 nD h1 => ?_)
    · obtain ⟨e1, m1⟩ := h1
      rw [List.getElem?_map] at hx
      obtain ⟨j, hj, rfl⟩ := Option.map_eq_some_iff.mp hx
      have hij := (List.getElem?_eq_some_iff.mp hj).1
      obtain ⟨j0, j1⟩ := hin j (List.mem_of_getElem? hj)
      refine ⟨rfl, .int j, rfl, .int j, .int j, a, rfl, rfl, fun H2 m2 => ⟨_, rfl, ?_⟩⟩
      refine ⟨.int j, rfl, 0, j, rfl, rfl, _, rfl, ?_⟩
      rw [show decide (0 ≤ j) = true from decide_eq_true j0]
      refine ⟨.int many, rfl, j, many, rfl, rfl, ?_⟩
      dsimp only
      rw [show decide (j < many) = true from decide_eq_true j1]
      refine ⟨_, m2.same _ _ e1, ?_, ?_, (m1.trans m2).wr nD⟩
      · rw [List.length_map, List.length_replicate]
        exact Nat.lt_of_le_of_lt (show i ≤ 1000 by omega) (by decide)
      · rw [upd_same, List.replicate_succ', List.map_append]
        rfl
    · obtain ⟨e1, m1⟩ := h1
      refine ⟨D, List.replicate (ns.map V.int).length true, rfl, .inl (.inl e1), ?_⟩
      rw [show (List.replicate (ns.map V.int).length true).all id = true by simp]
      refine ⟨_, rfl, ?_⟩
      refine ⟨.ref a, rfl, a, ns, rfl, .inr (m1.sqT ha), by omega, fun ks hk hmem => ?_⟩
      refine ⟨.ref a, rfl, ?_⟩
      walk_at "nc"
      refine rd_len (.inr (m1.sqT ha)) (Or.inl ⟨rfl, ?_⟩)
      have hp : ks.Perm ns := (List.perm_ext_iff_of_nodup hk hnd).mpr hmem
      rw [hp.length_eq, List.length_map]
      simp only [decide_true]
      exact q H1 m1
theorem ok_are_terms_over (T : TX K mg) {k : Nat} : FnOk P w K mg base CX0 (k + 4) T.d_are_terms_over.f T.d_are_terms_over.fd P_are_terms_over (sp_termsOver K) := by
  have G_is_term_over : FnOk P w K mg base CX0 3 T.d_is_term_over.f T.d_is_term_over.fd P_is_term_over (sp_termOver K) := ok_is_term_over T
  refine T.d_are_terms_over.F.ok sc_are_terms_over (fun vs H Q E h => ?_) (fun cdv A outer s H vs Q E hr h => ?_)
  · obtain ⟨_, _, _, rfl, _⟩ := h
    rfl
  · obtain ⟨many, v, ts, rfl, hv, hln, hts, q⟩ := h
    obtain ⟨a, xs, rfl, ha, hxs⟩ := hv.tupI
    have hl := hxs.length
    rw [Tm.ds_map, List.length_map] at hl
    refine ⟨_, (pss_one (ps_ret (pe_and (pe_callB (r := rIsi K) call_isi (by rfl) T.b_isinstance bt_isinstance (pa_cons (pv 1) (pa_cons (pe_ty T.b_tuple bt_tuple) pa_nil))) (pe_one (pe_callB (r := rAll K) (cr_all rfl) (by rfl) T.b_all bt_all (pa_cons (pe_lc (own := [("term", 2)]) (g := gName 2) (by rfl) sc_are_terms_over.nd (pi_seq (pv 1)) (blkOk_by (own := [("term", 2)]) (N := N_are_terms_over) (sc := defScope s_are_terms_over) (by decide +kernel)) (fun _ _ _ _ _ => pg_name (i := 2) sc_are_terms_over.nd rfl (Or.inl rfl)) (fun _ _ _ _ _ => pts_nil) (fun _ _ _ _ _ => (pe_call G_is_term_over (hr.mono (by omega)) rfl T.d_is_term_over.g T.d_is_term_over.F.kp T.d_is_term_over.b .nil pass0 (pa_cons (pv 0) (pa_cons (pv 2) pa_nil))))) pa_nil)))))), ?_⟩
    refine ⟨.ref a, rfl, ?_⟩
    walk_at "nn"
    refine ⟨_, _, _, _, true, rfl, .ty "tuple", tyx_sqT ha, kit_ty (by decide +kernel), ?_⟩
    refine ⟨_, rfl, ?_⟩
    refine ⟨.ref a, rfl, a, rfl, ?_⟩
    refine lc_seq (xs := xs) (.inr ha) (fun i D H1 => H1 D = some (.lst ((List.replicate i true).map V.bl)) ∧ Mv [] H H1)
      (fun D nD => ⟨upd_same, .new nD⟩) (fun i D H1 nD h1 => h1.2) (fun D nD i x H1 hx h1 => ?_) (fun D H1 nD h1 => ?_)
    · obtain ⟨e1, m1⟩ := h1
      obtain ⟨d, hd, him⟩ := hxs.get hx
      rw [Tm.ds_map, List.getElem?_map] at hd
      obtain ⟨t, ht, rfl⟩ := Option.map_eq_some_iff.mp hd
      have hij := (List.getElem?_eq_some_iff.mp ht).1
      obtain ⟨t1, t2, t3⟩ := hts t (List.mem_of_getElem? ht)
      refine ⟨rfl, .int many, rfl, x, rfl, many, x, t.th, a, rfl, Is.of_im t x t1 (him.mv m1), by omega, fun H2 m2 => ?_⟩
      rw [isTerm_th (fun i h => h.1) t t1, under_th (fun i h => h.2) t t1]
      refine ⟨_, m2.same _ _ e1, ?_, ?_, (m1.trans m2).wr nD⟩
      · rw [List.length_map, List.length_replicate]
        exact Nat.lt_of_le_of_lt (show i ≤ 1000 by omega) (by decide)
      · rw [upd_same, List.replicate_succ', List.map_append]
        rfl
    · obtain ⟨e1, m1⟩ := h1
      refine ⟨D, List.replicate xs.length true, rfl, .inl (.inl e1), ?_⟩
      rw [show (List.replicate xs.length true).all id = true by simp]
      exact q H1 m1
end
end Fm
namespace Fm
open PySem PySem.Spec PyProof.Rows L2 SlX
local macro_rules | `(tactic| walk_at "nn") => `(tactic| dsimp only [tC, tNil, tCons, tCB, tCall, gName, tSeq, tAsg, tPar, tDrop, tRet])
local macro_rules | `(tactic| walk_at "nc") => `(tactic| dsimp only [tC, tNil, tCons, tCB, tCall])
def sp_set (K : PySem.W.Frag) : Sp := fun vs H Q _ => ∃ (many places : Int) (v : V) (chs : List (Int × Tm)) (goal : Int), vs = [.int many, .int places, v] ∧ Im K H v (Sta.set chs goal).d ∧ ChOk many chs ∧ 0 ≤ goal ∧ goal < places ∧ ∀ H', Mv [] H H' → Q (.bl true) H'
def sp_end (K : PySem.W.Frag) : Sp := fun vs H Q _ => ∃ (many : Int) (v : V) (word : Str) (ts : List Tm), vs = [.int many, v] ∧ Im K H v (Sta.fin word ts).d ∧ Nm word ∧ ts.length ≤ 2 ∧ (∀ t ∈ ts, TmOver many t) ∧ ∀ H', Mv [] H H' → Q (.bl true) H'
def sp_way (K : PySem.W.Frag) (C : Addr) : Sp := fun vs H Q _ => ∃ (x : Addr) (many places : Int) (v : V) (rs : List ActR) (r : ActR) (wy : Str × List Int × Int), vs = [.ref x, .int many, .int places, .str r.nm, v] ∧ WldAt K H C x rs ∧ r ∈ rs ∧ Im K H v (wayD wy) ∧ WayOk r many places wy ∧
  (∀ e ∈ r.outs, 0 ≤ e.2 ∧ e.2 ≤ 2) ∧ ∀ H', Mv [] H H' → Q (.bl true) H'
theorem Im.tup3 {K : PySem.W.Frag} {H : Hp} {v : V} {d e f : PyData} (h : Im K H v (.tuple [d, e, f])) : ∃ a x y z, v = .ref a ∧ SqT K H a [x, y, z] ∧ Im K H x d ∧ Im K H y e ∧ Im K H z f := by
  obtain ⟨a, xs, rfl, ha, hx⟩ := h.tupI
  obtain ⟨x, xs1, rfl, h1, hx⟩ := hx.invD
  obtain ⟨y, xs2, rfl, h2, hx⟩ := hx.invD
  obtain ⟨z, xs3, rfl, h3, hx⟩ := hx.invD
  rw [hx.nilD] at ha
  exact ⟨a, x, y, z, rfl, ha, h1, h2, h3⟩
theorem Im.tup2 {K : PySem.W.Frag} {H : Hp} {v : V} {d e : PyData} (h : Im K H v (.tuple [d, e])) : ∃ a x y, v = .ref a ∧ SqT K H a [x, y] ∧ Im K H x d ∧ Im K H y e := by
  obtain ⟨a, xs, rfl, ha, hx⟩ := h.tupI
  obtain ⟨x, xs1, rfl, h1, hx⟩ := hx.invD
  obtain ⟨y, xs2, rfl, h2, hx⟩ := hx.invD
  rw [hx.nilD] at ha
  exact ⟨a, x, y, rfl, ha, h1, h2⟩
theorem Im.tup4 {K : PySem.W.Frag} {H : Hp} {v : V} {d e f g : PyData} (h : Im K H v (.tuple [d, e, f, g])) : ∃ a x y z u, v = .ref a ∧ SqT K H a [x, y, z, u] ∧ Im K H x d ∧ Im K H y e ∧ Im K H z f ∧ Im K H u g := by
  obtain ⟨a, xs, rfl, ha, hx⟩ := h.tupI
  obtain ⟨x, xs1, rfl, h1, hx⟩ := hx.invD
  obtain ⟨y, xs2, rfl, h2, hx⟩ := hx.invD
  obtain ⟨z, xs3, rfl, h3, hx⟩ := hx.invD
  obtain ⟨u, xs4, rfl, h4, hx⟩ := hx.invD
  rw [hx.nilD] at ha
  exact ⟨a, x, y, z, u, rfl, ha, h1, h2, h3, h4⟩
theorem imm_ints (ns : List Int) : immAll (ns.map PyData.int) = true := immAll_iff.mpr fun x h => by
  obtain ⟨n, _, rfl⟩ := List.mem_map.mp h
  rfl
theorem Ims.intsI {K : PySem.W.Frag} {H : Hp} : ∀ {ns : List Int} {xs : List V}, Ims K H xs (ns.map PyData.int) → xs = ns.map V.int
  | [], _, h => h.nilD
  | n :: ns, _, h => by
    obtain ⟨v, vs, rfl, h1, h2⟩ := h.invD
    rw [h1.intI, Ims.intsI h2]
    rfl
theorem Ims.ofInts {K : PySem.W.Frag} {H : Hp} : ∀ (ns : List Int), Ims K H (ns.map V.int) (ns.map PyData.int)
  | [] => .nil
  | n :: ns => .cons (.int n) (Ims.ofInts ns)
section
variable {P : Program} {w : World} {K : PySem.W.Frag} {mg : Str → Option Value} {base : Heap}
theorem ok_is_set (T : TX K mg) {k : Nat} : FnOk P w K mg base CX0 (k + 5) T.d_is_set.f T.d_is_set.fd P_is_set (sp_set K) := by
  have G_is_pair : FnOk P w K mg base CX0 1 T.d_is_pair.f T.d_is_pair.fd P_is_pair (sp_pair K) := ok_is_pair T
  have G_is_place : FnOk P w K mg base CX0 2 T.d_is_place.f T.d_is_place.fd P_is_place (sp_place K) := ok_is_place T
  have G_are_different : FnOk P w K mg base CX0 2 T.d_are_different.f T.d_are_different.fd P_are_different (sp_diff K) := ok_are_different T
  have G_are_terms_over : FnOk P w K mg base CX0 4 T.d_are_terms_over.f T.d_are_terms_over.fd P_are_terms_over (sp_termsOver K) := ok_are_terms_over T
  refine T.d_is_set.F.ok sc_is_set (fun vs H Q E h => ?_) (fun cdv A outer s H vs Q E hr h => ?_)
  · obtain ⟨_, _, _, _, _, rfl, _⟩ := h
    rfl
  · obtain ⟨many, places, v, chs, goal, rfl, hv, ⟨cnd, cln, cok⟩, g0, g1, q⟩ := h
    have hu64 := hr.units
    obtain ⟨a, x0, x1, x2, rfl, ha, h0, h1, h2⟩ := hv.tup3
    cases h2.intI
    obtain ⟨a1, xs, rfl, ha1, hxs⟩ := h1.tupI
    have hl := hxs.length
    rw [List.length_map] at hl
    have row : ∀ (i : Nat) (x : V) (H' : Hp), Mv [] H H' → xs[i]? = some x → ∃ c ac y, chs[i]? = some c ∧ x = .ref ac ∧ SqT K H' ac [.int c.1, y] ∧ Im K H' y c.2.d ∧ Im K H' x (chD c) := fun i x H' m hx => by
      obtain ⟨d, hd, him⟩ := hxs.get hx
      rw [List.getElem?_map] at hd
      obtain ⟨c, hc, rfl⟩ := Option.map_eq_some_iff.mp hd
      obtain ⟨ac, y0, y, rfl, hac, k0, k1⟩ := (him.mv m).tup2
      rw [k0.intI] at hac
      exact ⟨c, ac, y, hc, rfl, hac, k1, him.mv m⟩
    refine ⟨_, (pss_cons (ps_if (PW.pt (pw_or (pt_cmpR (r := rNeG K) (op_neG hu64) (pe_callB (r := rLenG K) call_lenG (by rfl) T.b_len bt_len (pa_cons (pv 2) pa_nil)) pe_int (nomark _)) (pw_or (pt_not (pt_val (pe_callB (r := rIsi K) call_isi (by rfl) T.b_isinstance bt_isinstance (pa_cons (pe_ix (r := rIx K) ix_seq (pv 2) pe_int (fun _ _ => rfl)) (pa_cons (pe_ty T.b_tuple bt_tuple) pa_nil))))) (pw_or1 (pt_not (pt_val (pe_callB (r := rAll K) (cr_all rfl) (by rfl) T.b_all bt_all (pa_cons (pe_lc (own := [("change", 3)]) (g := gName 3) (by rfl) sc_is_set.nd (pi_seq (pe_ix (r := rIx K) ix_seq (pv 2) pe_int (fun _ _ => rfl))) (blkOk_by (own := [("change", 3)]) (N := N_is_set) (sc := defScope s_is_set) (by decide +kernel)) (fun _ _ _ _ _ => pg_name (i := 3) sc_is_set.nd rfl (Or.inl rfl)) (fun _ _ _ _ _ => pts_nil) (fun _ _ _ _ _ => (pe_call G_is_pair (hr.mono (by omega)) rfl T.d_is_pair.g T.d_is_pair.F.kp T.d_is_pair.b .nil pass0 (pa_cons (pv 3) pa_nil)))) pa_nil)))))))) (pss_one (ps_ret pe_bl)) pss_nil) (pss_cons (ps_if (pt_not (pt_val (pe_call G_are_different (hr.mono (by omega)) rfl T.d_are_different.g T.d_are_different.F.kp T.d_are_different.b .nil pass0 (pa_cons (pv 0) (pa_cons (pe_callTy (r := rTupOf K) call_tupG (by rfl) T.b_tuple bt_tuple (pa_cons (pe_lc (own := [("change", 3)]) (g := gName 3) (by rfl) sc_is_set.nd (pi_seq (pe_ix (r := rIx K) ix_seq (pv 2) pe_int (fun _ _ => rfl))) (blkOk_by (own := [("change", 3)]) (N := N_is_set) (sc := defScope s_is_set) (by decide +kernel)) (fun _ _ _ _ _ => pg_name (i := 3) sc_is_set.nd rfl (Or.inl rfl)) (fun _ _ _ _ _ => pts_nil) (fun _ _ _ _ _ => (pe_ix (r := rIx K) ix_seq (pv 3) pe_int (fun _ _ => rfl)))) pa_nil)) pa_nil))))) (pss_one (ps_ret pe_bl)) pss_nil) (pss_one (ps_ret (pe_and (pe_call G_are_terms_over (hr.mono (by omega)) rfl T.d_are_terms_over.g T.d_are_terms_over.F.kp T.d_are_terms_over.b .nil pass0 (pa_cons (pv 0) (pa_cons (pe_callTy (r := rTupOf K) call_tupG (by rfl) T.b_tuple bt_tuple (pa_cons (pe_lc (own := [("change", 3)]) (g := gName 3) (by rfl) sc_is_set.nd (pi_seq (pe_ix (r := rIx K) ix_seq (pv 2) pe_int (fun _ _ => rfl))) (blkOk_by (own := [("change", 3)]) (N := N_is_set) (sc := defScope s_is_set) (by decide +kernel)) (fun _ _ _ _ _ => pg_name (i := 3) sc_is_set.nd rfl (Or.inl rfl)) (fun _ _ _ _ _ => pts_nil) (fun _ _ _ _ _ => (pe_ix (r := rIx K) ix_seq (pv 3) pe_int (fun _ _ => rfl)))) pa_nil)) pa_nil))) (pe_one (pe_call G_is_place (hr.mono (by omega)) rfl T.d_is_place.g T.d_is_place.F.kp T.d_is_place.b .nil pass0 (pa_cons (pv 1) (pa_cons (pe_ix (r := rIx K) ix_seq (pv 2) pe_int (fun _ _ => rfl)) pa_nil))))))))), ?_⟩
    refine ⟨.ref a, rfl, ?_⟩
    walk_at "nc"
    refine rd_len (.inr ha) (Or.inl ⟨rfl, _, rfl, ?_⟩)
    refine ⟨.ref a, rfl, rd_ixT ha (by decide) (v := .ref a1) rfl ?_⟩
    walk_at "nn"
    refine ⟨_, _, _, _, true, rfl, .ty "tuple", tyx_sqT ha1, kit_ty (by decide +kernel), ?_⟩
    refine ⟨_, rfl, ?_⟩
    refine ⟨.ref a, rfl, rd_ixT ha (by decide) (v := .ref a1) rfl ⟨a1, rfl, ?_⟩⟩
    refine lc_seq (xs := xs) (.inr ha1) (fun i D H1 => H1 D = some (.lst ((List.replicate i true).map V.bl)) ∧ Mv [] H H1)
      (fun D nD => ⟨upd_same, .new nD⟩) (fun i D H1 nD h1 => h1.2) (fun D nD i x H1 hx h1 => ?_) (fun D H1 nD h1 => ?_)
    · obtain ⟨e1, m1⟩ := h1
      obtain ⟨c, ac, y, hc, rfl, hac, hy, him⟩ := row i x H1 m1 hx
      have hi := (List.getElem?_eq_some_iff.mp hc).1
      refine ⟨rfl, .ref ac, rfl, .ref ac, _, _, rfl, him, ?_⟩
      refine ⟨_, e1, ?_, ?_, m1.wr nD⟩
      · rw [List.length_map, List.length_replicate]
        exact Nat.lt_of_le_of_lt (show i ≤ 1000 by omega) (by decide)
      · rw [upd_same, List.replicate_succ', List.map_append]
        rfl
    obtain ⟨e1, m1⟩ := h1
    refine ⟨D, List.replicate xs.length true, rfl, .inl (.inl e1), ?_⟩
    rw [show (List.replicate xs.length true).all id = true by simp]
    refine ⟨_, rfl, ?_⟩
    clear e1 nD
    -- are_different
    refine ⟨.int many, rfl, .ref a, rfl, rd_ixT (m1.sqT ha) (by decide) (v := .ref a1) rfl ⟨a1, rfl, ?_⟩⟩
    refine lc_seq (xs := xs) (.inr (m1.sqT ha1)) (fun i D H2 => H2 D = some (.lst (((chs.take i).map (·.1)).map V.int)) ∧ Mv [] H1 H2)
      (fun D nD => ⟨upd_same, .new nD⟩) (fun i D H2 nD h2 => h2.2) (fun D nD i x H2 hx h2 => ?_) (fun D H2 nD h2 => ?_)
    · obtain ⟨e2, m2⟩ := h2
      obtain ⟨c, ac, y, hc, rfl, hac, hy, him⟩ := row i x H2 (m1.trans m2) hx
      have hi := (List.getElem?_eq_some_iff.mp hc).1
      refine ⟨rfl, .ref ac, rfl, rd_ixT hac (by decide) (v := .int c.1) rfl ?_⟩
      refine ⟨_, e2, ?_, ?_, m2.wr nD⟩
      · rw [List.length_map, List.length_map, List.length_take]
        exact Nat.lt_of_le_of_lt (show min i chs.length ≤ 1000 by omega) (by decide)
      · rw [upd_same, List.take_add_one, hc]
        simp
    obtain ⟨e2, m2⟩ := h2
    rw [hl, List.take_length] at e2
    walk_at "nc"
    refine rd_tupOf (.inl (.inl e2)) fun p H3 m3 e3 => ?_
    refine ⟨many, p, chs.map (·.1), rfl, e3, cnd, by rw [List.length_map]; omega, fun j hj => ?_, fun H4 m4 => ⟨_, rfl, ?_⟩⟩
    · obtain ⟨c, hc, rfl⟩ := List.mem_map.mp hj
      exact ⟨(cok c hc).1, (cok c hc).2.1⟩
    have m04 := m1.trans (m2.trans (m3.trans m4))
    -- are_terms_over
    refine ⟨.int many, rfl, .ref a, rfl, rd_ixT (m04.sqT ha) (by decide) (v := .ref a1) rfl ⟨a1, rfl, ?_⟩⟩
    refine lc_seq (xs := xs) (.inr (m04.sqT ha1)) (fun i D H5 => ∃ ys, H5 D = some (.lst ys) ∧ Ims K H5 ys (Tm.ds ((chs.take i).map (·.2))) ∧ Mv [] H4 H5)
      (fun D nD => ⟨[], upd_same, by simpa [Tm.ds] using Ims.nil, .new nD⟩) (fun i D H5 nD h5 => h5.choose_spec.2.2) (fun D nD i x H5 hx h5 => ?_) (fun D H5 nD h5 => ?_)
    · obtain ⟨ys, e5, i5, m5⟩ := h5
      obtain ⟨c, ac, y, hc, rfl, hac, hy, him⟩ := row i x H5 (m04.trans m5) hx
      have hi := (List.getElem?_eq_some_iff.mp hc).1
      refine ⟨rfl, .ref ac, rfl, rd_ixT hac (by decide) (v := y) rfl ?_⟩
      have hw : Mv [D] H5 (upd H5 D (.lst (ys ++ [y]))) := .set e5 (by simp)
      refine ⟨ys, e5, ?_, _, upd_same, ?_, m5.wr nD⟩
      · rw [i5.length, Tm.ds_map, List.length_map, List.length_map, List.length_take]
        exact Nat.lt_of_le_of_lt (show min i chs.length ≤ 1000 by omega) (by decide)
      · rw [List.take_add_one, hc]
        rw [show Tm.ds ((chs.take i ++ (some c).toList).map (·.2)) = Tm.ds ((chs.take i).map (·.2)) ++ [c.2.d] by simp [Tm.ds_map]]
        exact (i5.append (.cons hy .nil)).mv hw
    obtain ⟨ys, e5, i5, m5⟩ := h5
    rw [hl, List.take_length] at i5
    walk_at "nc"
    refine rd_tupOf (.inl (.inl e5)) fun p6 H6 m6 e6 => ?_
    refine ⟨many, .ref p6, chs.map (·.2), rfl, .tup e6 (i5.mv m6), by rw [List.length_map]; omega, fun t ht => ?_, fun H7 m7 => ⟨_, rfl, ?_⟩⟩
    · obtain ⟨c, hc, rfl⟩ := List.mem_map.mp ht
      exact (cok c hc).2.2
    have m07 := m04.trans (m5.trans (m6.trans m7))
    refine ⟨.int places, rfl, .ref a, rfl, rd_ixT (m07.sqT ha) (by decide) (v := .int goal) rfl ?_⟩
    refine ⟨places, .int goal, .int goal, a, rfl, rfl, fun H8 m8 => ?_⟩
    rw [show inPl places (.int goal) = true by simp [inPl, g0, g1]]
    exact q H8 (m07.trans m8)
theorem ok_is_end (T : TX K mg) {k : Nat} : FnOk P w K mg base CX0 (k + 5) T.d_is_end.f T.d_is_end.fd P_is_end (sp_end K) := by
  have G_is_name : FnOk P w K mg base CX0 1 T.d_is_name.f T.d_is_name.fd P_is_name (sp_kind K isNamed) := ok_is_name T
  have G_are_terms_over : FnOk P w K mg base CX0 4 T.d_are_terms_over.f T.d_are_terms_over.fd P_are_terms_over (sp_termsOver K) := ok_are_terms_over T
  refine T.d_is_end.F.ok sc_is_end (fun vs H Q E h => ?_) (fun cdv A outer s H vs Q E hr h => ?_)
  · obtain ⟨_, _, _, _, rfl, _⟩ := h
    rfl
  · obtain ⟨many, v, word, ts, rfl, hv, hw, hl, hts, q⟩ := h
    have hu64 := hr.units
    obtain ⟨a, x0, x1, x2, rfl, ha, h0, h1, h2⟩ := hv.tup3
    cases h1.strI
    refine ⟨_, (pss_cons (ps_if (PW.pt (pw_or (pt_cmpR (r := rNeG K) (op_neG hu64) (pe_callB (r := rLenG K) call_lenG (by rfl) T.b_len bt_len (pa_cons (pv 1) pa_nil)) pe_int (nomark _)) (pw_or (pt_not (pt_val (pe_call G_is_name (hr.mono (by omega)) rfl T.d_is_name.g T.d_is_name.F.kp T.d_is_name.b .nil pass0 (pa_cons (pe_ix (r := rIx K) ix_seq (pv 1) pe_int (fun _ _ => rfl)) pa_nil)))) (pw_or1 (pt_not (pt_val (pe_call G_are_terms_over (hr.mono (by omega)) rfl T.d_are_terms_over.g T.d_are_terms_over.F.kp T.d_are_terms_over.b .nil pass0 (pa_cons (pv 0) (pa_cons (pe_ix (r := rIx K) ix_seq (pv 1) pe_int (fun _ _ => rfl)) pa_nil))))))))) (pss_one (ps_ret pe_bl)) pss_nil) (pss_one (ps_ret (pe_cmpR op_le (pe_callB (r := rLenG K) call_lenG (by rfl) T.b_len bt_len (pa_cons (pe_ix (r := rIx K) ix_seq (pv 1) pe_int (fun _ _ => rfl)) pa_nil)) (pe_glob rfl T.c_MOST_TOLD T.r_MOST_TOLD) (nomark _))))), ?_⟩
    refine ⟨.ref a, rfl, ?_⟩
    walk_at "nc"
    refine rd_len (.inr ha) (Or.inl ⟨rfl, _, rfl, ?_⟩)
    refine ⟨.ref a, rfl, rd_ixT ha (by decide) (v := .str word) rfl ?_⟩
    refine ⟨.str word, .str word, a, rfl, ⟨rfl, by have := hw.2.1; omega⟩, fun H1 m1 => ?_⟩
    rw [show isNamed (.str word) = true from nmd_nm hw]
    refine ⟨_, rfl, ?_⟩
    refine ⟨.int many, rfl, .ref a, rfl, rd_ixT (m1.sqT ha) (by decide) (v := x2) rfl ?_⟩
    refine ⟨many, x2, ts, rfl, h2.mv m1, by omega, hts, fun H2 m2 => ⟨_, rfl, ?_⟩⟩
    have m02 := m1.trans m2
    obtain ⟨a2, xs, rfl, ha2, hx2⟩ := h2.tupI
    refine ⟨.ref a, rfl, rd_ixT (m02.sqT ha) (by decide) (v := .ref a2) rfl ?_⟩
    walk_at "nc"
    have hl2 := hx2.length
    rw [Tm.ds_map, List.length_map] at hl2
    refine rd_len (.inr (m02.sqT ha2)) ⟨_, 2, rfl, rfl, ?_⟩
    rw [hl2]
    dsimp only
    rw [show decide (((ts.length : Nat) : Int) ≤ 2) = true from decide_eq_true (by omega)]
    exact q H2 m02
end
end Fm
namespace Fm
open PySem PySem.Spec PyProof.Rows L2 SlX
local macro_rules | `(tactic| walk_at "nn") => `(tactic| dsimp only [tC, tNil, tCons, tCB, tCall, gName, tSeq, tAsg, tPar, tDrop, tRet])
local macro_rules | `(tactic| walk_at "nc") => `(tactic| dsimp only [tC, tNil, tCons, tCB, tCall])
def sp_ask (K : PySem.W.Frag) (C : Addr) : Sp := fun vs H Q _ => ∃ (x : Addr) (many places : Int) (v : V) (rs : List ActR) (r : ActR) (ts : List Tm) (ways : List (Str × List Int × Int)), vs = [.ref x, .int many, .int places, v] ∧ WldAt K H C x rs ∧ WOk rs ∧ r ∈ rs ∧ Im K H v (Sta.ask r.nm ts ways).d ∧ AskOk r many places ts ways ∧
  ∀ H', Mv [] H H' → Q (.bl true) H'
section
variable {P : Program} {w : World} {K : PySem.W.Frag} {mg : Str → Option Value} {base : Heap}
theorem ok_is_way (T : TX K mg) {k : Nat} : FnOk P w K mg base CX0 (k + 3) T.d_is_way.f T.d_is_way.fd P_is_way (sp_way K T.C_World) := by
  have G_is_place : FnOk P w K mg base CX0 2 T.d_is_place.f T.d_is_place.fd P_is_place (sp_place K) := ok_is_place T
  have G_are_different : FnOk P w K mg base CX0 2 T.d_are_different.f T.d_are_different.fd P_are_different (sp_diff K) := ok_are_different T
  have G_World_outcomes : FnOk P w K mg base CX0 1 T.d_World_outcomes.f T.d_World_outcomes.fd P_World_outcomes (sp_Wouts K T.C_World) := ok_World_outcomes T
  have G_World_brings : FnOk P w K mg base CX0 1 T.d_World_brings.f T.d_World_brings.fd P_World_brings (sp_Wbrings K T.C_World) := ok_World_brings T
  refine T.d_is_way.F.ok sc_is_way (fun vs H Q E h => ?_) (fun cdv A outer s H vs Q E hr h => ?_)
  · obtain ⟨_, _, _, _, _, _, _, rfl, _⟩ := h
    rfl
  · obtain ⟨x, many, places, v, rs, r, wy, rfl, hW, hrs, hv, ⟨i, hi, hil, wnd, win, g0, g1⟩, hb, q⟩ := h
    have hu64 := hr.units
    have hu65 := hu65_of hr
    obtain ⟨a, x0, x1, x2, rfl, ha, h0, h1, h2⟩ := hv.tup3
    cases h0.strI
    cases h2.intI
    obtain ⟨a1, xs, rfl, ha1, hxs⟩ := h1.tupI
    have hxi := hxs.intsI
    subst hxi
    have hi2 := hb _ hi
    refine ⟨_, (pss_cons (ps_if (PW.pt (pw_or (pt_not (pt_val (pe_callB (r := rIsi K) call_isi (by rfl) T.b_isinstance bt_isinstance (pa_cons (pv 4) (pa_cons (pe_ty T.b_tuple bt_tuple) pa_nil))))) (pw_or (pt_cmpR (r := rNeG K) (op_neG hu64) (pe_callB (r := rLenG K) call_lenG (by rfl) T.b_len bt_len (pa_cons (pv 4) pa_nil)) pe_int (nomark _)) (pw_or1 (pt_not (pt_val (pe_callB (r := rIsi K) call_isi (by rfl) T.b_isinstance bt_isinstance (pa_cons (pe_ix (r := rIx K) ix_seq (pv 4) pe_int (fun _ _ => rfl)) (pa_cons (pe_ty T.b_str bt_str) pa_nil))))))))) (pss_one (ps_ret pe_bl)) pss_nil) (pss_cons (ps_if (PW.pt (pw_or (pt_cmpR (r := rIn K true) op_notIn_seq (pe_ix (r := rIx K) ix_seq (pv 4) pe_int (fun _ _ => rfl)) (pe_methSl (pv 0) T.c_World T.d_World_outcomes.M (fnR_of G_World_outcomes T.d_World_outcomes.b) (hr.mono (by omega)) pass0 (pa_cons (pv 3) pa_nil)) rfl) (pw_or1 (pt_not (pt_val (pe_call G_are_different (hr.mono (by omega)) rfl T.d_are_different.g T.d_are_different.F.kp T.d_are_different.b .nil pass0 (pa_cons (pv 1) (pa_cons (pe_ix (r := rIx K) ix_seq (pv 4) pe_int (fun _ _ => rfl)) pa_nil)))))))) (pss_one (ps_ret pe_bl)) pss_nil) (pss_one (ps_ret (pe_and (pe_cmpR (r := rEqG K) (op_eqG hu64) (pe_callB (r := rLenG K) call_lenG (by rfl) T.b_len bt_len (pa_cons (pe_ix (r := rIx K) ix_seq (pv 4) pe_int (fun _ _ => rfl)) pa_nil)) (pe_methSl (pv 0) T.c_World T.d_World_brings.M (fnR_of G_World_brings T.d_World_brings.b) (hr.mono (by omega)) pass0 (pa_cons (pv 3) (pa_cons (pe_ix (r := rIx K) ix_seq (pv 4) pe_int (fun _ _ => rfl)) pa_nil))) (nomark _)) (pe_one (pe_call G_is_place (hr.mono (by omega)) rfl T.d_is_place.g T.d_is_place.F.kp T.d_is_place.b .nil pass0 (pa_cons (pv 2) (pa_cons (pe_ix (r := rIx K) ix_seq (pv 4) pe_int (fun _ _ => rfl)) pa_nil))))))))), ?_⟩
    refine ⟨.ref a, rfl, ?_⟩
    walk_at "nn"
    refine ⟨_, _, _, _, true, rfl, .ty "tuple", tyx_sqT ha, kit_ty (by decide +kernel), ?_⟩
    refine ⟨_, rfl, ?_⟩
    refine ⟨.ref a, rfl, ?_⟩
    walk_at "nc"
    refine rd_len (.inr ha) (Or.inl ⟨rfl, _, rfl, ?_⟩)
    refine ⟨.ref a, rfl, rd_ixT ha (by decide) (v := .str wy.1) rfl ?_⟩
    walk_at "nn"
    refine ⟨_, _, _, _, true, rfl, .ty "str", .base (.str _), kit_ty (by decide +kernel), ?_⟩
    refine ⟨_, rfl, ?_⟩
    -- in the outcomes
    refine ⟨.ref a, rfl, rd_ixT ha (by decide) (v := .str wy.1) rfl ?_⟩
    obtain ⟨dx, d, zs, hs, hA, hz⟩ := id hW
    refine ⟨.ref x, rfl, x, dx, _, rfl, hs, .str r.nm, rfl, x, rs, r, rfl, hW, hrs, fun p np => ?_⟩
    refine rd_notS upd_same ⟨_, rfl, ?_⟩
    rw [show decide (wy.1 ∈ r.outs.map (·.1)) = true from decide_eq_true (List.mem_map.mpr ⟨_, hi, rfl⟩)]
    have m1 : Mv [] H (upd H p (.lst ((r.outs.map (·.1)).map V.str))) := .new np
    generalize upd H p (.lst ((r.outs.map (·.1)).map V.str)) = H1 at m1 ⊢
    refine ⟨.int many, rfl, .ref a, rfl, rd_ixT (m1.sqT ha) (by decide) (v := .ref a1) rfl ?_⟩
    refine ⟨many, a1, wy.2.1, rfl, m1.sqT ha1, wnd, by omega, win, fun H2 m2 => ⟨_, rfl, ?_⟩⟩
    have m02 := m1.trans m2
    -- as many as it brings
    refine ⟨.ref a, rfl, rd_ixT (m02.sqT ha) (by decide) (v := .ref a1) rfl ?_⟩
    walk_at "nc"
    refine rd_len (.inr (m02.sqT ha1)) ?_
    refine ⟨.ref x, rfl, x, dx, _, rfl, Slt.mv hs m02, .str r.nm, rfl, .ref a, rfl, rd_ixT (m02.sqT ha) (by decide) (v := .str wy.1) rfl ?_⟩
    refine ⟨x, rs, r, wy.1, i, rfl, hW.mv m02, hrs, hi, Or.inl ⟨rfl, _, rfl, ?_⟩⟩
    rw [List.length_map, hil]
    simp only [decide_true]
    refine ⟨.int places, rfl, .ref a, rfl, rd_ixT (m02.sqT ha) (by decide) (v := .int wy.2.2) rfl ?_⟩
    refine ⟨places, .int wy.2.2, .int wy.2.2, a, rfl, rfl, fun H8 m8 => ?_⟩
    rw [show inPl places (.int wy.2.2) = true by simp [inPl, g0, g1]]
    exact q H8 (m02.trans m8)
end
end Fm
namespace Fm
open PySem PySem.Spec PyProof.Rows L2 SlX
local macro_rules | `(tactic| walk_at "nn") => `(tactic| dsimp only [tC, tNil, tCons, tCB, tCall, gName, tSeq, tAsg, tPar, tDrop, tRet])
local macro_rules | `(tactic| walk_at "nc") => `(tactic| dsimp only [tC, tNil, tCons, tCB, tCall])
section
variable {P : Program} {w : World} {K : PySem.W.Frag} {mg : Str → Option Value} {base : Heap}
theorem ok_is_ask (T : TX K mg) {k : Nat} : FnOk P w K mg base CX0 (k + 5) T.d_is_ask.f T.d_is_ask.fd P_is_ask (sp_ask K T.C_World) := by
  have G_is_way : FnOk P w K mg base CX0 3 T.d_is_way.f T.d_is_way.fd P_is_way (sp_way K T.C_World) := ok_is_way T
  have G_are_terms_over : FnOk P w K mg base CX0 4 T.d_are_terms_over.f T.d_are_terms_over.fd P_are_terms_over (sp_termsOver K) := ok_are_terms_over T
  have G_World_acts : FnOk P w K mg base CX0 1 T.d_World_acts.f T.d_World_acts.fd P_World_acts (sp_Wacts K T.C_World) := ok_World_acts T
  have G_World_outcomes : FnOk P w K mg base CX0 1 T.d_World_outcomes.f T.d_World_outcomes.fd P_World_outcomes (sp_Wouts K T.C_World) := ok_World_outcomes T
  have G_World_arguments : FnOk P w K mg base CX0 1 T.d_World_arguments.f T.d_World_arguments.fd P_World_arguments (sp_Wargs K T.C_World) := ok_World_arguments T
  refine T.d_is_ask.F.ok sc_is_ask (fun vs H Q E h => ?_) (fun cdv A outer s H vs Q E hr h => ?_)
  · obtain ⟨_, _, _, _, _, _, _, _, rfl, _⟩ := h
    rfl
  · obtain ⟨x, many, places, v, rs, r, ts, ways, rfl, hW, hWo, hrs, hv, hok, q⟩ := h
    have hu64 := hr.units
    have hu65 := hu65_of hr
    have hro := hWo.ok r hrs
    obtain ⟨a, x0, x1, x2, x3, rfl, ha, h0, h1, h2, h3⟩ := hv.tup4
    cases h1.strI
    obtain ⟨a2, xs2, rfl, ha2, hxs2⟩ := h2.tupI
    obtain ⟨a3, xs3, rfl, ha3, hxs3⟩ := h3.tupI
    have hl2 := hxs2.length
    rw [Tm.ds_map, List.length_map] at hl2
    have hl3 := hxs3.length
    rw [List.length_map] at hl3
    have hwl : ways.length = r.outs.length := by
      have := hok.pm.length_eq
      rwa [List.length_map, List.length_map] at this
    have hw6 := hro.o6
    have row : ∀ (i : Nat) (y : V) (H' : Hp), Mv [] H H' → xs3[i]? = some y → ∃ c ac y1 y2, ways[i]? = some c ∧ y = .ref ac ∧ SqT K H' ac [.str c.1, y1, y2] ∧ Im K H' y (wayD c) := fun i y H' m hx => by
      obtain ⟨d, hd, him⟩ := hxs3.get hx
      rw [List.getElem?_map] at hd
      obtain ⟨c, hc, rfl⟩ := Option.map_eq_some_iff.mp hd
      obtain ⟨ac, y0, y1, y2, rfl, hac, k0, k1, k2⟩ := (him.mv m).tup3
      rw [k0.strI] at hac
      exact ⟨c, ac, y1, y2, hc, rfl, hac, him.mv m⟩
    obtain ⟨dx, d, zs, hs, hA, hz⟩ := id hW
    refine ⟨_, (pss_cons (ps_if (PW.pt (pw_or (pt_cmpR (r := rNeG K) (op_neG hu64) (pe_callB (r := rLenG K) call_lenG (by rfl) T.b_len bt_len (pa_cons (pv 3) pa_nil)) pe_int (nomark _)) (pw_or (pt_not (pt_val (pe_callB (r := rIsi K) call_isi (by rfl) T.b_isinstance bt_isinstance (pa_cons (pe_ix (r := rIx K) ix_seq (pv 3) pe_int (fun _ _ => rfl)) (pa_cons (pe_ty T.b_str bt_str) pa_nil))))) (pw_or1 (pt_cmpR (r := rIn K true) op_notIn_seq (pe_ix (r := rIx K) ix_seq (pv 3) pe_int (fun _ _ => rfl)) (pe_methSl0 (pv 0) T.c_World T.d_World_acts.M (fnR_of G_World_acts T.d_World_acts.b) (hr.mono (by omega)) pass0) rfl))))) (pss_one (ps_ret pe_bl)) pss_nil) (pss_cons (ps_asg (pv 3) (pg_tup rfl (pgs_cons (pg_name (i := 4) sc_is_ask.nd rfl (Or.inl rfl)) (pgs_cons (pg_name (i := 5) sc_is_ask.nd rfl (Or.inr rfl)) (pgs_cons (pg_name (i := 6) sc_is_ask.nd rfl (Or.inl rfl)) (pgs_cons (pg_name (i := 7) sc_is_ask.nd rfl (Or.inl rfl)) pgs_nil)))))) (pss_cons (ps_if (PW.pt (pw_or (pt_not (pt_val (pe_call G_are_terms_over (hr.mono (by omega)) rfl T.d_are_terms_over.g T.d_are_terms_over.F.kp T.d_are_terms_over.b .nil pass0 (pa_cons (pv 1) (pa_cons (pv 6) pa_nil))))) (pw_or (pt_cmpR (r := rNeG K) (op_neG hu64) (pe_callB (r := rLenG K) call_lenG (by rfl) T.b_len bt_len (pa_cons (pv 6) pa_nil)) (pe_methSl (pv 0) T.c_World T.d_World_arguments.M (fnR_of G_World_arguments T.d_World_arguments.b) (hr.mono (by omega)) pass0 (pa_cons (pv 5) pa_nil)) (nomark _)) (pw_or1 (pt_not (pt_val (pe_callB (r := rIsi K) call_isi (by rfl) T.b_isinstance bt_isinstance (pa_cons (pv 7) (pa_cons (pe_ty T.b_tuple bt_tuple) pa_nil))))))))) (pss_one (ps_ret pe_bl)) pss_nil) (pss_cons (ps_if (pt_not (pt_val (pe_callB (r := rAll K) (cr_all rfl) (by rfl) T.b_all bt_all (pa_cons (pe_lc (own := [("way", 8)]) (g := gName 8) (by rfl) sc_is_ask.nd (pi_seq (pv 7)) (blkOk_by (own := [("way", 8)]) (N := N_is_ask) (sc := defScope s_is_ask) (by decide +kernel)) (fun _ _ _ _ _ => pg_name (i := 8) sc_is_ask.nd rfl (Or.inl rfl)) (fun _ _ _ _ _ => pts_nil) (fun _ _ _ _ _ => (pe_call G_is_way (hr.mono (by omega)) rfl T.d_is_way.g T.d_is_way.F.kp T.d_is_way.b .nil pass0 (pa_cons (pv 0) (pa_cons (pv 1) (pa_cons (pv 2) (pa_cons (pv 5) (pa_cons (pv 8) pa_nil)))))))) pa_nil)))) (pss_one (ps_ret pe_bl)) pss_nil) (pss_one (ps_ret (pe_cmpR (r := rEqG K) (op_eqG hu64) (pe_callB (r := rSortA K) (cr_sortA rfl) (by rfl) T.b_sorted bt_sorted (pa_cons (pe_lc (own := [("way", 8)]) (g := gName 8) (by rfl) sc_is_ask.nd (pi_seq (pv 7)) (blkOk_by (own := [("way", 8)]) (N := N_is_ask) (sc := defScope s_is_ask) (by decide +kernel)) (fun _ _ _ _ _ => pg_name (i := 8) sc_is_ask.nd rfl (Or.inl rfl)) (fun _ _ _ _ _ => pts_nil) (fun _ _ _ _ _ => (pe_ix (r := rIx K) ix_seq (pv 8) pe_int (fun _ _ => rfl)))) pa_nil)) (pe_methSl (pv 0) T.c_World T.d_World_outcomes.M (fnR_of G_World_outcomes T.d_World_outcomes.b) (hr.mono (by omega)) pass0 (pa_cons (pv 5) pa_nil)) (nomark _)))))))), ?_⟩
    refine ⟨.ref a, rfl, ?_⟩
    walk_at "nc"
    refine rd_len (.inr ha) (Or.inl ⟨rfl, _, rfl, ?_⟩)
    refine ⟨.ref a, rfl, rd_ixT ha (by decide) (v := .str r.nm) rfl ?_⟩
    walk_at "nn"
    refine ⟨_, _, _, _, true, rfl, .ty "str", .base (.str _), kit_ty (by decide +kernel), ?_⟩
    refine ⟨_, rfl, ?_⟩
    refine ⟨.ref a, rfl, rd_ixT ha (by decide) (v := .str r.nm) rfl ?_⟩
    refine ⟨.ref x, rfl, x, dx, _, rfl, hs, x, rs, rfl, hW, fun p np => ?_⟩
    refine rd_notS upd_same ⟨_, rfl, ?_⟩
    rw [show decide (r.nm ∈ rs.map (·.nm)) = true from decide_eq_true (List.mem_map.mpr ⟨_, hrs, rfl⟩)]
    have m1 : Mv [] H (upd H p (.lst ((rs.map (·.nm)).map V.str))) := .new np
    generalize upd H p (.lst ((rs.map (·.nm)).map V.str)) = H1 at m1 ⊢
    -- word, act, terms, ways = thing
    refine ⟨.ref a, rfl, a, _, rfl, m1.sqT ha, rfl, _, _, rfl, _, _, rfl, _, _, rfl, _, _, rfl, rfl, ?_⟩
    refine ⟨.int many, rfl, .ref a2, rfl, many, .ref a2, ts, rfl, h2.mv m1, ?_, hok.ts, fun H2 m2 => ⟨_, rfl, ?_⟩⟩
    · have := hok.len
      have := hro.ar2
      omega
    have m02 := m1.trans m2
    refine ⟨.ref a2, rfl, ?_⟩
    walk_at "nc"
    refine rd_len (.inr (m02.sqT ha2)) ?_
    refine ⟨.ref x, rfl, x, dx, _, rfl, Slt.mv hs m02, .str r.nm, rfl, x, rs, r, rfl, hW.mv m02, hrs, Or.inl ⟨rfl, _, rfl, ?_⟩⟩
    rw [hl2, hok.len]
    simp only [decide_true]
    refine ⟨.ref a3, rfl, ?_⟩
    walk_at "nn"
    refine ⟨_, _, _, _, true, rfl, .ty "tuple", tyx_sqT (m02.sqT ha3), kit_ty (by decide +kernel), ?_⟩
    refine ⟨_, rfl, ?_⟩
    -- all are ways
    refine ⟨.ref a3, rfl, a3, rfl, ?_⟩
    refine lc_seq (xs := xs3) (.inr (m02.sqT ha3)) (fun i D H3 => H3 D = some (.lst ((List.replicate i true).map V.bl)) ∧ Mv [] H2 H3)
      (fun D nD => ⟨upd_same, .new nD⟩) (fun i D H3 nD h3 => h3.2) (fun D nD i y H3 hx h3 => ?_) (fun D H3 nD h3 => ?_)
    · obtain ⟨e3, m3⟩ := h3
      obtain ⟨c, ac, y1, y2, hc, rfl, hac, him⟩ := row i y H3 (m02.trans m3) hx
      have hi := (List.getElem?_eq_some_iff.mp hc).1
      refine ⟨rfl, .ref x, rfl, .int many, rfl, .int places, rfl, .str r.nm, rfl, .ref ac, rfl, ?_⟩
      refine ⟨x, many, places, .ref ac, rs, r, c, rfl, hW.mv (m02.trans m3), hrs, him, hok.ways c (List.mem_of_getElem? hc), fun e he => (hro.on e he).2, fun H4 m4 => ?_⟩
      refine ⟨_, m4.same _ _ e3, ?_, ?_, (m3.trans m4).wr nD⟩
      · rw [List.length_map, List.length_replicate]
        exact Nat.lt_of_le_of_lt (show i ≤ 1000 by omega) (by decide)
      · rw [upd_same, List.replicate_succ', List.map_append]
        rfl
    obtain ⟨e3, m3⟩ := h3
    refine ⟨D, List.replicate xs3.length true, rfl, .inl (.inl e3), ?_⟩
    rw [show (List.replicate xs3.length true).all id = true by simp]
    refine ⟨_, rfl, ?_⟩
    have m03 := m02.trans m3
    clear e3 nD
    -- sorted of the words
    refine ⟨.ref a3, rfl, a3, rfl, ?_⟩
    refine lc_seq (xs := xs3) (.inr (m03.sqT ha3)) (fun i D H4 => H4 D = some (.lst (((ways.take i).map (·.1)).map V.str)) ∧ Mv [] H3 H4)
      (fun D nD => ⟨upd_same, .new nD⟩) (fun i D H4 nD h4 => h4.2) (fun D nD i y H4 hx h4 => ?_) (fun D H4 nD h4 => ?_)
    · obtain ⟨e4, m4⟩ := h4
      obtain ⟨c, ac, y1, y2, hc, rfl, hac, him⟩ := row i y H4 (m03.trans m4) hx
      have hi := (List.getElem?_eq_some_iff.mp hc).1
      refine ⟨rfl, .ref ac, rfl, rd_ixT hac (by decide) (v := .str c.1) rfl ?_⟩
      refine ⟨_, e4, ?_, ?_, m4.wr nD⟩
      · rw [List.length_map, List.length_map, List.length_take]
        exact Nat.lt_of_le_of_lt (show min i ways.length ≤ 1000 by omega) (by decide)
      · rw [upd_same, List.take_add_one, hc]
        simp
    obtain ⟨e4, m4⟩ := h4
    rw [hl3, List.take_length] at e4
    walk_at "nc"
    refine Or.inr (Or.inl ⟨D, ways.map (·.1), rfl, .inl (.inl e4), by rw [List.length_map]; omega, fun ys p5 hp hsd np5 => ?_⟩)
    have hys : ys = r.outs.map (·.1) := List.Perm.eq_of_pairwise (le := fun a b => leS a b = true) (fun a b _ _ h h' => totS.an _ _ h h') (sortedS_pw ys hsd) (hWo.pw r hrs) (hp.trans hok.pm)
    subst hys
    have m35 : Mv [] H3 (upd H4 p5 (.lst ((r.outs.map (·.1)).map V.str))) := m4.trans (.new np5)
    have e5 : upd H4 p5 (.lst ((r.outs.map (·.1)).map V.str)) p5 = some (.lst ((r.outs.map (·.1)).map V.str)) := upd_same
    generalize upd H4 p5 (.lst ((r.outs.map (·.1)).map V.str)) = H5 at m35 e5 ⊢
    have m05 := m03.trans m35
    refine ⟨.ref x, rfl, x, dx, _, rfl, Slt.mv hs m05, .str r.nm, rfl, x, rs, r, rfl, hW.mv m05, hrs, fun p6 np6 => ?_⟩
    refine rd_eqS (same_new np6 _ _ e5) upd_same (fun s hs => ?_) (q _ (m05.trans (.new np6)))
    obtain ⟨e, he, rfl⟩ := List.mem_map.mp hs
    exact on_ok (hro.on e he).1
end
end Fm
namespace Fm
open PySem PySem.Spec PyProof.Rows L2 SlX
local macro_rules | `(tactic| walk_at "nn") => `(tactic| dsimp only [tC, tNil, tCons, tCB, tCall, gName, tSeq, tAsg, tPar, tDrop, tRet])
local macro_rules | `(tactic| walk_at "nc") => `(tactic| dsimp only [tC, tNil, tCons, tCB, tCall])
/-! rows put in order by their first part -/
theorem Ims.pairs {α : Type} {K : PySem.W.Frag} {H : Hp} {D : α → PyData} : ∀ {rows : List α} {xs : List V}, Ims K H xs (rows.map D) → ∀ z ∈ rows.zip xs, Im K H z.2 (D z.1)
  | [], _, _, z, hz => by simp at hz
  | r :: rows, _, h, z, hz => by
    obtain ⟨v, vs, rfl, h1, h2⟩ := h.invD
    rw [List.zip_cons_cons, List.mem_cons] at hz
    rcases hz with rfl | hz
    · exact h1
    · exact Ims.pairs h2 z hz
theorem Ims.ofPairs {α : Type} {K : PySem.W.Frag} {H : Hp} {D : α → PyData} : ∀ (zs : List (α × V)), (∀ z ∈ zs, Im K H z.2 (D z.1)) → Ims K H (zs.map (·.2)) ((zs.map (·.1)).map D)
  | [], _ => .nil
  | z :: zs, h => .cons (h z (by simp)) (Ims.ofPairs zs fun y hy => h y (by simp [hy]))
theorem sorted_rows {α κ : Type} {K : PySem.W.Frag} {H : Hp} {D : α → PyData} {le : κ → κ → Bool} (t : TotO le) {key : α → κ} {mk : κ → V} {kf : V → κ} (hm : ∀ k, kf (mk k) = k) (hlt : ∀ i j, ltV (mk j) (mk i) = false → le i j = true)
    {rows : List α} {xs : List V} (h : Ims K H xs (rows.map D)) (n : (rows.map key).Nodup) {ps : List (V × V)} (p : ps.Perm ((rows.map fun r => mk (key r)).zip xs)) (s : ps.Pairwise fun p q => ltV q.1 p.1 = false) :
    Ims K H (ps.map (·.2)) ((srt le key rows).map D) := by
  have hl : rows.length = xs.length := by
    have := h.length
    rw [List.length_map] at this
    exact this.symm
  have e1 : (rows.map fun r => mk (key r)).zip xs = (rows.zip xs).map fun z => (mk (key z.1), z.2) := by
    clear h n p
    induction rows generalizing xs with
    | nil => simp
    | cons r rows ih =>
      cases xs with
      | nil => simp at hl
      | cons x xs => simp [ih (xs := xs) (by simpa using hl)]
  rw [e1] at p
  have nz : ((rows.zip xs).map fun z => key z.1).Nodup := by
    have : (rows.zip xs).map (fun z => key z.1) = rows.map key := by
      rw [show (fun z : α × V => key z.1) = key ∘ Prod.fst from rfl, ← List.map_map, List.map_fst_zip (by omega)]
    rw [this]
    exact n
  have n2 : (((rows.zip xs).map fun z => (mk (key z.1), z.2)).map fun z => kf z.1).Nodup := by
    rw [List.map_map]
    rw [show ((fun z : V × V => kf z.1) ∘ fun z : α × V => (mk (key z.1), z.2)) = fun z => key z.1 from funext fun z => hm _]
    exact nz
  have hps : ps = srt le (fun z => kf z.1) ((rows.zip xs).map fun z => (mk (key z.1), z.2)) := by
    refine srt_one t n2 p ?_
    refine List.Pairwise.imp_of_mem ?_ s
    intro a b ha hb hab
    obtain ⟨za, _, rfl⟩ := List.mem_map.mp (p.mem_iff.mp ha)
    obtain ⟨zb, _, rfl⟩ := List.mem_map.mp (p.mem_iff.mp hb)
    simp only [hm]
    exact hlt _ _ hab
  rw [hps, srt_map (k := fun z : α × V => key z.1) (l := fun z : V × V => kf z.1) (f := fun z : α × V => (mk (key z.1), z.2)) t (fun z => hm _) nz, List.map_map]
  have e2 : srt le key rows = (srt le (fun z : α × V => key z.1) (rows.zip xs)).map (·.1) := by
    rw [← srt_map (f := fun z : α × V => z.1) (k := fun z : α × V => key z.1) (l := key) t (fun _ => rfl) nz, List.map_fst_zip (by omega)]
  rw [e2]
  refine Ims.ofPairs (D := D) (srt le (fun z : α × V => key z.1) (rows.zip xs)) fun z hz => ?_
  exact h.pairs z (srt_mem.mp hz)
def kI : V → Int
  | .int i => i
  | _ => 0
def kS : V → Str
  | .str x => x
  | _ => ""
def Sta.ord : Sta → Sta
  | .set chs goal => .set (srt leZ (·.1) chs) goal
  | .ask act ts ways => .ask act ts (srt leS (·.1) ways)
  | .fin word ts => .fin word ts
/-- what ordered needs -/
def Sta.keyed : Sta → Prop
  | .set chs _ => (chs.map (·.1)).Nodup ∧ chs.length ≤ 1000
  | .ask _ _ ways => (ways.map (·.1)).Nodup ∧ ways.length ≤ 1000
  | .fin _ _ => True
theorem fineAll_ints {ns : List Int} (h : ∀ n ∈ ns, n.natAbs < 10 ^ 40) : fineAll (ns.map PyData.int) := fineAll_iff.mpr fun x hx => by
  obtain ⟨n, hn, rfl⟩ := List.mem_map.mp hx
  exact h n hn
theorem nat_of {i n : Int} (h0 : 0 ≤ i) (h1 : i < n) (hn : n ≤ 1000000) : i.natAbs < 10 ^ 40 := by
  have : i.natAbs < 1000001 := by omega
  exact Nat.lt_trans this (by decide)
theorem fine_over {many : Int} {t : Tm} (h : TmOver many t) (hm : many ≤ 1000000) : fine t.d := fine_d (fun i hi => nat_of hi.1 hi.2 hm) t h.1
theorem fineAll_over {many : Int} {ts : List Tm} (h : ∀ t ∈ ts, TmOver many t) (hm : many ≤ 1000000) : fineAll (Tm.ds ts) := by
  rw [Tm.ds_map]
  exact fineAll_iff.mpr fun x hx => by
    obtain ⟨t, ht, rfl⟩ := List.mem_map.mp hx
    exact fine_over (h t ht) hm
theorem depthAll_le {n : Nat} : ∀ {ds : List PyData}, (∀ d ∈ ds, d.depth ≤ n) → PyData.depthAll ds ≤ n
  | [], _ => by simp [PyData.depthAll]
  | d :: ds, h => by
    have h1 := h d (by simp)
    have h2 := depthAll_le (ds := ds) fun e he => h e (by simp [he])
    simp only [PyData.depthAll]
    omega
theorem strOk_set : PyData.strOk "set" = true := by decide +kernel
theorem strOk_ask : PyData.strOk "ask" = true := by decide +kernel
theorem strOk_end : PyData.strOk "end" = true := by decide +kernel
theorem depth_over {many : Int} {ts : List Tm} (h : ∀ t ∈ ts, TmOver many t) : PyData.depthAll (Tm.ds ts) ≤ 50 := by
  rw [Tm.ds_map]
  exact depthAll_le fun d hd => by
    obtain ⟨t, ht, rfl⟩ := List.mem_map.mp hd
    rw [depth_d]
    exact (h t ht).2.2
theorem sta_fine {rs : List ActR} {many places : Int} (hW : WOk rs) (hm : many ≤ 1000000) (hp : places ≤ 1000000) : ∀ {st : Sta}, st.ok rs many places → fine st.d ∧ st.d.depth ≤ 55
  | .set chs goal, ⟨⟨_, _, hc⟩, g0, g1⟩ => by
    constructor
    · simp only [Sta.d, fine, fineAll]
      refine ⟨strOk_set, fineAll_iff.mpr fun x hx => ?_, nat_of g0 g1 hp, trivial⟩
      obtain ⟨c, hc', rfl⟩ := List.mem_map.mp hx
      obtain ⟨c0, c1, c2⟩ := hc c hc'
      exact ⟨nat_of c0 c1 hm, fine_over c2 hm, trivial⟩
    · have : PyData.depthAll (chs.map chD) ≤ 51 := depthAll_le fun d hd => by
        obtain ⟨c, hc', rfl⟩ := List.mem_map.mp hd
        obtain ⟨c0, c1, c2⟩ := hc c hc'
        have := c2.2.2
        simp only [chD, PyData.depth, PyData.depthAll, depth_d]
        omega
      simp only [Sta.d, PyData.depth, PyData.depthAll]
      omega
  | .ask act ts ways, ⟨r, hr, hnm, hk⟩ => by
    subst hnm
    have hro := hW.ok r hr
    constructor
    · simp only [Sta.d, fine, fineAll]
      refine ⟨strOk_ask, nm_ok hro.nm, fineAll_over hk.ts hm, fineAll_iff.mpr fun x hx => ?_, trivial⟩
      obtain ⟨c, hc', rfl⟩ := List.mem_map.mp hx
      obtain ⟨i, hi, _, _, hj, g0, g1⟩ := hk.ways c hc'
      exact ⟨on_ok (hro.on _ hi).1, fineAll_ints fun n hn => nat_of (hj n hn).1 (hj n hn).2 hm, nat_of g0 g1 hp, trivial⟩
    · have : PyData.depthAll (ways.map wayD) ≤ 2 := depthAll_le fun d hd => by
        obtain ⟨c, hc', rfl⟩ := List.mem_map.mp hd
        have : PyData.depthAll (c.2.1.map PyData.int) ≤ 0 := depthAll_le fun d hd => by
          obtain ⟨n, _, rfl⟩ := List.mem_map.mp hd
          simp [PyData.depth]
        simp only [wayD, PyData.depth, PyData.depthAll]
        omega
      have h2 := depth_over hk.ts
      simp only [Sta.d, PyData.depth, PyData.depthAll]
      omega
  | .fin word ts, ⟨hn, _, hts⟩ => by
    constructor
    · simp only [Sta.d, fine, fineAll]
      exact ⟨strOk_end, nm_ok hn, fineAll_over hts hm, trivial⟩
    · have h2 := depth_over hts
      simp only [Sta.d, PyData.depth, PyData.depthAll]
      omega
theorem sta_keyed {rs : List ActR} {many places : Int} (hW : WOk rs) : ∀ {st : Sta}, st.ok rs many places → st.keyed
  | .set chs goal, ⟨⟨h1, h2, _⟩, _, _⟩ => ⟨h1, by omega⟩
  | .ask act ts ways, ⟨r, hr, _, hk⟩ => by
    have := hk.pm.length_eq
    rw [List.length_map, List.length_map] at this
    have := (hW.ok r hr).o6
    exact ⟨(hk.pm.nodup_iff).mpr (hW.ond r hr), by omega⟩
  | .fin word ts, _ => trivial
theorem shaped_of {d : PyData} (h : fine d) (k : d.depth ≤ 55) : SeqAt.shaped d = true := by
  show (d.canLay0 && decide (d.depth ≤ 64)) = true
  rw [(fine_lay d h).1, decide_eq_true (by omega)]
  rfl
def sp_stmt (K : PySem.W.Frag) (C : Addr) : Sp := fun vs H Q _ => ∃ (x : Addr) (many places : Int) (v : V) (rs : List ActR) (st : Sta), vs = [.ref x, .int many, .int places, v] ∧ WldAt K H C x rs ∧ WOk rs ∧ Im K H v st.d ∧ st.ok rs many places ∧ many ≤ 1000000 ∧ places ≤ 1000000 ∧
  ∀ H', Mv [] H H' → Q (.bl true) H'
theorem sta_tup : ∀ st : Sta, ∃ y e es, st.d = .tuple (.str y :: e :: es)
  | .set _ _ => ⟨_, _, _, rfl⟩
  | .ask _ _ _ => ⟨_, _, _, rfl⟩
  | .fin _ _ => ⟨_, _, _, rfl⟩
theorem ne_str {x y : Str} (h : x ≠ y) : decide (V.str x = V.str y) = false := decide_eq_false fun e => h (V.str.inj e)
theorem eqv_unit (d : PyData) (ds : List PyData) : PyData.eqv (.tuple (d :: ds)) (.tuple []) = false := by simp [PyData.eqv, PyData.eqvAll]
section
variable {P : Program} {w : World} {K : PySem.W.Frag} {mg : Str → Option Value} {base : Heap}
theorem ok_is_statement (T : TX K mg) {k : Nat} : FnOk P w K mg base CX0 (k + 6) T.d_is_statement.f T.d_is_statement.fd P_is_statement (sp_stmt K T.C_World) := by
  have G_is_set : FnOk P w K mg base CX0 5 T.d_is_set.f T.d_is_set.fd P_is_set (sp_set K) := ok_is_set T
  have G_is_ask : FnOk P w K mg base CX0 5 T.d_is_ask.f T.d_is_ask.fd P_is_ask (sp_ask K T.C_World) := ok_is_ask T
  have G_is_end : FnOk P w K mg base CX0 5 T.d_is_end.f T.d_is_end.fd P_is_end (sp_end K) := ok_is_end T
  refine T.d_is_statement.F.ok sc_is_statement (fun vs H Q E h => ?_) (fun cdv A outer s H vs Q E hr h => ?_)
  · obtain ⟨_, _, _, _, _, _, rfl, _⟩ := h
    rfl
  · obtain ⟨x, many, places, v, rs, st, rfl, hW, hWo, hv, hok, hm, hp, q⟩ := h
    have hu64 := hr.units
    obtain ⟨hf, hd⟩ := sta_fine hWo hm hp hok
    have hsh := shaped_of hf hd
    obtain ⟨y, e1, es, hst⟩ := sta_tup st
    have hv0 := hv
    rw [hst] at hv0
    obtain ⟨a, xs, rfl, ha, hxs⟩ := hv0.tupI
    obtain ⟨x0, xs', rfl, h0, hxs'⟩ := hxs.invD
    cases h0.strI
    refine ⟨_, (pss_cons (ps_if (PW.pt (pw_or (pt_not (pt_val (pe_callB (r := rIsi K) call_isi (by rfl) T.b_isinstance bt_isinstance (pa_cons (pv 3) (pa_cons (pe_ty T.b_tuple bt_tuple) pa_nil))))) (pw_or (pt_cmpR (r := rEqG K) (op_eqG hu64) (pv 3) (pe_tup pa_nil) (nomark _)) (pw_or1 (pt_not (pt_val (pe_callB (r := rIsi K) call_isi (by rfl) T.b_isinstance bt_isinstance (pa_cons (pe_ix (r := rIx K) ix_seq (pv 3) pe_int (fun _ _ => rfl)) (pa_cons (pe_ty T.b_str bt_str) pa_nil))))))))) (pss_one (ps_ret pe_bl)) pss_nil) (pss_cons (ps_if (pt_cmpR (r := rEqG K) (op_eqG hu64) (pe_ix (r := rIx K) ix_seq (pv 3) pe_int (fun _ _ => rfl)) pe_str (nomark _)) (pss_one (ps_ret (pe_call G_is_set (hr.mono (by omega)) rfl T.d_is_set.g T.d_is_set.F.kp T.d_is_set.b .nil pass0 (pa_cons (pv 1) (pa_cons (pv 2) (pa_cons (pv 3) pa_nil)))))) pss_nil) (pss_cons (ps_if (pt_cmpR (r := rEqG K) (op_eqG hu64) (pe_ix (r := rIx K) ix_seq (pv 3) pe_int (fun _ _ => rfl)) pe_str (nomark _)) (pss_one (ps_ret (pe_call G_is_ask (hr.mono (by omega)) rfl T.d_is_ask.g T.d_is_ask.F.kp T.d_is_ask.b .nil pass0 (pa_cons (pv 0) (pa_cons (pv 1) (pa_cons (pv 2) (pa_cons (pv 3) pa_nil))))))) pss_nil) (pss_one (ps_ret (pe_and (pe_cmpR (r := rEqG K) (op_eqG hu64) (pe_ix (r := rIx K) ix_seq (pv 3) pe_int (fun _ _ => rfl)) pe_str (nomark _)) (pe_one (pe_call G_is_end (hr.mono (by omega)) rfl T.d_is_end.g T.d_is_end.F.kp T.d_is_end.b .nil pass0 (pa_cons (pv 1) (pa_cons (pv 3) pa_nil)))))))))), ?_⟩
    refine ⟨.ref a, rfl, ?_⟩
    walk_at "nn"
    refine ⟨_, _, _, _, true, rfl, .ty "tuple", tyx_sqT ha, kit_ty (by decide +kernel), ?_⟩
    refine ⟨_, rfl, ?_⟩
    refine ⟨.ref a, rfl, Nat.zero_le _, fun p1 np1 => ?_⟩
    have m1 : Mv [] H (upd H p1 (.tup [])) := .new np1
    refine Or.inr ⟨_, .tuple [], (hv.mv m1).dp, .tup (.inl (.inl upd_same)) .nil, hsh, rfl, _, rfl, ?_⟩
    rw [hst, eqv_unit]
    generalize upd H p1 (.tup []) = H1 at m1 ⊢
    refine ⟨.ref a, rfl, rd_ixT (m1.sqT ha) (by decide) (v := .str y) rfl ?_⟩
    walk_at "nn"
    refine ⟨_, _, _, _, true, rfl, .ty "str", .base (.str _), kit_ty (by decide +kernel), ?_⟩
    refine ⟨_, rfl, ?_⟩
    refine ⟨.ref a, rfl, rd_ixT (m1.sqT ha) (by decide) (v := .str y) rfl ?_⟩
    refine Or.inl ⟨rfl, _, rfl, ?_⟩
    cases st with
    | set chs goal =>
      have hy : y = "set" := by simp only [Sta.d, PyData.tuple.injEq, List.cons.injEq, PyData.str.injEq] at hst; exact hst.1.symm
      subst hy
      rw [show decide (V.str "set" = V.str "set") = true from decide_eq_true rfl]
      exact ⟨.int many, rfl, .int places, rfl, .ref a, rfl, many, places, .ref a, chs, goal, rfl, hv.mv m1, hok.1, hok.2.1, hok.2.2, fun H2 m2 => q H2 (m1.trans m2)⟩
    | ask act ts ways =>
      have hy : y = "ask" := by simp only [Sta.d, PyData.tuple.injEq, List.cons.injEq, PyData.str.injEq] at hst; exact hst.1.symm
      subst hy
      obtain ⟨r, hrs, rfl, hak⟩ := hok
      rw [ne_str (by decide +kernel)]
      refine ⟨.ref a, rfl, rd_ixT (m1.sqT ha) (by decide) (v := .str "ask") rfl ?_⟩
      refine Or.inl ⟨rfl, _, rfl, ?_⟩
      rw [show decide (V.str "ask" = V.str "ask") = true from decide_eq_true rfl]
      exact ⟨.ref x, rfl, .int many, rfl, .int places, rfl, .ref a, rfl, x, many, places, .ref a, rs, r, ts, ways, rfl, hW.mv m1, hWo, hrs, hv.mv m1, hak, fun H2 m2 => q H2 (m1.trans m2)⟩
    | fin word ts =>
      have hy : y = "end" := by simp only [Sta.d, PyData.tuple.injEq, List.cons.injEq, PyData.str.injEq] at hst; exact hst.1.symm
      subst hy
      rw [ne_str (by decide +kernel)]
      refine ⟨.ref a, rfl, rd_ixT (m1.sqT ha) (by decide) (v := .str "end") rfl ?_⟩
      refine Or.inl ⟨rfl, _, rfl, ?_⟩
      rw [ne_str (by decide +kernel)]
      refine ⟨.ref a, rfl, rd_ixT (m1.sqT ha) (by decide) (v := .str "end") rfl ?_⟩
      refine Or.inl ⟨rfl, _, rfl, ?_⟩
      rw [show decide (V.str "end" = V.str "end") = true from decide_eq_true rfl]
      exact ⟨.int many, rfl, .ref a, rfl, many, .ref a, word, ts, rfl, hv.mv m1, hok.1, hok.2.1, hok.2.2, fun H2 m2 => q H2 (m1.trans m2)⟩
end
end Fm
namespace Fm
open PySem PySem.Spec PyProof.Rows L2 SlX
local macro_rules | `(tactic| walk_at "nn") => `(tactic| dsimp only [tC, tNil, tCons, tCB, tCall, gName, tSeq, tAsg, tPar, tDrop, tRet])
local macro_rules | `(tactic| walk_at "nc") => `(tactic| dsimp only [tC, tNil, tCons, tCB, tCall])
def sp_first_of (K : PySem.W.Frag) : Sp := fun vs H Q _ => ∃ (a : Addr) (x : V) (xs : List V), vs = [.ref a] ∧ SqT K H a (x :: xs) ∧ Q x H
def sp_ordered (K : PySem.W.Frag) : Sp := fun vs H Q _ => ∃ (v : V) (st : Sta), vs = [v] ∧ Im K H v st.d ∧ st.keyed ∧ ∀ v' H', Mv [] H H' → Im K H' v' st.ord.d → Q v' H'
/-- t[:3] of a tuple of four -/
theorem rd_sl3 {K : PySem.W.Frag} {H : Hp} {Q : VK} {a : Addr} {x y z u : V} (ha : SqT K H a [x, y, z, u]) (h : ∀ p H', Mv [] H H' → SqT K H' p [x, y, z] → Q (.ref p) H') : rSlG K (.ref a) none (some 3) H Q := by
  refine rd_slT ha fun p H' m e => h p H' m ?_
  rw [show (some 3 : Option Int) = some ((3 : Nat) : Int) from rfl, cut_hi] at e
  exact e
section
variable {P : Program} {w : World} {K : PySem.W.Frag} {mg : Str → Option Value} {base : Heap}
theorem ok_first_of (T : TX K mg) {k : Nat} : FnOk P w K mg base CX0 (k + 1) T.d_first_of.f T.d_first_of.fd P_first_of (sp_first_of K) := by
  refine T.d_first_of.F.ok sc_first_of (fun vs H Q E h => ?_) (fun cdv A outer s H vs Q E hr h => ?_)
  · obtain ⟨_, _, _, rfl, _⟩ := h
    rfl
  · obtain ⟨a, x, xs, rfl, ha, q⟩ := h
    refine ⟨_, (pss_one (ps_ret (pe_ix (r := rIx K) ix_seq (pv 0) pe_int (fun _ _ => rfl)))), ?_⟩
    exact ⟨.ref a, rfl, rd_ixT ha (by decide) (v := x) rfl q⟩
theorem ok_ordered (T : TX K mg) {k : Nat} : FnOk P w K mg base CX0 (k + 4) T.d_ordered.f T.d_ordered.fd P_ordered (sp_ordered K) := by
  have G_first_of : FnOk P w K mg base CX0 1 T.d_first_of.f T.d_first_of.fd P_first_of (sp_first_of K) := ok_first_of T
  refine T.d_ordered.F.ok sc_ordered (fun vs H Q E h => ?_) (fun cdv A outer s H vs Q E hr h => ?_)
  · obtain ⟨_, _, rfl, _⟩ := h
    rfl
  · obtain ⟨v, st, rfl, hv, hk, q⟩ := h
    have hu64 := hr.units
    refine ⟨_, (pss_cons (ps_if (pt_cmpR (r := rEqG K) (op_eqG hu64) (pe_ix (r := rIx K) ix_seq (pv 0) pe_int (fun _ _ => rfl)) pe_str (nomark _)) (pss_one (ps_ret (pe_tup (pa_cons pe_str (pa_cons (pe_callTy (r := rTupOf K) call_tupG (by rfl) T.b_tuple bt_tuple (pa_cons (pe_callBK (r := rSortK K T.d_first_of.f (sp_first_of K)) (cr_sortKey (fnR_of G_first_of T.d_first_of.b) (hr.mono (by omega))) (by rfl) T.b_sorted bt_sorted (pa_cons (pe_ix (r := rIx K) ix_seq (pv 0) pe_int (fun _ _ => rfl)) pa_nil) (pk_cons (pe_glob rfl T.d_first_of.g (show L2.RelV (.ref T.d_first_of.f) _ from rfl)) pk_nil)) pa_nil)) (pa_cons (pe_ix (r := rIx K) ix_seq (pv 0) pe_int (fun _ _ => rfl)) pa_nil)))))) pss_nil) (pss_cons (ps_if (pt_cmpR (r := rEqG K) (op_eqG hu64) (pe_ix (r := rIx K) ix_seq (pv 0) pe_int (fun _ _ => rfl)) pe_str (nomark _)) (pss_one (ps_ret (pe_op (r := rAddG K) op_addG (pe_slice (r := rSlG K) sl_G (pv 0) po_none (po_some pe_int)) (pe_tup (pa_cons (pe_callTy (r := rTupOf K) call_tupG (by rfl) T.b_tuple bt_tuple (pa_cons (pe_callBK (r := rSortK K T.d_first_of.f (sp_first_of K)) (cr_sortKey (fnR_of G_first_of T.d_first_of.b) (hr.mono (by omega))) (by rfl) T.b_sorted bt_sorted (pa_cons (pe_ix (r := rIx K) ix_seq (pv 0) pe_int (fun _ _ => rfl)) pa_nil) (pk_cons (pe_glob rfl T.d_first_of.g (show L2.RelV (.ref T.d_first_of.f) _ from rfl)) pk_nil)) pa_nil)) pa_nil))))) pss_nil) (pss_one (ps_ret (pv 0))))), ?_⟩
    cases st with
    | set chs goal =>
      obtain ⟨a, x0, x1, x2, rfl, ha, h0, h1, h2⟩ := hv.tup3
      cases h0.strI
      cases h2.intI
      obtain ⟨a1, xs, rfl, ha1, hxs⟩ := h1.tupI
      refine ⟨.ref a, rfl, rd_ixT ha (by decide) (v := .str "set") rfl ?_⟩
      refine Or.inl ⟨rfl, _, rfl, ?_⟩
      rw [show decide (V.str "set" = V.str "set") = true from decide_eq_true rfl]
      refine ⟨.ref a, rfl, rd_ixT ha (by decide) (v := .ref a1) rfl ?_⟩
      have hl := hxs.length
      rw [List.length_map] at hl
      refine ⟨a1, xs, chs.map fun c => V.int c.1, rfl, rfl, .inr ha1, by rw [List.length_map]; omega, .inl ⟨chs.map (·.1), by rw [List.map_map]; rfl⟩, fun i y c hy hc Q' q' => ?_, fun ps p H1 hpm hpw np keep hp => ?_⟩
      · rw [List.getElem?_map] at hc
        obtain ⟨c, hc', rfl⟩ := Option.map_eq_some_iff.mp hc
        obtain ⟨d, hd, him⟩ := hxs.get hy
        rw [List.getElem?_map, hc'] at hd
        cases hd
        obtain ⟨ac, y0, y1, rfl, hac, k0, k1⟩ := him.tup2
        rw [k0.intI] at hac
        exact ⟨ac, _, _, rfl, hac, q'⟩
      · have m1 : Mv [] H H1 := .of_same keep
        have hI := sorted_rows (D := chD) (key := fun c : Int × Tm => c.1) (mk := V.int) (kf := kI) totZ (fun _ => rfl) (fun i j h => by
          have : decide (j < i) = false := h
          exact decide_eq_true (by have := of_decide_eq_false this; omega)) hxs hk.1 hpm hpw
        walk_at "nc"
        refine rd_tupOf (.inl (.inl hp)) fun p2 H2 m2 e2 => ?_
        have m02 := m1.trans m2
        refine ⟨.ref a, rfl, rd_ixT (m02.sqT ha) (by decide) (v := .int goal) rfl ?_⟩
        refine ⟨(by decide : 3 ≤ sizeLine), fun p3 np3 => ?_⟩
        refine q (.ref p3) _ (m02.trans (.new np3)) ?_
        have m23 : Mv [] H2 (upd H2 p3 (.tup [.str "set", .ref p2, .int goal])) := .new np3
        exact .tup (.inl (.inl upd_same)) (.cons (.str _) (.cons (.tup (m23.sqT e2) (hI.mv (m02.trans m23))) (.cons (.int _) .nil)))
    | ask act ts ways =>
      obtain ⟨a, x0, x1, x2, x3, rfl, ha, h0, h1, h2, h3⟩ := hv.tup4
      cases h0.strI
      obtain ⟨a3, xs, rfl, ha3, hxs⟩ := h3.tupI
      refine ⟨.ref a, rfl, rd_ixT ha (by decide) (v := .str "ask") rfl ?_⟩
      refine Or.inl ⟨rfl, _, rfl, ?_⟩
      rw [ne_str (by decide +kernel)]
      refine ⟨.ref a, rfl, rd_ixT ha (by decide) (v := .str "ask") rfl ?_⟩
      refine Or.inl ⟨rfl, _, rfl, ?_⟩
      rw [show decide (V.str "ask" = V.str "ask") = true from decide_eq_true rfl]
      refine ⟨.ref a, rfl, 3, rfl, rd_sl3 ha fun p0 H0 m0 e0 => ?_⟩
      refine ⟨.ref a, rfl, rd_ixT (m0.sqT ha) (by decide) (v := .ref a3) rfl ?_⟩
      have hl := hxs.length
      rw [List.length_map] at hl
      refine ⟨a3, xs, ways.map fun c => V.str c.1, rfl, rfl, .inr (m0.sqT ha3), by rw [List.length_map]; omega, .inr ⟨ways.map (·.1), by rw [List.map_map]; rfl⟩, fun i y c hy hc Q' q' => ?_, fun ps p H1 hpm hpw np keep hp => ?_⟩
      · rw [List.getElem?_map] at hc
        obtain ⟨c, hc', rfl⟩ := Option.map_eq_some_iff.mp hc
        obtain ⟨d, hd, him⟩ := hxs.get hy
        rw [List.getElem?_map, hc'] at hd
        cases hd
        obtain ⟨ac, y0, y1, y2, rfl, hac, k0, k1, k2⟩ := (him.mv m0).tup3
        rw [k0.strI] at hac
        exact ⟨ac, _, _, rfl, hac, q'⟩
      · have m1 : Mv [] H0 H1 := .of_same keep
        have hI := sorted_rows (D := wayD) (key := fun c : Str × List Int × Int => c.1) (mk := V.str) (kf := kS) totS (fun _ => rfl) (fun i j h => by
          have : decide (j.cps.toList < i.cps.toList) = false := h
          unfold leS
          rw [this]
          rfl) hxs hk.1 hpm hpw
        walk_at "nc"
        refine rd_tupOf (.inl (.inl hp)) fun p2 H2 m2 e2 => ?_
        have m02 := (m0.trans m1).trans m2
        refine ⟨(by decide : 1 ≤ sizeLine), fun p3 np3 => ?_⟩
        have m23 : Mv [] H2 (upd H2 p3 (.tup [.ref p2])) := .new np3
        have e3 : SqT K (upd H2 p3 (.tup [.ref p2])) p3 [.ref p2] := .inl (.inl upd_same)
        generalize upd H2 p3 (.tup [.ref p2]) = H3 at m23 e3 ⊢
        refine rd_cat (m23.sqT (m2.sqT (m1.sqT e0))) e3 (by decide : 4 ≤ sizeLine) fun p4 H4 m4 e4 => ?_
        have m04 := m02.trans (m23.trans m4)
        exact q (.ref p4) _ m04 (.tup e4 (.cons (.str _) (.cons (h1.mv m04) (.cons (h2.mv m04) (.cons (.tup ((m23.trans m4).sqT e2) (hI.mv m04)) .nil)))))
    | fin word ts =>
      obtain ⟨a, x0, x1, x2, rfl, ha, h0, h1, h2⟩ := hv.tup3
      cases h0.strI
      refine ⟨.ref a, rfl, rd_ixT ha (by decide) (v := .str "end") rfl ?_⟩
      refine Or.inl ⟨rfl, _, rfl, ?_⟩
      rw [ne_str (by decide +kernel)]
      refine ⟨.ref a, rfl, rd_ixT ha (by decide) (v := .str "end") rfl ?_⟩
      refine Or.inl ⟨rfl, _, rfl, ?_⟩
      rw [ne_str (by decide +kernel)]
      exact ⟨.ref a, rfl, q (.ref a) H .refl hv⟩
end
end Fm
/-! == of tuples and dicts, their parts compared in this very program and world -/
namespace Fm
open PySem PySem.Spec PyProof.Rows L2
open AutoSeq1 (wpAny_loadPart')
open PySem.MeetsSeq PySem.MeetsSeq2 PySem.MeetsSeq3 PySem.SeqRoads2
def EqW (prog : Program) (w : PySem.World) (A : Around) (s : Shared) (y x : Value) (b : Bool) : Prop := ∀ (E : Value → Shared → Prop) (Q : Bool → Shared → Prop), Q b s → wpAny (model prog w) A (eqBool y x) Q E s
section
variable {prog : Program} {w : PySem.World} {A : Around} {s : Shared} {E : Value → Shared → Prop}
theorem EqW.of_at {y x : Value} {b : Bool} (h : SeqAt.EqAt A s y x b) : EqW prog w A s y x b := fun E Q q => h prog w E Q q
theorem EqW.of_refs {p q : Addr} {b : Bool} (hne : p ≠ q) (h : ∀ (E : Value → Shared → Prop) (Q : Value → Shared → Prop), Q (.bool b) s → wpAny (model prog w) A (richCompare .Eq (.ref p) (.ref q)) Q E s) : EqW prog w A s (.ref p) (.ref q) b :=
  fun E Q hq => GQ.eqBool_refG hne (h E _ ⟨b, rfl, hq⟩)
/-- how two tuples compare, place by place -/
theorem tupW {p q : Addr} {xs ys : Array Value} {e : Nat → Bool} {Q : Value → Shared → Prop} (hp : s.heap.IsTuple p xs) (hq : s.heap.IsTuple q ys) (hu : A.units < cLine)
    (he : ∀ j (h1 : j < xs.size) (h2 : j < ys.size), EqW prog w A.in1 s xs[j] ys[j] (e j)) (h : Q (.bool ((List.range (min xs.size ys.size)).all e && xs.size == ys.size)) s) : wpAny (model prog w) A (richCompare .Eq (.ref p) (.ref q)) Q E s := by
  obtain ⟨⟨c1, d1, t1, l1⟩, o1, k1, n1, r1⟩ := id hp
  obtain ⟨⟨c2, d2, t2, l2⟩, o2, k2, n2, r2⟩ := id hq
  dsimp only at k1 r1 k2 r2
  subst k1 r1 k2 r2
  refine wpAny_richCompare_same_room (op := .Eq) ⟨_, o1, rfl⟩ ⟨_, o2, rfl⟩ PySem.F.slot_tuple_eq (GQ.call_here PySem.F.slot_tuple_eq ⟨_, o1, rfl⟩ PySem.F.entry_tuple_eq (PySem.F.args_tuple_eq_2 _ _) ?_) hu
  have sub := AutoSeq1.sub_tuple_tuple
  have len : (xs.toList.zip ys.toList).length = min xs.size ys.size := by simp
  obtain ⟨hh, gg, dd, tt, oo⟩ := s
  wp_walk using wpAny_loadPart' o1, wpAny_loadPart' o2, wpAny_forIn_list _ (fun rest acc s' => acc.1 = none ∧ s' = ⟨hh, gg, dd, tt, oo⟩ ∧ ∃ i, rest = (xs.toList.zip ys.toList).drop i ∧
    Q (.bool (((List.range (min xs.size ys.size)).drop i).all e && xs.size == ys.size)) ⟨hh, gg, dd, tt, oo⟩) _
  case turn =>
    rintro ⟨y, x⟩ rest acc s' ⟨ha, rfl, i, hz, hQ⟩
    have lt : i < (xs.toList.zip ys.toList).length := Nat.lt_of_not_le fun ge => by
      rw [List.drop_of_length_le ge] at hz
      cases hz
    have lm : i < min xs.size ys.size := len ▸ lt
    have lx : i < xs.size := by omega
    have ly : i < ys.size := by omega
    rw [List.drop_eq_getElem_cons lt] at hz
    injection hz with hyx hrest
    obtain rfl : y = xs[i] := by simpa using congrArg Prod.fst hyx
    obtain rfl : x = ys[i] := by simpa using congrArg Prod.snd hyx
    have dr : (List.range (min xs.size ys.size)).drop i = i :: (List.range (min xs.size ys.size)).drop (i + 1) := by simp [List.drop_eq_getElem_cons, lm]
    rw [dr, List.all_cons] at hQ
    refine wpAny_bind (he i lx ly _ _ ?_)
    cases ei : e i with
    | true =>
      rw [ei] at hQ
      wp_walk
      exact ⟨rfl, rfl, i + 1, hrest, by simpa using hQ⟩
    | false =>
      rw [ei] at hQ
      wp_walk
      exact ⟨(fun z => nomatch z), by simpa using hQ⟩
  case fin =>
    rintro ⟨a1, a2⟩ s' ⟨ha, rfl, i, hz, hQ⟩
    dsimp only at ha
    subst ha
    have ge : min xs.size ys.size ≤ i := Nat.le_of_not_lt fun lt => by
      rw [List.drop_eq_getElem_cons (len ▸ lt)] at hz
      cases hz
    rw [List.drop_of_length_le (by simpa using ge)] at hQ
    wp_walk
    exact ⟨(fun z => nomatch z), by simpa [Builtin.Tuple.tupleCompareSizes] using hQ⟩
  case h => exact ⟨rfl, rfl, 0, rfl, by simpa using h⟩
end
/-- the pairs of one dict looked up in another one -/
inductive HitsW (prog : Program) (w : PySem.World) (A : Around) (s : Shared) (kb : List (L2.Key × Value)) : List (L2.Key × Value) → Bool → Prop
  | done : HitsW prog w A s kb [] true
  | lacks {k : L2.Key} {v : Value} {r : List (L2.Key × Value)} : valueAt kb k = none → HitsW prog w A s kb ((k, v) :: r) false
  | meets {k : L2.Key} {v y : Value} {r : List (L2.Key × Value)} {e b : Bool} : valueAt kb k = some y → EqW prog w A s v y e → HitsW prog w A s kb r b → HitsW prog w A s kb ((k, v) :: r) (e && b)
section
variable {prog : Program} {w : PySem.World} {A : Around} {s : Shared} {E : Value → Shared → Prop}
theorem HitsW.inv {kb r : List (L2.Key × Value)} {k : L2.Key} {v : Value} {b : Bool} (h : HitsW prog w A s kb ((k, v) :: r) b) : (valueAt kb k = none ∧ b = false) ∨ ∃ y e b', valueAt kb k = some y ∧ EqW prog w A s v y e ∧ HitsW prog w A s kb r b' ∧ b = (e && b') := by
  cases h with
  | lacks h => exact .inl ⟨h, rfl⟩
  | meets h1 h2 h3 => exact .inr ⟨_, _, _, h1, h2, h3, rfl⟩
theorem pairsW {nm : String} {p q : Addr} {ka kb : List (L2.Key × Value)} {r : Bool} {Q : Bool → Shared → Prop} (hp : (p == sysModules) = false) (hq : (q == sysModules) = false)
    (dp : s.heap.DictOf (mixKind prog w) p ka) (dq : s.heap.DictOf (mixKind prog w) q kb) (hits : ka.length = kb.length → HitsW prog w A s kb ka r) (h : Q (ka.length == kb.length && r) s) :
    wpAny (model prog w) A (Builtin.Dict.samePairs nm p q) Q E s := by
  obtain ⟨op, ep, np, gp, _, tp, kp, pp, _⟩ := dp
  obtain ⟨oq, eq, nq, gq, _, tq, kq, pq, _⟩ := dq
  have lp : ka.length = ep.size := by rw [← pp.length]; exact Array.length_toList
  have lq : kb.length = eq.size := by rw [← pq.length]; exact Array.length_toList
  have fnd : ∀ k, findBy (mixKind prog w).is eq k = valueAt kb k := fun k => by
    rw [← pq.find k]
    clear lq pq kq tq gq
    obtain ⟨es⟩ := eq
    simp [findBy]
  rw [lp, lq] at h
  unfold Builtin.Dict.samePairs Builtin.Dict.showsAll
  rw [if_neg (by rw [hp]; exact Bool.false_ne_true), if_neg (by rw [hq]; exact Bool.false_ne_true)]
  refine wpAny_bind (wpAny_pure (wpAny_bind (wpAny_pure (wpAny_bind (wpAny_dictEntries gp tp ?_)))))
  dsimp only
  refine wpAny_bind (wpAny_dictEntries gq tq ?_)
  by_cases sz : ep.size = eq.size
  · have hQ : Q r s := by simpa [sz] using h
    have hits' := hits (by omega)
    rw [if_neg (by rw [sz]; simp)]
    refine wpAny_bind (wpAny_dictEpoch gp tp (wpAny_bind ?_))
    rw [Std.Legacy.Range.forIn_eq_forIn_range']
    simp only [Std.Legacy.Range.size, Nat.sub_zero, Nat.add_sub_cancel, Nat.div_one]
    refine wpAny_forIn_list _ (fun rest acc s' => s' = s ∧ acc = (none, ()) ∧ ∃ i, rest = List.range' i (ep.size - i) ∧ i ≤ ep.size ∧ HitsW prog w A s kb (ka.drop i) r) _ ?_ ?_ _ _ ⟨rfl, rfl, 0, by simp, Nat.zero_le _, hits'⟩
    · rintro x rest acc s' ⟨rfl, rfl, i, hr, hi, hd⟩
      have lt : i < ep.size := Nat.lt_of_not_le fun ge => by
        rw [Nat.sub_eq_zero_of_le ge] at hr
        simp at hr
      have e1 : ep.size - i = (ep.size - (i + 1)) + 1 := by omega
      rw [e1, List.range'_succ] at hr
      injection hr with hx hrest
      subst hx
      refine wpAny_bind (wpAny_dictEntries gp tp ?_)
      rw [Array.getElem?_eq_getElem lt]
      have lt' : x < ka.length := by omega
      obtain ⟨k, v, hkv⟩ : ∃ k v, ka[x] = (k, v) := ⟨_, _, rfl⟩
      have hdrop : ka.drop x = (k, v) :: ka.drop (x + 1) := by rw [← hkv]; exact List.drop_eq_getElem_cons lt'
      obtain ⟨hk, hv⟩ := pp.get? (i := x) (e := ep[x]) (k := k) (v := v) (by rw [Array.getElem?_toList]; exact Array.getElem?_eq_getElem lt) (by rw [List.getElem?_eq_getElem lt', hkv])
      obtain ⟨k', hk', hh⟩ := kp ep[x] (Array.getElem_mem lt)
      have ekk : k' = k := (mixKind prog w).inj _ _ _ hk' hk
      rw [ekk] at hh
      rw [hdrop] at hd
      show wpAny _ _ (holding [ep[x].key, ep[x].val] _ >>= _) _ _ _
      rw [hh]
      refine wpAny_bind (wpAny_holding (wpAny_bind (wpAny_dictFind_of hk gq tq kq ?_)))
      cases hj : eq.findIdx? fun e => (mixKind prog w).is k e.key with
      | none =>
        have hn : valueAt kb k = none := by rw [← fnd k, findBy_of_findIdx?, hj]
        rcases hd.inv with ⟨_, er⟩ | ⟨y, _, _, hy, _⟩
        · rw [er] at hQ
          refine wpAny_pure ?_
          show wpAny _ _ (if (!false) = true then _ else _) _ _ _
          rw [if_pos (by decide)]
          exact wpAny_pure (wpAny_pure hQ)
        · rw [hn] at hy
          cases hy
      | some j =>
        obtain ⟨jl, _, _⟩ := Array.findIdx?_eq_some_iff_getElem.mp hj
        have hy' : valueAt kb k = some eq[j].val := by
          rw [← fnd k, findBy_of_findIdx?, hj]
          simp [Array.getElem?_eq_getElem jl]
        refine wpAny_bind (wpAny_dictEntries gq tq ?_)
        rw [Array.getElem?_eq_getElem jl]
        rcases hd.inv with ⟨hn, _⟩ | ⟨y, e, b', hy, he, hrr, er⟩
        · rw [hy'] at hn
          cases hn
        · have ey : eq[j].val = y := Option.some.inj (hy'.symm.trans hy)
          rw [← ey, ← hv] at he
          refine wpAny_holding (he _ _ ?_)
          cases e with
          | false =>
            rw [er, Bool.false_and] at hQ
            show wpAny _ _ (if (!false) = true then _ else _) _ _ _
            rw [if_pos (by decide)]
            exact wpAny_pure (wpAny_pure hQ)
          | true =>
            rw [Bool.true_and] at er
            rw [← er] at hrr
            show wpAny _ _ (if (!true) = true then _ else _) _ _ _
            rw [if_neg (by decide)]
            refine wpAny_bind (wpAny_dictEpoch gp tp ?_)
            rw [if_neg (by simp)]
            exact wpAny_pure ⟨rfl, rfl, x + 1, hrest, lt, hrr⟩
    · rintro acc s' ⟨rfl, rfl, i, hr, hi, hd⟩
      have ei : i = ep.size := Nat.le_antisymm hi (Nat.le_of_not_lt fun lt => by
        have e1 : ep.size - i = (ep.size - (i + 1)) + 1 := by omega
        rw [e1, List.range'_succ] at hr
        cases hr)
      refine wpAny_pure ?_
      rw [ei, ← lp, List.drop_length] at hd
      cases hd
      exact hQ
  · rw [if_pos (by simpa using sz)]
    have bf : (ep.size == eq.size) = false := by simpa using sz
    rw [bf, Bool.false_and] at h
    exact wpAny_bind (wpAny_rule (wpAny_pure h))
/-- how two dicts compare -/
theorem dictW {p q : Addr} {ka kb : List (L2.Key × Value)} {r : Bool} {Q : Value → Shared → Prop} (hp : (p == sysModules) = false) (hq : (q == sysModules) = false) (dp : s.heap.DictOf (mixKind prog w) p ka) (dq : s.heap.DictOf (mixKind prog w) q kb)
    (hu : A.units < cLine) (hits : ka.length = kb.length → HitsW prog w A.in1 s kb ka r) (h : Q (.bool (ka.length == kb.length && r)) s) : wpAny (model prog w) A (richCompare .Eq (.ref p) (.ref q)) Q E s := by
  refine wpAny_richCompare_same_room (op := .Eq) dp.typeIs dq.typeIs PySem.F.slot_dict_eq (wpAny_call_entry PySem.F.slot_dict_eq dp.typeIs PySem.F.entry_dict_eq ?_ (PySem.F.args_dict_eq_2 _ _)) hu
  show wpAny _ _ (Builtin.Dict.dictSlotArgs "__eq__" ⟨[.ref p, .ref q], []⟩ >>= _) _ _ s
  refine wpAny_bind ?_
  unfold Builtin.Dict.dictSlotArgs
  refine wpAny_bind (wpAny_notOrdered_dict dp.typeIs ?_)
  show wpAny _ _ (pure (Value.ref p, Value.ref q)) _ _ s
  refine wpAny_pure (wpAny_bind (wpAny_isInstance (T := "dict") dq.typeIs PySem.F.sub_dict_dict ?_))
  simp only [Bool.not_true, Bool.false_eq_true, if_false]
  refine wpAny_bind (wpAny_pure (wpAny_bind (wpAny_pure (wpAny_bind (pairsW hp hq dp dq hits (wpAny_pure ⟨_, rfl, (fun z => nomatch z), ?_⟩))))))
  simpa using h
end
end Fm
/-! == of acts -/
namespace Fm
open PySem PySem.Spec PyProof.Rows L2
def lk (b : List (Str × Int)) (x : Str) : Option Int := (b.find? fun e => decide (e.1 = x)).map (·.2)
def hitO (b : List (Str × Int)) (e : Str × Int) : Bool := match lk b e.1 with
  | some j => e.2 == j
  | none => false
def outsEq (a b : List (Str × Int)) : Bool := a.length == b.length && a.all (hitO b)
def actEq (r q : ActR) : Bool := r.ar == q.ar && outsEq r.outs q.outs
def hitA (qs : List ActR) (r : ActR) : Bool := match qs.find? fun q => decide (q.nm = r.nm) with
  | some q => actEq r q
  | none => false
def rsEq (rs qs : List ActR) : Bool := rs.length == qs.length && rs.all (hitA qs)
theorem val_row (b : List (Str × Int)) (x : Str) : valV (b.map rowK) (.inr x) = (lk b x).map V.int := by
  unfold valV lk
  rw [List.find?_map, Option.map_map, Option.map_map]
  have : ((fun kv : L2.Key × V => decide (kv.1 = Sum.inr x)) ∘ rowK) = fun e : Str × Int => decide (e.1 = x) := by
    funext e
    show decide ((Sum.inr e.1 : L2.Key) = Sum.inr x) = _
    by_cases h : e.1 = x
    · rw [decide_eq_true h, decide_eq_true (by rw [h])]
    · rw [decide_eq_false h, decide_eq_false fun z => h (Sum.inr.inj z)]
  rw [this]
  rfl
theorem val_act (zs : List ActA) (x : Str) : valV (zs.map ActA.kv) (.inr x) = (zs.find? fun z => decide (z.r.nm = x)).map fun z => V.ref z.a := by
  unfold valV
  rw [List.find?_map, Option.map_map]
  have : ((fun kv : L2.Key × V => decide (kv.1 = Sum.inr x)) ∘ ActA.kv) = fun z : ActA => decide (z.r.nm = x) := by
    funext z
    show decide ((Sum.inr z.r.nm : L2.Key) = Sum.inr x) = _
    by_cases h : z.r.nm = x
    · rw [decide_eq_true h, decide_eq_true (by rw [h])]
    · rw [decide_eq_false h, decide_eq_false fun z => h (Sum.inr.inj z)]
  rw [this]
  rfl
theorem find_act (zs : List ActA) (x : Str) : ((zs.map (·.r)).find? fun q => decide (q.nm = x)) = (zs.find? fun z => decide (z.r.nm = x)).map (·.r) := by
  rw [List.find?_map]
  rfl
theorem lk_mem {b : List (Str × Int)} (n : (b.map (·.1)).Nodup) {e : Str × Int} (h : e ∈ b) : lk b e.1 = some e.2 := by
  have h1 := val_row b e.1
  rw [row_val n (x := e.1) (i := e.2) h] at h1
  cases h2 : lk b e.1 with
  | none => rw [h2] at h1; cases h1
  | some j =>
    rw [h2] at h1
    have : V.int e.2 = V.int j := Option.some.inj h1
    rw [V.int.inj this]
theorem outsEq_refl {a : List (Str × Int)} (n : (a.map (·.1)).Nodup) : outsEq a a = true := by
  unfold outsEq
  rw [beq_self_eq_true, Bool.true_and, List.all_eq_true]
  intro e he
  unfold hitO
  rw [lk_mem n he]
  exact beq_self_eq_true _
section
variable {X : Cx} {pins : List (Addr × Obj)} {σ : L2.St} {H : Hp} {s : Shared}
theorem hits_outs {A : Around} {b : List (Str × Int)} {vb : List (L2.Key × Value)} (rb : KV (b.map rowK) vb) : ∀ {a : List (Str × Int)} {va : List (L2.Key × Value)}, KV (a.map rowK) va → HitsW X.prog X.w A s vb va (a.all (hitO b))
  | [], _, .nil => .done
  | e :: a, _, .cons (b := kv) ⟨hk, hv⟩ t => by
    obtain ⟨k, v⟩ := kv
    cases hk
    have ih := hits_outs (A := A) rb t
    have hr := rb.val (Sum.inr e.1)
    rw [val_row] at hr
    rw [List.all_cons]
    obtain ⟨t1, rfl⟩ := (show ∃ t, v = Value.int e.2 t from hv)
    unfold hitO
    cases hl : lk b e.1 with
    | none =>
      rw [hl] at hr
      have hn : valueAt vb (Sum.inr e.1) = none := by
        cases hx : valueAt vb (Sum.inr e.1) with
        | none => rfl
        | some u => rw [hx] at hr; exact hr.elim
      rw [Bool.false_and]
      exact .lacks hn
    | some j =>
      rw [hl] at hr
      obtain ⟨u, hu, ru⟩ := RelO.some_of (v := V.int j) (o := valueAt vb (Sum.inr e.1)) hr
      obtain ⟨t2, rfl⟩ := (show ∃ t, u = Value.int j t from ru)
      exact .meets hu (.of_at (SeqAt.EqAt.int_int _ _ _ _)) ih
theorem rowK_inj {a b : List (Str × Int)} (h : a.map rowK = b.map rowK) : a = b := by
  refine (List.map_inj_right ?_).mp h
  intro e f he
  obtain ⟨x, i⟩ := e
  obtain ⟨y, j⟩ := f
  cases he
  rfl
theorem eqW_outs {A : Around} {p q : Addr} {a b : List (Str × Int)} (I : Inv X pins σ H s) (hp : H p = some (.dK (a.map rowK))) (hq : H q = some (.dK (b.map rowK))) (n : (a.map (·.1)).Nodup) (hu : A.units < cLine) : EqW X.prog X.w A s (.ref p) (.ref q) (outsEq a b) := by
  by_cases e : p = q
  · subst e
    rw [hp] at hq
    have hk : a.map rowK = b.map rowK := by
      have := Option.some.inj hq
      injection this
    cases rowK_inj hk
    rw [outsEq_refl n]
    exact .of_at (SeqAt.EqAt.same _)
  · obtain ⟨_, ya, va, ra, da⟩ := (show ObjOk X.prog X.w H s.heap p (.dK (a.map rowK)) from I.hok p _ hp)
    obtain ⟨_, yb, vb, rb, db⟩ := (show ObjOk X.prog X.w H s.heap q (.dK (b.map rowK)) from I.hok q _ hq)
    have la : va.length = a.length := by rw [← ra.length, List.length_map]
    have lb : vb.length = b.length := by rw [← rb.length, List.length_map]
    refine .of_refs e fun E Q hQ => dictW ya yb da db hu (fun _ => hits_outs rb ra) ?_
    rw [la, lb]
    exact hQ
theorem eqW_act {A : Around} {z y : ActA} (I : Inv X pins σ H s) (hz : SqT X.K H z.a [.int z.r.ar, .ref z.o]) (hy : SqT X.K H y.a [.int y.r.ar, .ref y.o]) (oz : H z.o = some (.dK (z.r.outs.map rowK))) (oy : H y.o = some (.dK (y.r.outs.map rowK)))
    (n : (z.r.outs.map (·.1)).Nodup) (hu : A.units + 1 < cLine) : EqW X.prog X.w A s (.ref z.a) (.ref y.a) (actEq z.r y.r) := by
  by_cases e : z.a = y.a
  · rw [e] at hz
    have he := I.tuple_inj hz hy
    have ho : z.o = y.o := by injection he with _ he; injection he with he _; injection he
    have har : z.r.ar = y.r.ar := by injection he with he _; injection he
    rw [ho, oy] at oz
    have hk : y.r.outs.map rowK = z.r.outs.map rowK := by
      have := Option.some.inj oz
      injection this
    have := rowK_inj hk
    unfold actEq
    rw [har, this, outsEq_refl n, beq_self_eq_true, e]
    exact .of_at (SeqAt.EqAt.same _)
  · obtain ⟨is, ri, ti, _⟩ := I.tuple hz
    obtain ⟨js, rj, tj, _⟩ := I.tuple hy
    obtain ⟨u1, u2, rfl, r1, r2⟩ := vals2 ri
    obtain ⟨v1, v2, rfl, q1, q2⟩ := vals2 rj
    obtain ⟨t1, rfl⟩ := (show ∃ t, u1 = Value.int z.r.ar t from r1)
    obtain ⟨t2, rfl⟩ := (show ∃ t, v1 = Value.int y.r.ar t from q1)
    cases (show u2 = Value.ref z.o from r2)
    cases (show v2 = Value.ref y.o from q2)
    have hin : A.in1.units < cLine := by show A.units + 1 < cLine; exact hu
    refine .of_refs e fun E Q hQ => tupW (e := fun j => if j = 0 then z.r.ar == y.r.ar else outsEq z.r.outs y.r.outs) ti tj (Nat.lt_of_succ_lt hu) (fun j h1 h2 => ?_) ?_
    · match j, h1, h2 with
      | 0, _, _ => exact .of_at (SeqAt.EqAt.int_int _ _ _ _)
      | 1, _, _ => exact eqW_outs I oz oy n hin
    · show Q (.bool (([0, 1] : List Nat).all _ && (2 : Nat) == 2)) s
      have : (([0, 1] : List Nat).all (fun j => if j = 0 then z.r.ar == y.r.ar else outsEq z.r.outs y.r.outs) && (2 : Nat) == 2) = actEq z.r y.r := by
        simp [actEq]
      rw [this]
      exact hQ
theorem hits_acts {A : Around} (I : Inv X pins σ H s) {ys : List ActA} {vb : List (L2.Key × Value)} (rb : KV (ys.map ActA.kv) vb) (hy : ∀ y ∈ ys, SqT X.K H y.a [.int y.r.ar, .ref y.o]) (oy : ∀ y ∈ ys, H y.o = some (.dK (y.r.outs.map rowK))) (hu : A.units + 1 < cLine) :
    ∀ {zs : List ActA} {va : List (L2.Key × Value)}, KV (zs.map ActA.kv) va → (∀ z ∈ zs, SqT X.K H z.a [.int z.r.ar, .ref z.o]) → (∀ z ∈ zs, H z.o = some (.dK (z.r.outs.map rowK))) → (∀ z ∈ zs, (z.r.outs.map (·.1)).Nodup) → HitsW X.prog X.w A s vb va ((zs.map (·.r)).all (hitA (ys.map (·.r))))
  | [], _, .nil, _, _, _ => .done
  | z :: zs, _, .cons (b := kv) ⟨hk, hv⟩ t, h1, h2, h3 => by
    obtain ⟨k, v⟩ := kv
    cases hk
    have ih := hits_acts (A := A) I rb hy oy hu t (fun z hz => h1 z (by simp [hz])) (fun z hz => h2 z (by simp [hz])) (fun z hz => h3 z (by simp [hz]))
    have hr := rb.val (Sum.inr z.r.nm)
    rw [val_act] at hr
    rw [List.map_cons, List.all_cons]
    cases (show v = Value.ref z.a from hv)
    have eh : hitA (ys.map (·.r)) z.r = match (ys.find? fun y => decide (y.r.nm = z.r.nm)) with | some y => actEq z.r y.r | none => false := by
      unfold hitA
      rw [find_act]
      cases ys.find? fun y => decide (y.r.nm = z.r.nm) <;> rfl
    rw [eh]
    cases hl : ys.find? fun y => decide (y.r.nm = z.r.nm) with
    | none =>
      rw [hl] at hr
      have hn : valueAt vb (Sum.inr z.r.nm) = none := by
        cases hx : valueAt vb (Sum.inr z.r.nm) with
        | none => rfl
        | some u => rw [hx] at hr; exact hr.elim
      rw [Bool.false_and]
      exact .lacks hn
    | some y =>
      rw [hl] at hr
      have hym := List.mem_of_find?_eq_some hl
      obtain ⟨u, hu', ru⟩ := RelO.some_of (v := V.ref y.a) (o := valueAt vb (Sum.inr z.r.nm)) hr
      cases (show u = Value.ref y.a from ru)
      exact .meets hu' (eqW_act I (h1 z (by simp)) (hy y hym) (h2 z (by simp)) (oy y hym) (h3 z (by simp)) hu) ih
def rEqA (K : PySem.W.Frag) : R2 := fun x y H Q => ∃ d e zs ys, x = .ref d ∧ y = .ref e ∧ ActsAt K H d zs ∧ ActsAt K H e ys ∧ Q (.bl (rsEq (zs.map (·.r)) (ys.map (·.r)))) H
theorem op_eqA (hu : X.A.units + 64 < cLine) : OpR X (compareOp .Eq) (rEqA X.K) := by
  intro pins s σ H x y v u Q I rx ry h
  obtain ⟨d, e, zs, ys, rfl, rfl, hz, hy, q⟩ := h
  cases (show v = Value.ref d from rx)
  cases (show u = Value.ref e from ry)
  obtain ⟨_, ya, va, ra, da⟩ := (show ObjOk X.prog X.w H s.heap d (.dK (zs.map ActA.kv)) from I.hok d _ hz.at_)
  obtain ⟨_, yb, vb, rb, db⟩ := (show ObjOk X.prog X.w H s.heap e (.dK (ys.map ActA.kv)) from I.hok e _ hy.at_)
  have la : va.length = zs.length := by rw [← ra.length, List.length_map]
  have lb : vb.length = ys.length := by rw [← rb.length, List.length_map]
  have hin : X.A.in1.units + 1 < cLine := by show X.A.units + 1 + 1 < cLine; omega
  refine dictW ya yb da db (by omega) (fun _ => hits_acts I rb hy.tup hy.out hin ra hz.tup hz.out hz.ond) (fin_bl I q ?_)
  rw [la, lb]
  unfold rsEq
  rw [List.length_map, List.length_map]
end
end Fm
namespace Fm
open PySem PySem.Spec PyProof.Rows L2 SlX
/-- more names than keys: one is new -/
theorem pigeonD {α : Type} [DecidableEq α] : ∀ {xs ys : List α}, xs.Nodup → ys.length < xs.length → ∃ x ∈ xs, x ∉ ys
  | [], ys, _, h => absurd h (Nat.not_lt_zero _)
  | x :: xs, ys, n, h => by
    rw [List.nodup_cons] at n
    by_cases hx : x ∈ ys
    · obtain ⟨l1, l2, rfl⟩ := List.append_of_mem hx
      have h2 : (l1 ++ l2).length < xs.length := by
        rw [List.length_append] at h ⊢
        simp only [List.length_cons] at h
        omega
      obtain ⟨y, hy, ny⟩ := pigeonD n.2 h2
      refine ⟨y, List.mem_cons_of_mem _ hy, fun hm => ?_⟩
      rcases List.mem_append.mp hm with hm | hm
      · exact ny (List.mem_append.mpr (.inl hm))
      · rcases List.mem_cons.mp hm with rfl | hm
        · exact n.1 hy
        · exact ny (List.mem_append.mpr (.inr hm))
    · exact ⟨x, List.mem_cons_self, hx⟩
theorem first_new {xs ys : List Str} (n : xs.Nodup) (h : ys.length < xs.length) : ∃ x r, (xs.filter fun x => decide (x ∉ ys)) = x :: r ∧ x ∈ xs ∧ x ∉ ys := by
  obtain ⟨y, hy, ny⟩ := pigeonD n h
  cases e : xs.filter fun x => decide (x ∉ ys) with
  | nil =>
    have : y ∈ xs.filter fun x => decide (x ∉ ys) := List.mem_filter.mpr ⟨hy, by simpa using ny⟩
    rw [e] at this
    cases this
  | cons x r =>
    have : x ∈ xs.filter fun x => decide (x ∉ ys) := by rw [e]; exact List.mem_cons_self
    obtain ⟨h1, h2⟩ := List.mem_filter.mp this
    exact ⟨x, r, rfl, h1, by simpa using h2⟩
theorem ActsAt.has {K : PySem.W.Frag} {H : Hp} {d : Addr} {zs : List ActA} (h : ActsAt K H d zs) (x : Str) : DGet H d (.str x) (valV (zs.map ActA.kv) (.inr x)) := Or.inl ⟨_, .inr x, .inl h.at_, rfl, rfl⟩
theorem act_some (zs : List ActA) (x : Str) : (valV (zs.map ActA.kv) (.inr x)).isSome = decide (x ∈ zs.map (·.r.nm)) := by
  rw [val_act]
  cases e : zs.find? fun z => decide (z.r.nm = x) with
  | none =>
    rw [List.find?_eq_none] at e
    symm
    refine decide_eq_false fun hm => ?_
    obtain ⟨z, hz, rfl⟩ := List.mem_map.mp hm
    exact e z hz (by simp)
  | some z =>
    symm
    refine decide_eq_true (List.mem_map.mpr ⟨z, List.mem_of_find?_eq_some e, ?_⟩)
    simpa using List.find?_some e
/-- a value that is known behind an expression -/
theorem asg_mid {te : TE} {g : TG} {D : Ends} {σ : L2.St} {H : Hp} (R : V → Hp → Prop) (h1 : ∀ Q : VK, (∀ v H', R v H' → Q v H') → te σ H Q) (h2 : ∀ v H', R v H' → g v σ H' D.nx) : tAsg te g D σ H := h1 _ h2
end Fm
/-! walks along calls -/
namespace Fm
section
variable {α : Type} [DecidableEq α] {cl : α → List α} {ns : List α}
/-- a walk from x -/
def Wk (cl : α → List α) : α → List α → Prop
  | _, [] => True
  | x, z :: l => z ∈ cl x ∧ Wk cl z l
theorem wk_app : ∀ {x : α} {l1 : List α} {a : α} {l2 : List α}, Wk cl x (l1 ++ a :: l2) ↔ Wk cl x (l1 ++ [a]) ∧ Wk cl a l2
  | x, [], a, l2 => by simp [Wk]
  | x, z :: l1, a, l2 => by
    show z ∈ cl x ∧ Wk cl z (l1 ++ a :: l2) ↔ (z ∈ cl x ∧ Wk cl z (l1 ++ [a])) ∧ Wk cl a l2
    rw [wk_app, and_assoc]
theorem wk_sub (hc : ∀ x, ∀ z ∈ cl x, z ∈ ns) : ∀ {x : α} {l : List α}, Wk cl x l → ∀ y ∈ l, y ∈ ns
  | x, [], _, y, h => by cases h
  | x, z :: l, h, y, hy => by
    rcases List.mem_cons.mp hy with rfl | hy
    · exact hc _ _ h.1
    · exact wk_sub hc h.2 y hy
theorem dup_of : ∀ {l : List α}, ¬ l.Nodup → ∃ a l1 l2 l3, l = l1 ++ a :: (l2 ++ a :: l3)
  | [], h => absurd List.nodup_nil h
  | x :: l, h => by
    by_cases hx : x ∈ l
    · obtain ⟨s, t, rfl⟩ := List.append_of_mem hx
      exact ⟨x, [], s, t, rfl⟩
    · obtain ⟨a, l1, l2, l3, rfl⟩ := dup_of (l := l) fun n => h (List.nodup_cons.mpr ⟨hx, n⟩)
      exact ⟨a, x :: l1, l2, l3, rfl⟩
theorem nd_few {l : List α} (n : l.Nodup) (h : ∀ y ∈ l, y ∈ ns) : l.length ≤ ns.length := by
  rcases Nat.lt_or_ge ns.length l.length with k | k
  · obtain ⟨x, hx, nx⟩ := pigeonD n k
    exact absurd (h x hx) nx
  · exact k
theorem wk_short (hc : ∀ x, ∀ z ∈ cl x, z ∈ ns) {x y : α} : ∀ (n : Nat) (l : List α), l.length ≤ n → Wk cl x (l ++ [y]) → ∃ l', Wk cl x (l' ++ [y]) ∧ l'.length + 1 ≤ ns.length := by
  intro n
  induction n with
  | zero =>
    intro l hl h
    refine ⟨l, h, ?_⟩
    have : l = [] := List.length_eq_zero_iff.mp (Nat.le_zero.mp hl)
    subst this
    exact nd_few (l := [y]) (by simp) (wk_sub hc h)
  | succ n ih =>
    intro l hl h
    by_cases hn : (l ++ [y]).Nodup
    · refine ⟨l, h, ?_⟩
      have := nd_few hn (wk_sub hc h)
      simpa using this
    · obtain ⟨a, l1, l2, l3, e⟩ := dup_of hn
      rw [e] at h
      have h1 := wk_app.mp h
      have h2 := wk_app.mp h1.2
      have h3 : Wk cl x (l1 ++ a :: l3) := wk_app.mpr ⟨h1.1, h2.2⟩
      have hlast : (l1 ++ a :: l3).getLast? = some y := by
        have : (l ++ [y]).getLast? = some y := by simp
        rw [e, show l1 ++ a :: (l2 ++ a :: l3) = (l1 ++ a :: l2) ++ a :: l3 by simp, List.getLast?_append, List.getLast?_cons, Option.some_or] at this
        rw [List.getLast?_append, List.getLast?_cons, Option.some_or]
        exact this
      obtain ⟨l', e'⟩ := List.getLast?_eq_some_iff.mp hlast
      rw [e'] at h3
      refine ih l' ?_ h3
      have k1 := congrArg List.length e
      have k2 := congrArg List.length e'
      simp only [List.length_append, List.length_cons, List.length_nil] at k1 k2
      omega
/-- on a ring -/
def Cyc (cl : α → List α) (x : α) : Prop := ∃ l, Wk cl x (l ++ [x])
/-- a way of three calls -/
def Far (cl : α → List α) (x : α) : Prop := ∃ l, Wk cl x l ∧ l.length = 3
theorem acyc_bnd (hc : ∀ x, ∀ z ∈ cl x, z ∈ ns) (ha : ∀ x ∈ ns, ¬ Cyc cl x) {x : α} {l : List α} (h : Wk cl x l) : l.length ≤ ns.length := by
  by_cases hn : l.Nodup
  · exact nd_few hn (wk_sub hc h)
  · obtain ⟨a, l1, l2, l3, rfl⟩ := dup_of hn
    have h1 := wk_app.mp h
    exact absurd ⟨l2, (wk_app.mp h1.2).1⟩ (ha a (wk_sub hc h a (by simp)))
/-- how many are open at once -/
def Opn (cl : α → List α) (x : α) (r : Int) : Prop := ∀ m : Nat, (m : Int) < r ↔ ∃ l, Wk cl x l ∧ l.length = m
theorem opn_step {x : α} {rs : List Int} {m : Int} (h1 : ∀ r ∈ rs, ∃ z ∈ cl x, Opn cl z r) (h2 : ∀ z ∈ cl x, ∃ r ∈ rs, Opn cl z r) (hm : m ∈ 0 :: rs) (ht : ∀ y ∈ 0 :: rs, y ≤ m) : Opn cl x (1 + m) := by
  intro k
  have m0 := ht 0 (by simp)
  cases k with
  | zero => exact ⟨fun _ => ⟨[], trivial, rfl⟩, fun _ => by omega⟩
  | succ j =>
    constructor
    · intro hj
      rcases List.mem_cons.mp hm with rfl | hm
      · omega
      · obtain ⟨z, hz, o⟩ := h1 m hm
        obtain ⟨l, hl, e⟩ := (o j).mp (by omega)
        exact ⟨z :: l, ⟨hz, hl⟩, by simp [e]⟩
    · rintro ⟨l, hl, e⟩
      cases l with
      | nil => cases e
      | cons z l =>
        obtain ⟨r, hr, o⟩ := h2 z hl.1
        have := (o j).mpr ⟨l, hl.2, by simpa using e⟩
        have := ht r (List.mem_cons_of_mem _ hr)
        omega
theorem opn_far {x : α} {r : Int} (o : Opn cl x r) : 3 < r ↔ Far cl x := o 3
/-- where k calls lead -/
def EndK (cl : α → List α) : Nat → α → α → Prop
  | 0, x, y => y = x
  | k + 1, x, y => ∃ z, EndK cl k x z ∧ y ∈ cl z
theorem end_wk : ∀ (k : Nat) {x y : α}, EndK cl (k + 1) x y ↔ ∃ l, Wk cl x (l ++ [y]) ∧ l.length = k
  | 0, x, y => by
    constructor
    · rintro ⟨z, rfl, h⟩
      exact ⟨[], ⟨h, trivial⟩, rfl⟩
    · rintro ⟨l, h, e⟩
      have : l = [] := List.length_eq_zero_iff.mp e
      subst this
      exact ⟨x, rfl, h.1⟩
  | k + 1, x, y => by
    constructor
    · rintro ⟨z, h, hy⟩
      obtain ⟨l, hl, e⟩ := (end_wk k).mp h
      refine ⟨l ++ [z], ?_, by simp [e]⟩
      rw [List.append_assoc]
      exact wk_app.mpr ⟨hl, hy, trivial⟩
    · rintro ⟨l, h, e⟩
      rcases List.eq_nil_or_concat l with rfl | ⟨l', z, rfl⟩
      · cases e
      · rw [List.concat_eq_append, List.append_assoc] at h
        have h1 := wk_app.mp h
        exact ⟨z, (end_wk k).mpr ⟨l', h1.1, by simpa using e⟩, h1.2.1⟩
theorem cyc_end (hc : ∀ x, ∀ z ∈ cl x, z ∈ ns) (h7 : ns.length ≤ 7) {x : α} : Cyc cl x ↔ ∃ k : Nat, 1 ≤ k ∧ k < 8 ∧ EndK cl k x x := by
  constructor
  · rintro ⟨l, h⟩
    obtain ⟨l', h', e⟩ := wk_short hc l.length l (Nat.le_refl _) h
    exact ⟨l'.length + 1, by omega, by omega, (end_wk _).mpr ⟨l', h', rfl⟩⟩
  · rintro ⟨k, k1, _, h⟩
    obtain ⟨j, rfl⟩ : ∃ j, k = j + 1 := ⟨k - 1, by omega⟩
    obtain ⟨l, hl, _⟩ := (end_wk j).mp h
    exact ⟨l, hl⟩
theorem far_end {x : α} : Far cl x ↔ ∃ y, EndK cl 3 x y := by
  constructor
  · rintro ⟨l, h, e⟩
    rcases List.eq_nil_or_concat l with rfl | ⟨l', z, rfl⟩
    · cases e
    · rw [List.concat_eq_append] at h
      exact ⟨z, (end_wk 2).mpr ⟨l', h, by simpa using e⟩⟩
  · rintro ⟨y, h⟩
    obtain ⟨l, hl, e⟩ := (end_wk 2).mp h
    exact ⟨l ++ [y], hl, by simp [e]⟩
open Classical in
/-- the name that is told -/
noncomputable def badOf (cl : α → List α) (ss : List α) : Option α := (ss.find? fun x => decide (Cyc cl x)).or (ss.find? fun x => decide (Far cl x))
/-- all that is called, closed -/
theorem closed_all {x : α} {F : List α} (h1 : ∀ z ∈ cl x, z ∈ F) (h2 : ∀ y ∈ F, ∀ z ∈ cl y, z ∈ F) : ∀ {l : List α} {y : α}, Wk cl x (l ++ [y]) → y ∈ F := by
  have key : ∀ (l : List α) (a y : α), a ∈ F → Wk cl a (l ++ [y]) → y ∈ F := by
    intro l
    induction l with
    | nil => intro a y ha h; exact h2 a ha y h.1
    | cons z l ih => intro a y ha h; exact ih z y (h2 a ha z h.1) h.2
  intro l y h
  cases l with
  | nil => exact h1 y h.1
  | cons z l => exact key l z y (h1 z h.1) h.2
end
end Fm
/-! functions that only call -/
namespace Fm
open PySem PySem.Spec PyProof.Rows L2 SlX
local macro_rules | `(tactic| walk_at "nn") => `(tactic| dsimp only [tC, tNil, tCons, tCB, tCall, gName, tSeq, tAsg, tPar, tDrop, tRet])
local macro_rules | `(tactic| walk_at "nc") => `(tactic| dsimp only [tC, tNil, tCons, tCB, tCall])
inductive Ln where
  | call (z : Str) (g : Int)
  | back
def Ln.d : Ln → PyData
  | .call z g => .tuple [.str "call", .str z, .tuple [], .tuple [], .int g]
  | .back => .tuple [.str "back", .tuple []]
def Ln.to : Ln → Option Str
  | .call z _ => some z
  | .back => none
structure FnR where
  nm : Str
  lns : List Ln
structure FnA where
  r : FnR
  a : Addr
  l : Addr
  vs : List V
def FnA.kv (z : FnA) : L2.Key × V := (.inr z.r.nm, .ref z.a)
def callsOf (lns : List Ln) : List Str := lns.filterMap Ln.to
def clOf (rs : List FnR) (x : Str) : List Str := ((rs.find? fun r => decide (r.nm = x)).map fun r => callsOf r.lns).getD []
structure FnsAt (K : PySem.W.Frag) (H : Hp) (d : Addr) (zs : List FnA) : Prop where
  at_ : H d = some (.dK (zs.map FnA.kv))
  nd : (zs.map (·.r.nm)).Nodup
  tup : ∀ z ∈ zs, SqT K H z.a [.int 0, .int 0, .int 0, .ref z.l]
  lst : ∀ z ∈ zs, H z.l = some (.lst z.vs)
  ims : ∀ z ∈ zs, Ims K H z.vs (z.r.lns.map Ln.d)
def LnOk (ns : List Str) (n : Nat) : Ln → Prop
  | .call z g => z ∈ ns ∧ 0 ≤ g ∧ g < n
  | .back => True
structure FnsOk (rs : List FnR) : Prop where
  some_ : 0 < rs.length
  few : rs.length ≤ 7
  nm : ∀ r ∈ rs, Nm r.nm
  l1 : ∀ r ∈ rs, 0 < r.lns.length
  l9 : ∀ r ∈ rs, r.lns.length ≤ 4
  ok : ∀ r ∈ rs, ∀ e ∈ r.lns, LnOk (rs.map (·.nm)) r.lns.length e
section
variable {K : PySem.W.Frag} {H H' : Hp} {b d : Addr} {zs : List FnA}
theorem FnsAt.mv (h : FnsAt K H d zs) (m : Mv [] H H') : FnsAt K H' d zs := ⟨m.same _ _ h.at_, h.nd, fun z hz => m.sqT (h.tup z hz), fun z hz => m.same _ _ (h.lst z hz), fun z hz => (h.ims z hz).mv m⟩
theorem fk_keys (zs : List FnA) : (zs.map FnA.kv).map (·.1) = (zs.map (·.r.nm)).map Sum.inr := by
  rw [List.map_map, List.map_map]
  rfl
theorem FnsAt.nk (h : FnsAt K H d zs) : ((zs.map FnA.kv).map (·.1)).Nodup := by
  rw [fk_keys]
  exact nd_inr h.nd
theorem FnsAt.val (h : FnsAt K H d zs) {z : FnA} (hz : z ∈ zs) : valV (zs.map FnA.kv) (.inr z.r.nm) = some (.ref z.a) := valV_mem h.nk (List.mem_map.mpr ⟨z, hz, rfl⟩)
theorem FnsAt.get (h : FnsAt K H d zs) {z : FnA} (hz : z ∈ zs) : DGet H d (.str z.r.nm) (some (.ref z.a)) := Or.inl ⟨_, .inr z.r.nm, .inl h.at_, rfl, (h.val hz).symm⟩
theorem cl_of {rs : List FnR} (n : (rs.map (·.nm)).Nodup) {r : FnR} (hr : r ∈ rs) : clOf rs r.nm = callsOf r.lns := by
  unfold clOf
  have : rs.find? (fun q => decide (q.nm = r.nm)) = some r := by
    induction rs with
    | nil => cases hr
    | cons q rs ih =>
      rw [List.map_cons, List.nodup_cons] at n
      rw [List.find?_cons]
      by_cases e : q.nm = r.nm
      · rw [decide_eq_true e]
        rcases List.mem_cons.mp hr with rfl | hr
        · rfl
        · exact absurd (List.mem_map.mpr ⟨r, hr, e.symm⟩) n.1
      · rw [decide_eq_false e]
        rcases List.mem_cons.mp hr with rfl | hr
        · exact absurd rfl e
        · exact ih n.2 hr
  rw [this]
  rfl
theorem calls_mem {lns : List Ln} {z : Str} : z ∈ callsOf lns ↔ ∃ g, Ln.call z g ∈ lns := by
  unfold callsOf
  rw [List.mem_filterMap]
  constructor
  · rintro ⟨e, he, h⟩
    cases e with
    | call y g => cases h; exact ⟨g, he⟩
    | back => cases h
  · rintro ⟨g, h⟩
    exact ⟨_, h, rfl⟩
theorem calls_len (lns : List Ln) : (callsOf lns).length ≤ lns.length := List.length_filterMap_le _ _
theorem cl_sub {rs : List FnR} (h : FnsOk rs) (x : Str) : ∀ z ∈ clOf rs x, z ∈ rs.map (·.nm) := by
  intro z hz
  unfold clOf at hz
  cases e : rs.find? fun r => decide (r.nm = x) with
  | none => rw [e] at hz; cases hz
  | some r =>
    rw [e] at hz
    obtain ⟨g, hg⟩ := calls_mem.mp hz
    exact (h.ok r (List.mem_of_find?_eq_some e) _ hg).1
theorem Im.tup5 {v : V} {d0 d1 d2 d3 d4 : PyData} (h : Im K H v (.tuple [d0, d1, d2, d3, d4])) : ∃ a x0 x1 x2 x3 x4, v = .ref a ∧ SqT K H a [x0, x1, x2, x3, x4] ∧ Im K H x0 d0 ∧ Im K H x1 d1 ∧ Im K H x2 d2 ∧ Im K H x3 d3 ∧ Im K H x4 d4 := by
  obtain ⟨a, xs, rfl, ha, hx⟩ := h.tupI
  obtain ⟨x0, xs, rfl, h0, hx⟩ := hx.invD
  obtain ⟨x1, xs, rfl, h1, hx⟩ := hx.invD
  obtain ⟨x2, xs, rfl, h2, hx⟩ := hx.invD
  obtain ⟨x3, xs, rfl, h3, hx⟩ := hx.invD
  obtain ⟨x4, xs, rfl, h4, hx⟩ := hx.invD
  cases hx.nilD
  exact ⟨a, x0, x1, x2, x3, x4, rfl, ha, h0, h1, h2, h3, h4⟩
theorem Im.tup0 {v : V} (h : Im K H v (.tuple [])) : ∃ a, v = .ref a ∧ SqT K H a [] := by
  obtain ⟨a, xs, rfl, ha, hx⟩ := h.tupI
  cases hx.nilD
  exact ⟨a, rfl, ha⟩
end
theorem nm_lt {ns : List Str} {n : Nat} {e : Ln} (hn : ∀ x ∈ ns, Nm x) (h : LnOk ns n e) (h4 : n ≤ 4) : fine e.d ∧ e.d.depth ≤ 5 := by
  cases e with
  | call z g =>
    have hz := hn z h.1
    refine ⟨⟨(by decide +kernel : PyData.strOk "call" = true), nm_ok hz, trivial, trivial, nat_of h.2.1 h.2.2 (by omega), trivial⟩, ?_⟩
    simp [Ln.d, PyData.depth, PyData.depthAll]
  | back => exact ⟨⟨(by decide +kernel : PyData.strOk "back" = true), trivial, trivial⟩, by simp [Ln.d, PyData.depth, PyData.depthAll]⟩
def sp_isfun (K : PySem.W.Frag) : Sp := fun vs H Q _ => ∃ (a l : Addr) (xs : List V), vs = [.ref a] ∧ SqT K H a [.int 0, .int 0, .int 0, .ref l] ∧ H l = some (.lst xs) ∧ 0 < xs.length ∧ ∀ H', Mv [] H H' → Q (.bl true) H'
def sp_iscall (K : PySem.W.Frag) : Sp := fun vs H Q _ => ∃ (d : Addr) (zs : List FnA) (n : Nat) (v : V) (z : Str) (g : Int), vs = [.ref d, .int 0, .int n, v] ∧ FnsAt K H d zs ∧ Im K H v (Ln.call z g).d ∧ LnOk (zs.map (·.r.nm)) n (.call z g) ∧ ∀ H', Mv [] H H' → Q (.bl true) H'
def sp_isback (K : PySem.W.Frag) : Sp := fun vs H Q _ => ∃ (v : V), vs = [.int 0, .int 0, v] ∧ Im K H v Ln.back.d ∧ ∀ H', Mv [] H H' → Q (.bl true) H'
def sp_isline (K : PySem.W.Frag) : Sp := fun vs H Q _ => ∃ (x : V) (d a l : Addr) (zs : List FnA) (xs : List V) (v : V) (e : Ln), vs = [x, .ref d, .ref a, v] ∧ FnsAt K H d zs ∧ (∀ z ∈ zs, Nm z.r.nm) ∧ SqT K H a [.int 0, .int 0, .int 0, .ref l] ∧ H l = some (.lst xs) ∧ xs.length ≤ 4 ∧ Im K H v e.d ∧ LnOk (zs.map (·.r.nm)) xs.length e ∧ ∀ H', Mv [] H H' → Q (.bl true) H'
def sp_no : Sp := fun _ _ _ _ => False
def sp_calledby (K : PySem.W.Frag) : Sp := fun vs H Q _ => ∃ (a l : Addr) (xs : List V) (lns : List Ln), vs = [.ref a] ∧ SqT K H a [.int 0, .int 0, .int 0, .ref l] ∧ H l = some (.lst xs) ∧ Ims K H xs (lns.map Ln.d) ∧ lns.length ≤ 4 ∧ ∀ p (ss : List Str) H', ss.Nodup → (∀ z, z ∈ ss ↔ z ∈ callsOf lns) → H p = none → Mv [] H H' → H' p = some (.lst (ss.map V.str)) → Q (.ref p) H'
section
variable {P : Program} {w : World} {K : PySem.W.Frag} {mg : Str → Option Value} {base : Heap}
theorem ok_is_function (T : TX K mg) {k : Nat} : FnOk P w K mg base CX0 (k + 3) T.d_is_function.f T.d_is_function.fd P_is_function (sp_isfun K) := by
  have G_is_within : FnOk P w K mg base CX0 2 T.d_is_within.f T.d_is_within.fd P_is_within (sp_within K) := ok_is_within T
  refine T.d_is_function.F.ok sc_is_function (fun vs H Q E h => ?_) (fun cdv A outer s H vs Q E hr h => ?_)
  · obtain ⟨_, _, _, rfl, _⟩ := h
    rfl
  · obtain ⟨a, l, xs, rfl, ha, hl, h0, q⟩ := h
    have hu64 := hr.units
    refine ⟨_, (pss_cons (ps_if (PW.pt (pw_or (pt_not (pt_val (pe_callB (r := rIsi K) call_isi (by rfl) T.b_isinstance bt_isinstance (pa_cons (pv 0) (pa_cons (pe_ty T.b_tuple bt_tuple) pa_nil))))) (pw_or (pt_cmpR (r := rNeG K) (op_neG hu64) (pe_callB (r := rLenG K) call_lenG (by rfl) T.b_len bt_len (pa_cons (pv 0) pa_nil)) pe_int (nomark _)) (pw_or1 (pt_not (pt_val (pe_call G_is_within (hr.mono (by omega)) rfl T.d_is_within.g T.d_is_within.F.kp T.d_is_within.b .nil pass0 (pa_cons (pe_ix (r := rIx K) ix_seq (pv 0) pe_int (fun _ _ => rfl)) (pa_cons (pe_glob rfl T.c_MOST_VARIABLES T.r_MOST_VARIABLES) pa_nil))))))))) (pss_one (ps_ret pe_bl)) pss_nil) (pss_cons (ps_if (PW.pt (pw_or (pt_not (pt_val (pe_call G_is_within (hr.mono (by omega)) rfl T.d_is_within.g T.d_is_within.F.kp T.d_is_within.b .nil pass0 (pa_cons (pe_ix (r := rIx K) ix_seq (pv 0) pe_int (fun _ _ => rfl)) (pa_cons (pe_ix (r := rIx K) ix_seq (pv 0) pe_int (fun _ _ => rfl)) pa_nil))))) (pw_or1 (pt_not (pt_val (pe_call G_is_within (hr.mono (by omega)) rfl T.d_is_within.g T.d_is_within.F.kp T.d_is_within.b .nil pass0 (pa_cons (pe_ix (r := rIx K) ix_seq (pv 0) pe_int (fun _ _ => rfl)) (pa_cons (pe_glob rfl T.c_MOST_RESULTS T.r_MOST_RESULTS) pa_nil)))))))) (pss_one (ps_ret pe_bl)) pss_nil) (pss_one (ps_ret (pe_and (pe_callB (r := rIsiT K) call_isiT (by rfl) T.b_isinstance bt_isinstance (pa_cons (pe_ix (r := rIx K) ix_seq (pv 0) pe_int (fun _ _ => rfl)) (pa_cons (pe_tup (pa_cons (pe_ty T.b_list bt_list) (pa_cons (pe_ty T.b_tuple bt_tuple) pa_nil))) pa_nil))) (pe_one (pe_cmpR op_gt (pe_callB (r := rLenG K) call_lenG (by rfl) T.b_len bt_len (pa_cons (pe_ix (r := rIx K) ix_seq (pv 0) pe_int (fun _ _ => rfl)) pa_nil)) pe_int (nomark _)))))))), ?_⟩
    refine ⟨.ref a, rfl, ?_⟩
    walk_at "nn"
    refine ⟨_, _, _, _, true, rfl, .ty "tuple", tyx_sqT ha, kit_ty (by decide +kernel), ?_⟩
    refine ⟨_, rfl, ?_⟩
    refine ⟨.ref a, rfl, ?_⟩
    walk_at "nc"
    refine rd_len (.inr ha) (Or.inl ⟨rfl, _, rfl, ?_⟩)
    refine ⟨.ref a, rfl, rd_ixT ha (by decide) (v := .int 0) rfl ?_⟩
    refine ⟨.int 0, .int 0, a, 8, rfl, rfl, fun H1 m1 => ?_⟩
    rw [show within 8 (.int 0) = true by decide]
    refine ⟨_, rfl, ?_⟩
    refine ⟨.ref a, rfl, rd_ixT (m1.sqT ha) (by decide) (v := .int 0) rfl ?_⟩
    refine ⟨.ref a, rfl, rd_ixT (m1.sqT ha) (by decide) (v := .int 0) rfl ?_⟩
    refine ⟨.int 0, .int 0, a, 0, rfl, rfl, fun H2 m2 => ?_⟩
    rw [show within 0 (.int 0) = true by decide]
    refine ⟨_, rfl, ?_⟩
    have m02 := m1.trans m2
    refine ⟨.ref a, rfl, rd_ixT (m02.sqT ha) (by decide) (v := .int 0) rfl ?_⟩
    refine ⟨.int 0, .int 0, a, 2, rfl, rfl, fun H3 m3 => ?_⟩
    rw [show within 2 (.int 0) = true by decide]
    refine ⟨_, rfl, ?_⟩
    have m03 := m02.trans m3
    refine ⟨.ref a, rfl, rd_ixT (m03.sqT ha) (by decide) (v := .ref l) rfl ?_⟩
    refine ⟨(by decide : 2 ≤ sizeLine), fun tp ntp => ?_⟩
    have e4 : upd H3 tp (.tup [.ty "list", .ty "tuple"]) tp = some (.tup [.ty "list", .ty "tuple"]) := upd_same
    have m4 : Mv [] H3 (upd H3 tp (.tup [.ty "list", .ty "tuple"])) := .new ntp
    generalize upd H3 tp (.tup [.ty "list", .ty "tuple"]) = H4 at e4 m4 ⊢
    have m04 := m03.trans m4
    refine ⟨.ref l, tp, _, _, [.type "list", .type "tuple"], true, rfl, e4, .cons (.ty "list") (.cons (.ty "tuple") .nil), .base (.lst (m04.same _ _ hl)), ?_, ?_⟩
    · have hk : PySem.W.kitOne K (.type "list") (.type "list") = some true := kit_ty (by decide +kernel)
      exact kitAny_cons hk (fun e => by cases e) (fun _ => rfl)
    · refine ⟨_, rfl, ?_⟩
      refine ⟨.ref a, rfl, rd_ixT (m04.sqT ha) (by decide) (v := .ref l) rfl ?_⟩
      walk_at "nc"
      refine rd_len (.inl (.inl (.inl (m04.same _ _ hl)))) ⟨_, 0, rfl, rfl, ?_⟩
      have q4 := q H4 m04
      rw [show true = decide (0 < ((xs.length : Nat) : Int)) from (decide_eq_true (by omega)).symm] at q4
      exact q4
theorem ok_is_call (T : TX K mg) {k : Nat} : FnOk P w K mg base CX0 (k + 5) T.d_is_call.f T.d_is_call.fd P_is_call (sp_iscall K) := by
  have G_is_place : FnOk P w K mg base CX0 2 T.d_is_place.f T.d_is_place.fd P_is_place (sp_place K) := ok_is_place T
  have G_are_different : FnOk P w K mg base CX0 2 T.d_are_different.f T.d_are_different.fd P_are_different (sp_diff K) := ok_are_different T
  have G_are_terms_over : FnOk P w K mg base CX0 4 T.d_are_terms_over.f T.d_are_terms_over.fd P_are_terms_over (sp_termsOver K) := ok_are_terms_over T
  refine T.d_is_call.F.ok sc_is_call (fun vs H Q E h => ?_) (fun cdv A outer s H vs Q E hr h => ?_)
  · obtain ⟨_, _, _, _, _, _, rfl, _⟩ := h
    rfl
  · obtain ⟨d, zs, n, v, z, g, rfl, hA, hv, ⟨hz, g0, g1⟩, q⟩ := h
    have hu64 := hr.units
    have hu1 := hu1_of hr
    obtain ⟨zf, hzf, rfl⟩ := List.mem_map.mp hz
    obtain ⟨a, x0, x1, x2, x3, x4, rfl, ha, h0, h1, h2, h3, h4⟩ := hv.tup5
    cases h0.strI
    cases h1.strI
    cases h4.intI
    obtain ⟨a2, rfl, ha2⟩ := h2.tup0
    obtain ⟨a3, rfl, ha3⟩ := h3.tup0
    refine ⟨_, (pss_cons (ps_if (PW.pt (pw_or (pt_cmpR (r := rNeG K) (op_neG hu64) (pe_callB (r := rLenG K) call_lenG (by rfl) T.b_len bt_len (pa_cons (pv 3) pa_nil)) pe_int (nomark _)) (pw_or (pt_not (pt_val (pe_callB (r := rIsi K) call_isi (by rfl) T.b_isinstance bt_isinstance (pa_cons (pe_ix (r := rIx K) ix_seq (pv 3) pe_int (fun _ _ => rfl)) (pa_cons (pe_ty T.b_str bt_str) pa_nil))))) (pw_or1 (pt_cmp (pc_dnotin hu1 (pe_ix (r := rIx K) ix_seq (pv 3) pe_int (fun _ _ => rfl)) (pv 0))))))) (pss_one (ps_ret pe_bl)) pss_nil) (pss_cons (ps_asg (pv 3) (pg_tup rfl (pgs_cons (pg_name (i := 4) sc_is_call.nd rfl (Or.inl rfl)) (pgs_cons (pg_name (i := 5) sc_is_call.nd rfl (Or.inl rfl)) (pgs_cons (pg_name (i := 6) sc_is_call.nd rfl (Or.inl rfl)) (pgs_cons (pg_name (i := 7) sc_is_call.nd rfl (Or.inl rfl)) (pgs_cons (pg_name (i := 8) sc_is_call.nd rfl (Or.inl rfl)) pgs_nil))))))) (pss_cons (ps_if (PW.pt (pw_or (pt_not (pt_val (pe_call G_are_terms_over (hr.mono (by omega)) rfl T.d_are_terms_over.g T.d_are_terms_over.F.kp T.d_are_terms_over.b .nil pass0 (pa_cons (pv 1) (pa_cons (pv 6) pa_nil))))) (pw_or (pt_not (pt_val (pe_call G_are_different (hr.mono (by omega)) rfl T.d_are_different.g T.d_are_different.F.kp T.d_are_different.b .nil pass0 (pa_cons (pv 1) (pa_cons (pv 7) pa_nil))))) (pw_or1 (pt_not (pt_val (pe_call G_is_place (hr.mono (by omega)) rfl T.d_is_place.g T.d_is_place.F.kp T.d_is_place.b .nil pass0 (pa_cons (pv 2) (pa_cons (pv 8) pa_nil))))))))) (pss_one (ps_ret pe_bl)) pss_nil) (pss_one (ps_ret (pe_and (pe_cmpR (r := rEqG K) (op_eqG hu64) (pe_callB (r := rLenG K) call_lenG (by rfl) T.b_len bt_len (pa_cons (pv 6) pa_nil)) (pe_ix (r := rIx K) ix_seq (pe_dget hu1 (pv 0) (pv 5) (fun _ _ => rfl)) pe_int (fun _ _ => rfl)) (nomark _)) (pe_one (pe_cmpR (r := rEqG K) (op_eqG hu64) (pe_callB (r := rLenG K) call_lenG (by rfl) T.b_len bt_len (pa_cons (pv 7) pa_nil)) (pe_ix (r := rIx K) ix_seq (pe_dget hu1 (pv 0) (pv 5) (fun _ _ => rfl)) pe_int (fun _ _ => rfl)) (nomark _))))))))), ?_⟩
    refine ⟨.ref a, rfl, ?_⟩
    walk_at "nc"
    refine rd_len (.inr ha) (Or.inl ⟨rfl, _, rfl, ?_⟩)
    refine ⟨.ref a, rfl, rd_ixT ha (by decide) (v := .str zf.r.nm) rfl ?_⟩
    walk_at "nn"
    refine ⟨_, _, _, _, true, rfl, .ty "str", .base (.str _), kit_ty (by decide +kernel), ?_⟩
    refine ⟨_, rfl, ?_⟩
    refine ⟨.ref a, rfl, rd_ixT ha (by decide) (v := .str zf.r.nm) rfl ?_⟩
    refine ⟨.ref d, rfl, d, _, rfl, hA.get hzf, _, rfl, ?_⟩
    refine ⟨.ref a, rfl, a, _, rfl, ha, rfl, _, _, rfl, _, _, rfl, _, _, rfl, _, _, rfl, _, _, rfl, rfl, ?_⟩
    refine ⟨.int 0, rfl, .ref a2, rfl, 0, .ref a2, [], rfl, h2, by simp, fun t ht => absurd ht List.not_mem_nil, fun H1 m1 => ⟨_, rfl, ?_⟩⟩
    refine ⟨.int 0, rfl, .ref a3, rfl, 0, a3, [], rfl, m1.sqT ha3, List.nodup_nil, by simp, fun i hi => absurd hi List.not_mem_nil, fun H2 m2 => ⟨_, rfl, ?_⟩⟩
    have m02 := m1.trans m2
    refine ⟨.int n, rfl, .int g, rfl, (n : Int), .int g, .int g, a, rfl, rfl, fun H3 m3 => ?_⟩
    rw [show inPl (n : Int) (.int g) = true by simp [inPl, g0, g1]]
    refine ⟨_, rfl, ?_⟩
    have m03 := m02.trans m3
    have hA3 := hA.mv m03
    refine ⟨.ref a2, rfl, ?_⟩
    walk_at "nc"
    refine rd_len (.inr (m03.sqT ha2)) ?_
    refine ⟨.ref d, rfl, .str zf.r.nm, rfl, d, .ref zf.a, rfl, hA3.get hzf, rd_ixT (hA3.tup zf hzf) (by decide) (v := .int 0) rfl (Or.inl ⟨rfl, _, rfl, ?_⟩)⟩
    rw [show decide (V.int ((([] : List V).length : Nat) : Int) = V.int 0) = true from decide_eq_true rfl]
    refine ⟨.ref a3, rfl, ?_⟩
    walk_at "nc"
    refine rd_len (.inr (m03.sqT ha3)) ?_
    refine ⟨.ref d, rfl, .str zf.r.nm, rfl, d, .ref zf.a, rfl, hA3.get hzf, rd_ixT (hA3.tup zf hzf) (by decide) (v := .int 0) rfl (Or.inl ⟨rfl, ?_⟩)⟩
    exact q H3 m03
theorem ok_is_back (T : TX K mg) {k : Nat} : FnOk P w K mg base CX0 (k + 5) T.d_is_back.f T.d_is_back.fd P_is_back (sp_isback K) := by
  have G_are_terms_over : FnOk P w K mg base CX0 4 T.d_are_terms_over.f T.d_are_terms_over.fd P_are_terms_over (sp_termsOver K) := ok_are_terms_over T
  refine T.d_is_back.F.ok sc_is_back (fun vs H Q E h => ?_) (fun cdv A outer s H vs Q E hr h => ?_)
  · obtain ⟨_, rfl, _⟩ := h
    rfl
  · obtain ⟨v, rfl, hv, q⟩ := h
    have hu64 := hr.units
    obtain ⟨a, x0, x1, rfl, ha, h0, h1⟩ := hv.tup2
    obtain ⟨a1, rfl, ha1⟩ := h1.tup0
    refine ⟨_, (pss_one (ps_ret (pe_and (pe_cmpR (r := rEqG K) (op_eqG hu64) (pe_callB (r := rLenG K) call_lenG (by rfl) T.b_len bt_len (pa_cons (pv 2) pa_nil)) pe_int (nomark _)) (pe_and (pe_call G_are_terms_over (hr.mono (by omega)) rfl T.d_are_terms_over.g T.d_are_terms_over.F.kp T.d_are_terms_over.b .nil pass0 (pa_cons (pv 0) (pa_cons (pe_ix (r := rIx K) ix_seq (pv 2) pe_int (fun _ _ => rfl)) pa_nil))) (pe_one (pe_cmpR (r := rEqG K) (op_eqG hu64) (pe_callB (r := rLenG K) call_lenG (by rfl) T.b_len bt_len (pa_cons (pe_ix (r := rIx K) ix_seq (pv 2) pe_int (fun _ _ => rfl)) pa_nil)) (pv 1) (nomark _))))))), ?_⟩
    refine ⟨.ref a, rfl, ?_⟩
    walk_at "nc"
    refine rd_len (.inr ha) (Or.inl ⟨rfl, _, rfl, ?_⟩)
    rw [show decide (V.int (([x0, V.ref a1].length : Nat) : Int) = V.int 2) = true from decide_eq_true rfl]
    refine ⟨.int 0, rfl, .ref a, rfl, rd_ixT ha (by decide) (v := .ref a1) rfl ?_⟩
    refine ⟨0, .ref a1, [], rfl, h1, by simp, fun t ht => absurd ht List.not_mem_nil, fun H1 m1 => ⟨_, rfl, ?_⟩⟩
    refine ⟨.ref a, rfl, rd_ixT (m1.sqT ha) (by decide) (v := .ref a1) rfl ?_⟩
    walk_at "nc"
    refine rd_len (.inr (m1.sqT ha1)) ⟨.int 0, rfl, Or.inl ⟨rfl, ?_⟩⟩
    exact q H1 m1
theorem ok_is_statementN (T : TX K mg) {k : Nat} : FnOk P w K mg base CX0 (k + 1) T.d_is_statement.f T.d_is_statement.fd P_is_statement sp_no :=
  T.d_is_statement.F.ok sc_is_statement (fun vs H Q E h => False.elim h) (fun cdv A outer s H vs Q E hr h => False.elim h)
theorem ok_is_line (T : TX K mg) {k : Nat} : FnOk P w K mg base CX0 (k + 6) T.d_is_line.f T.d_is_line.fd P_is_line (sp_isline K) := by
  have G_is_call : FnOk P w K mg base CX0 5 T.d_is_call.f T.d_is_call.fd P_is_call (sp_iscall K) := ok_is_call T
  have G_is_back : FnOk P w K mg base CX0 5 T.d_is_back.f T.d_is_back.fd P_is_back (sp_isback K) := ok_is_back T
  have G_is_statement : FnOk P w K mg base CX0 5 T.d_is_statement.f T.d_is_statement.fd P_is_statement sp_no := ok_is_statementN T
  refine T.d_is_line.F.ok sc_is_line (fun vs H Q E h => ?_) (fun cdv A outer s H vs Q E hr h => ?_)
  · obtain ⟨_, _, _, _, _, _, _, _, rfl, _⟩ := h
    rfl
  · obtain ⟨x, d, a, l, zs, xs, v, e, rfl, hA, hnm, ha, hl, h4, hv, hok, q⟩ := h
    have hu64 := hr.units
    obtain ⟨hf, hd⟩ := nm_lt (fun x hx => by
      obtain ⟨z, hz, rfl⟩ := List.mem_map.mp hx
      exact hnm z hz) hok h4
    have hsh := shaped_of hf (by omega)
    refine ⟨_, (pss_cons (ps_asg (pv 2) (pg_tup rfl (pgs_cons (pg_name (i := 4) sc_is_line.nd rfl (Or.inl rfl)) (pgs_cons (pg_name (i := 5) sc_is_line.nd rfl (Or.inl rfl)) (pgs_cons (pg_name (i := 6) sc_is_line.nd rfl (Or.inl rfl)) (pgs_cons (pg_name (i := 7) sc_is_line.nd rfl (Or.inl rfl)) pgs_nil)))))) (pss_cons (ps_if (PW.pt (pw_or (pt_not (pt_val (pe_callB (r := rIsi K) call_isi (by rfl) T.b_isinstance bt_isinstance (pa_cons (pv 3) (pa_cons (pe_ty T.b_tuple bt_tuple) pa_nil))))) (pw_or (pt_cmpR (r := rEqG K) (op_eqG hu64) (pv 3) (pe_tup pa_nil) (nomark _)) (pw_or1 (pt_not (pt_val (pe_callB (r := rIsi K) call_isi (by rfl) T.b_isinstance bt_isinstance (pa_cons (pe_ix (r := rIx K) ix_seq (pv 3) pe_int (fun _ _ => rfl)) (pa_cons (pe_ty T.b_str bt_str) pa_nil))))))))) (pss_one (ps_ret pe_bl)) pss_nil) (pss_cons (ps_if (pt_cmpR (r := rEqG K) (op_eqG hu64) (pe_ix (r := rIx K) ix_seq (pv 3) pe_int (fun _ _ => rfl)) pe_str (nomark _)) (pss_one (ps_ret (pe_call G_is_call (hr.mono (by omega)) rfl T.d_is_call.g T.d_is_call.F.kp T.d_is_call.b .nil pass0 (pa_cons (pv 1) (pa_cons (pv 4) (pa_cons (pe_callB (r := rLenG K) call_lenG (by rfl) T.b_len bt_len (pa_cons (pv 7) pa_nil)) (pa_cons (pv 3) pa_nil))))))) pss_nil) (pss_cons (ps_if (pt_cmpR (r := rEqG K) (op_eqG hu64) (pe_ix (r := rIx K) ix_seq (pv 3) pe_int (fun _ _ => rfl)) pe_str (nomark _)) (pss_one (ps_ret (pe_call G_is_back (hr.mono (by omega)) rfl T.d_is_back.g T.d_is_back.F.kp T.d_is_back.b .nil pass0 (pa_cons (pv 4) (pa_cons (pv 6) (pa_cons (pv 3) pa_nil)))))) pss_nil) (pss_one (ps_ret (pe_call G_is_statement (hr.mono (by omega)) rfl T.d_is_statement.g T.d_is_statement.F.kp T.d_is_statement.b .nil pass0 (pa_cons (pv 0) (pa_cons (pv 4) (pa_cons (pe_callB (r := rLenG K) call_lenG (by rfl) T.b_len bt_len (pa_cons (pv 7) pa_nil)) (pa_cons (pv 3) pa_nil))))))))))), ?_⟩
    refine ⟨.ref a, rfl, a, _, rfl, ha, rfl, _, _, rfl, _, _, rfl, _, _, rfl, _, _, rfl, rfl, ?_⟩
    cases e with
    | call z g =>
      obtain ⟨t, x0, x1, x2, x3, x4, rfl, ht, h0, h1, h2, h3, h4'⟩ := hv.tup5
      cases h0.strI
      refine ⟨.ref t, rfl, ?_⟩
      walk_at "nn"
      refine ⟨_, _, _, _, true, rfl, .ty "tuple", tyx_sqT ht, kit_ty (by decide +kernel), ?_⟩
      refine ⟨_, rfl, ?_⟩
      refine ⟨.ref t, rfl, Nat.zero_le _, fun p1 np1 => ?_⟩
      have m1 : Mv [] H (upd H p1 (.tup [])) := .new np1
      refine Or.inr ⟨_, .tuple [], (hv.mv m1).dp, .tup (.inl (.inl upd_same)) .nil, hsh, rfl, _, rfl, ?_⟩
      rw [show PyData.eqv (Ln.call z g).d (.tuple []) = false from eqv_unit ..]
      generalize upd H p1 (.tup []) = H1 at m1 ⊢
      refine ⟨.ref t, rfl, rd_ixT (m1.sqT ht) (by decide) (v := .str "call") rfl ?_⟩
      walk_at "nn"
      refine ⟨_, _, _, _, true, rfl, .ty "str", .base (.str _), kit_ty (by decide +kernel), ?_⟩
      refine ⟨_, rfl, ?_⟩
      refine ⟨.ref t, rfl, rd_ixT (m1.sqT ht) (by decide) (v := .str "call") rfl ?_⟩
      refine Or.inl ⟨rfl, _, rfl, ?_⟩
      rw [show decide (V.str "call" = V.str "call") = true from decide_eq_true rfl]
      refine ⟨.ref d, rfl, .int 0, rfl, .ref l, rfl, ?_⟩
      walk_at "nc"
      refine rd_len (.inl (.inl (.inl (m1.same _ _ hl)))) ?_
      exact ⟨.ref t, rfl, d, zs, xs.length, .ref t, z, g, rfl, hA.mv m1, hv.mv m1, hok, fun H2 m2 => q H2 (m1.trans m2)⟩
    | back =>
      obtain ⟨t, x0, x1, rfl, ht, h0, h1⟩ := hv.tup2
      cases h0.strI
      refine ⟨.ref t, rfl, ?_⟩
      walk_at "nn"
      refine ⟨_, _, _, _, true, rfl, .ty "tuple", tyx_sqT ht, kit_ty (by decide +kernel), ?_⟩
      refine ⟨_, rfl, ?_⟩
      refine ⟨.ref t, rfl, Nat.zero_le _, fun p1 np1 => ?_⟩
      have m1 : Mv [] H (upd H p1 (.tup [])) := .new np1
      refine Or.inr ⟨_, .tuple [], (hv.mv m1).dp, .tup (.inl (.inl upd_same)) .nil, hsh, rfl, _, rfl, ?_⟩
      rw [show PyData.eqv Ln.back.d (.tuple []) = false from eqv_unit ..]
      generalize upd H p1 (.tup []) = H1 at m1 ⊢
      refine ⟨.ref t, rfl, rd_ixT (m1.sqT ht) (by decide) (v := .str "back") rfl ?_⟩
      walk_at "nn"
      refine ⟨_, _, _, _, true, rfl, .ty "str", .base (.str _), kit_ty (by decide +kernel), ?_⟩
      refine ⟨_, rfl, ?_⟩
      refine ⟨.ref t, rfl, rd_ixT (m1.sqT ht) (by decide) (v := .str "back") rfl ?_⟩
      refine Or.inl ⟨rfl, _, rfl, ?_⟩
      rw [ne_str (by decide +kernel)]
      refine ⟨.ref t, rfl, rd_ixT (m1.sqT ht) (by decide) (v := .str "back") rfl ?_⟩
      refine Or.inl ⟨rfl, _, rfl, ?_⟩
      rw [show decide (V.str "back" = V.str "back") = true from decide_eq_true rfl]
      exact ⟨.int 0, rfl, .int 0, rfl, .ref t, rfl, .ref t, rfl, hv.mv m1, fun H2 m2 => q H2 (m1.trans m2)⟩
theorem ok_called_by (T : TX K mg) {k : Nat} : FnOk P w K mg base CX0 (k + 1) T.d_called_by.f T.d_called_by.fd P_called_by (sp_calledby K) := by
  refine T.d_called_by.F.ok sc_called_by (fun vs H Q E h => ?_) (fun cdv A outer s H vs Q E hr h => ?_)
  · obtain ⟨_, _, _, _, rfl, _⟩ := h
    rfl
  · obtain ⟨a, l, xs, lns, rfl, ha, hl, hxs, h4, q⟩ := h
    have hu64 := hr.units
    have hln := hxs.length
    rw [List.length_map] at hln
    refine ⟨_, (pss_one (ps_ret (pe_callB (r := rSortedSS P w) (cr_sortedSS rfl) (by rfl) T.b_sorted bt_sorted (pa_cons (pe_callTy (r := rSetOfS K P w) (cr_setS rfl) (by rfl) T.b_set bt_set (pa_cons (pe_lc (own := [("statement", 1)]) (g := gName 1) (by rfl) sc_called_by.nd (pi_seq (pe_ix (r := rIx K) ix_seq (pv 0) pe_int (fun _ _ => rfl))) (blkOk_by (own := [("statement", 1)]) (N := N_called_by) (sc := defScope s_called_by) (by decide +kernel)) (fun _ _ _ _ _ => pg_name (i := 1) sc_called_by.nd rfl (Or.inl rfl)) (fun _ _ _ _ _ => (pts_one (pt_cmpR (r := rEqG K) (op_eqG hu64) (pe_ix (r := rIx K) ix_seq (pv 1) pe_int (fun _ _ => rfl)) pe_str (nomark _)))) (fun _ _ _ _ _ => (pe_ix (r := rIx K) ix_seq (pv 1) pe_int (fun _ _ => rfl)))) pa_nil)) pa_nil)))), ?_⟩
    refine ⟨.ref a, rfl, rd_ixT ha (by decide) (v := .ref l) rfl ⟨l, rfl, ?_⟩⟩
    refine lc_seq (xs := xs) (.inl (.inl (.inl hl))) (fun i D H1 => H1 D = some (.lst ((callsOf (lns.take i)).map V.str)) ∧ Mv [] H H1)
      (fun D nD => ⟨upd_same, .new nD⟩) (fun i D H1 nD h1 => h1.2) (fun D nD i x H1 hx h1 => ?_) (fun D H1 nD h1 => ?_)
    · obtain ⟨e1, m1⟩ := h1
      obtain ⟨dd, hd, him⟩ := hxs.get hx
      rw [List.getElem?_map] at hd
      obtain ⟨e, he, rfl⟩ := Option.map_eq_some_iff.mp hd
      have hil := (List.getElem?_eq_some_iff.mp he).1
      have him := him.mv m1
      have htk : lns.take (i + 1) = lns.take i ++ [e] := by rw [List.take_add_one, he]; rfl
      have hc : callsOf (lns.take (i + 1)) = callsOf (lns.take i) ++ callsOf [e] := by
        rw [htk]
        exact List.filterMap_append
      cases e with
      | call z g =>
        obtain ⟨t, x0, x1, x2, x3, x4, rfl, ht, h0, h1, h2, h3, h4'⟩ := him.tup5
        cases h0.strI
        cases h1.strI
        refine ⟨rfl, .ref t, rfl, rd_ixT ht (by decide) (v := .str "call") rfl (Or.inl ⟨rfl, _, rfl, ?_⟩)⟩
        rw [show decide (V.str "call" = V.str "call") = true from decide_eq_true rfl]
        refine ⟨.ref t, rfl, rd_ixT ht (by decide) (v := .str z) rfl ⟨_, e1, ?_, ?_, m1.wr nD⟩⟩
        · rw [List.length_map]
          have := calls_len (lns.take i)
          rw [List.length_take] at this
          exact Nat.lt_of_le_of_lt (show _ ≤ 100 by omega) (by decide)
        · rw [upd_same, hc, List.map_append]
          rfl
      | back =>
        obtain ⟨t, x0, x1, rfl, ht, h0, h1⟩ := him.tup2
        cases h0.strI
        refine ⟨rfl, .ref t, rfl, rd_ixT ht (by decide) (v := .str "back") rfl (Or.inl ⟨rfl, _, rfl, ?_⟩)⟩
        rw [ne_str (by decide +kernel)]
        refine ⟨?_, m1⟩
        rw [hc, show callsOf [Ln.back] = [] from rfl, List.append_nil]
        exact e1
    · obtain ⟨e1, m1⟩ := h1
      rw [hln, List.take_length] at e1
      have hcl := calls_len lns
      refine ⟨D, callsOf lns, rfl, .inl (.inl e1), by omega, fun ps n nps hn => ?_⟩
      have m2 : Mv [] H1 (upd H1 ps (SetSO P w ps (fun j => decide (j ∈ callsOf lns)) n)) := .new nps
      have e2 : upd H1 ps (SetSO P w ps (fun j => decide (j ∈ callsOf lns)) n) ps = some (SetSO P w ps (fun j => decide (j ∈ callsOf lns)) n) := upd_same
      generalize upd H1 ps (SetSO P w ps (fun j => decide (j ∈ callsOf lns)) n) = H2 at m2 e2 ⊢
      refine ⟨ps, _, n, rfl, e2, by omega, fun ss p hs hnd hm hsl np => ?_⟩
      have m02 := m1.trans m2
      exact q p ss _ hnd (fun z => by rw [hm z]; simp) (m02.free np) (m02.trans (.new np)) upd_same
end
end Fm
/-! all that is called, how many are open at once -/
namespace Fm
open PySem PySem.Spec PyProof.Rows L2 SlX
local macro_rules | `(tactic| walk_at "nn") => `(tactic| dsimp only [tC, tNil, tCons, tCB, tCall, gName, tSeq, tAsg, tPar, tDrop, tRet])
local macro_rules | `(tactic| walk_at "nc") => `(tactic| dsimp only [tC, tNil, tCons, tCB, tCall])
section
variable {K : PySem.W.Frag} {H : Hp}
theorem strs_anyU (o : List Str) (u : Str) : ((o.map PyData.str).any fun z => PyData.eqv z (.str u)) = decide (u ∈ o) := by
  rw [List.any_map]
  have e : ((fun z => PyData.eqv z (.str u)) ∘ PyData.str) = fun z => z == u := by
    funext z
    simp [PyData.eqv]
  rw [e, Bool.eq_iff_iff]
  simp
theorem str_shapedU {x : Str} (h : PyData.strOk x = true) : SeqAt.shaped (.str x) = true := by
  show (PyData.canLay0 (.str x) && decide (PyData.depth (.str x) ≤ 64)) = true
  simp only [PyData.canLay0, PyData.depth, h]
  rfl
theorem rd_inU {a : Addr} {kn : List Str} {s : Str} {Q : VK} (ha : H a = some (.lst (kn.map V.str))) (hk : ∀ s ∈ kn, Nm s) (hs : Nm s) (h : Q (.bl (decide (s ∈ kn))) H) : rInG K (.str s) (.ref a) H Q :=
  Or.inl ⟨.str s, _, .str s, .lst (.inl (.inl ha)) (dp_strs kn), str_shapedU (nm_ok hs), strs_shaped fun s hs => nm_ok (hk s hs), by rw [strs_anyU]; exact h⟩
theorem rd_notInU {a : Addr} {kn : List Str} {s : Str} {Q : VK} (ha : H a = some (.lst (kn.map V.str))) (hk : ∀ s ∈ kn, Nm s) (hs : Nm s) (h : Q (.bl (!decide (s ∈ kn))) H) : rNotInG K (.str s) (.ref a) H Q :=
  Or.inl ⟨.str s, _, .str s, .lst (.inl (.inl ha)) (dp_strs kn), str_shapedU (nm_ok hs), strs_shaped fun s hs => nm_ok (hk s hs), by rw [strs_anyU]; exact h⟩
end
theorem bt_max : bootBuiltins "max" = some (.builtin "max") := by decide +kernel
def sp_allcalled (K : PySem.W.Frag) : Sp := fun vs H Q _ => ∃ (d : Addr) (zs : List FnA) (x : Str), vs = [.ref d, .str x] ∧ FnsAt K H d zs ∧ FnsOk (zs.map (·.r)) ∧ x ∈ zs.map (·.r.nm) ∧
  ∀ p (F : List Str) H', (∀ y ∈ F, Nm y) → (∀ y, y ∈ F ↔ ∃ l, Wk (clOf (zs.map (·.r))) x (l ++ [y])) → Mv [] H H' → H' p = some (.lst (F.map V.str)) → Q (.ref p) H'
def sp_open (K : PySem.W.Frag) (n : Nat) : Sp := fun vs H Q _ => ∃ (d : Addr) (zs : List FnA) (x : Str), vs = [.ref d, .str x] ∧ FnsAt K H d zs ∧ FnsOk (zs.map (·.r)) ∧ x ∈ zs.map (·.r.nm) ∧ (∀ l, Wk (clOf (zs.map (·.r))) x l → l.length < n) ∧
  ∀ r H', Opn (clOf (zs.map (·.r))) x r → Mv [] H H' → Q (.int r) H'
section
variable {P : Program} {w : World} {K : PySem.W.Frag} {mg : Str → Option Value} {base : Heap}
theorem called_facts {H : Hp} {d : Addr} {zs : List FnA} {z : FnA} (hA : FnsAt K H d zs) (hO : FnsOk (zs.map (·.r))) (hz : z ∈ zs) {ss : List Str} (n : ss.Nodup) (m : ∀ y, y ∈ ss ↔ y ∈ callsOf z.r.lns) : (∀ y, y ∈ ss ↔ y ∈ clOf (zs.map (·.r)) z.r.nm) ∧ (∀ y ∈ ss, y ∈ zs.map (·.r.nm)) ∧ ss.length ≤ 7 := by
  have hzr : z.r ∈ zs.map (·.r) := List.mem_map.mpr ⟨z, hz, rfl⟩
  have hnd : ((zs.map (·.r)).map (·.nm)).Nodup := by rw [List.map_map]; exact hA.nd
  have hm : ∀ y, y ∈ ss ↔ y ∈ clOf (zs.map (·.r)) z.r.nm := fun y => by rw [m y, cl_of hnd hzr]
  have hs : ∀ y ∈ ss, y ∈ zs.map (·.r.nm) := fun y hy => by
    have := cl_sub hO _ y ((hm y).mp hy)
    rwa [List.map_map] at this
  have h7 := nd_few n hs
  have hf := hO.few
  rw [List.length_map] at h7 hf
  exact ⟨hm, hs, by omega⟩
/-- called_by of a function that is there -/
theorem rd_calledby {H : Hp} {d : Addr} {zs : List FnA} {z : FnA} {Q : VK} {E : XK} (hA : FnsAt K H d zs) (hO : FnsOk (zs.map (·.r))) (hz : z ∈ zs)
    (q : ∀ p (ss : List Str) H', ss.Nodup → (∀ y, y ∈ ss ↔ y ∈ clOf (zs.map (·.r)) z.r.nm) → (∀ y ∈ ss, y ∈ zs.map (·.r.nm)) → ss.length ≤ 7 → H p = none → Mv [] H H' → H' p = some (.lst (ss.map V.str)) → Q (.ref p) H') :
    sp_calledby K [.ref z.a] H Q E := by
  have hzr : z.r ∈ zs.map (·.r) := List.mem_map.mpr ⟨z, hz, rfl⟩
  have hnd : ((zs.map (·.r)).map (·.nm)).Nodup := by rw [List.map_map]; exact hA.nd
  refine ⟨z.a, z.l, z.vs, z.r.lns, rfl, hA.tup z hz, hA.lst z hz, hA.ims z hz, hO.l9 _ hzr, fun p ss H' n m np mv e => ?_⟩
  have hm : ∀ y, y ∈ ss ↔ y ∈ clOf (zs.map (·.r)) z.r.nm := fun y => by rw [m y, cl_of hnd hzr]
  have hs : ∀ y ∈ ss, y ∈ zs.map (·.r.nm) := fun y hy => by
    have := cl_sub hO _ y ((hm y).mp hy)
    rwa [List.map_map] at this
  have h7 := nd_few n hs
  have hf := hO.few
  rw [List.length_map] at h7 hf
  exact q p ss H' n hm hs (by omega) np mv e
theorem ok_all_called (T : TX K mg) {k : Nat} : FnOk P w K mg base CX0 (k + 2) T.d_all_called.f T.d_all_called.fd P_all_called (sp_allcalled K) := by
  have G_called_by : FnOk P w K mg base CX0 1 T.d_called_by.f T.d_called_by.fd P_called_by (sp_calledby K) := ok_called_by T
  refine T.d_all_called.F.ok sc_all_called (fun vs H Q E h => ?_) (fun cdv A outer s H vs Q E hr h => ?_)
  · obtain ⟨_, _, _, rfl, _⟩ := h
    rfl
  · obtain ⟨d, zs, x, rfl, hA, hO, hx, q⟩ := h
    have hu65 := hu65_of hr
    have hu1 := hu1_of hr
    have hNm : ∀ y ∈ zs.map (·.r.nm), Nm y := fun y hy => by
      obtain ⟨z, hz, rfl⟩ := List.mem_map.mp hy
      exact hO.nm z.r (List.mem_map.mpr ⟨z, hz, rfl⟩)
    have hlen : (zs.map (·.r.nm)).length ≤ 7 := by
      have := hO.few
      rw [List.length_map] at this ⊢
      exact this
    obtain ⟨z, hz, rfl⟩ := List.mem_map.mp hx
    refine ⟨_, (pss_cons (ps_par (i := 2) (j := 3) rfl sc_all_called.nd rfl rfl (by decide) rfl rfl (pa_cons (pe_lst pa_nil) (pa_cons (pe_call G_called_by (hr.mono (by omega)) rfl T.d_called_by.g T.d_called_by.F.kp T.d_called_by.b .nil pass0 (pa_cons (pe_dget hu1 (pv 0) (pv 1) (fun _ _ => rfl)) pa_nil)) pa_nil)) rfl) (pss_cons (ps_while PassesOwn.never (pt_cmpR (r := rNeNil K) (op_neNil (Nat.lt_of_le_of_lt (Nat.le_add_right _ 65) hu65)) (pv 3) (pe_lst pa_nil) (nomark _)) (pss_cons (ps_set (i := 4) sc_all_called.nd rfl (Or.inl rfl) (pe_bm0 PySem.F.plainAttrs_list PySem.F.slot_list_pop PySem.F.type_list_pop mt_pop (pv 3))) (pss_one (ps_if (pt_cmpR (r := rNotInG K) (op_notInG hu65) (pv 4) (pv 2) rfl) (pss_cons (ps_expr (pe_bm PySem.F.plainAttrs_list PySem.F.slot_list_append PySem.F.type_list_append mt_append (pv 2) (pa_cons (pv 4) pa_nil))) (pss_one (ps_expr (pe_bm PySem.F.plainAttrs_list PySem.F.slot_list_extend PySem.F.type_list_extend (r := rExtG K) mt_extendG (pv 3) (pa_cons (pe_call G_called_by (hr.mono (by omega)) rfl T.d_called_by.g T.d_called_by.F.kp T.d_called_by.b .nil pass0 (pa_cons (pe_dget hu1 (pv 0) (pv 4) (fun _ _ => rfl)) pa_nil)) pa_nil))))) pss_nil)))) (pss_one (ps_ret (pv 2))))), ?_⟩
    refine ⟨Nat.zero_le _, fun pf npf => ?_⟩
    have mf : Mv [] H (upd H pf (.lst [])) := .new npf
    have ef : upd H pf (.lst []) pf = some (.lst []) := upd_same
    generalize upd H pf (.lst []) = H1 at mf ef ⊢
    have hA1 := hA.mv mf
    refine ⟨.ref d, rfl, .str z.r.nm, rfl, d, .ref z.a, rfl, hA1.get hz, ?_⟩
    walk_at "nc"
    refine rd_calledby hA1 hO hz fun pw ss H2 n2 c2 s2 l2 np2 m2 e2 => ?_
    have npw := mf.free np2
    have hne : pf ≠ pw := ne_of_none ef np2
    generalize hcl : clOf (zs.map (·.r)) = cl at c2 q
    refine ⟨.ref pf, .ref pw, rfl, ?_⟩
    refine ⟨fun m σ H3 => ∃ (F W : List Str) (y : Option V), σ = [some (.ref d), some (.str z.r.nm), some (.ref pf), some (.ref pw), y] ∧ H3 pf = some (.lst (F.map V.str)) ∧ H3 pw = some (.lst (W.map V.str)) ∧ F.Nodup ∧ (∀ u ∈ F, u ∈ zs.map (·.r.nm)) ∧ (∀ u ∈ W, u ∈ zs.map (·.r.nm)) ∧
        (∀ u, u ∈ F ∨ u ∈ W → ∃ l, Wk cl z.r.nm (l ++ [u])) ∧ (∀ u ∈ cl z.r.nm, u ∈ F ∨ u ∈ W) ∧ (∀ v ∈ F, ∀ u ∈ cl v, u ∈ F ∨ u ∈ W) ∧ m = (7 - F.length) * 8 + W.length ∧ m ≤ 100 ∧ Mv [] H H3,
      ⟨_, [], ss, none, rfl, m2.same _ _ ef, e2, List.nodup_nil, fun u hu => absurd hu List.not_mem_nil, s2, fun u hu => ?_, fun u hu => .inr ((c2 u).mpr hu), fun v hv => absurd hv List.not_mem_nil, rfl, by simp only [List.length_nil]; omega, mf.trans m2⟩, fun m σ H3 hW => ?_⟩
    · rcases hu with hu | hu
      · cases hu
      · exact ⟨[], (c2 u).mp hu, trivial⟩
    obtain ⟨F, W, y, rfl, eF, eW, nF, sF, sW, hre, hc1, hc2, hm, hm1, m3⟩ := hW
    refine ⟨.ref pw, rfl, Nat.zero_le _, fun q1 n1 => ⟨pw, q1, W.map V.str, rfl, rfl, .inl (.inl (same_new n1 _ _ eW)), .inl (.inl upd_same), ?_⟩⟩
    have m4 : Mv [] H (upd H3 q1 (.lst [])) := m3.trans (.new n1)
    have eF4 : upd H3 q1 (.lst []) pf = some (.lst (F.map V.str)) := same_new n1 _ _ eF
    have eW4 : upd H3 q1 (.lst []) pw = some (.lst (W.map V.str)) := same_new n1 _ _ eW
    generalize upd H3 q1 (.lst []) = H4 at m4 eF4 eW4 ⊢
    refine ⟨_, rfl, ?_⟩
    rcases List.eq_nil_or_concat W with rfl | ⟨W', u, rfl⟩
    · refine ⟨.ref pf, rfl, q pf F H4 (fun y hy => hNm y (sF y hy)) (fun y => ⟨fun hy => hre y (.inl hy), fun ⟨l, hl⟩ => ?_⟩) m4 eF4⟩
      exact closed_all (F := F) (fun u hu => (hc1 u hu).resolve_right List.not_mem_nil) (fun v hv u hu => (hc2 v hv u hu).resolve_right List.not_mem_nil) hl
    · rw [List.concat_eq_append] at *
      rw [show (!((W' ++ [u]).map V.str).isEmpty) = true by simp]
      refine ⟨fun σ' H' => ∃ m', m' < m ∧ _, fun _ _ h => h, ?_⟩
      refine ⟨.ref pw, rfl, .inl ⟨rfl, _, .inl (.inl eW4)⟩, pw, _, .str u, rfl, rfl, eW4, by simp, ?_⟩
      have m5 : Mv [] H (upd H4 pw (.lst ((W' ++ [u]).map V.str).dropLast)) := m4.wr npw
      have eW5 : upd H4 pw (.lst ((W' ++ [u]).map V.str).dropLast) pw = some (.lst (W'.map V.str)) := by rw [upd_same, List.map_append, List.map_singleton, List.dropLast_concat]
      have eF5 : upd H4 pw (.lst ((W' ++ [u]).map V.str).dropLast) pf = some (.lst (F.map V.str)) := by rw [upd_ne hne]; exact eF4
      generalize upd H4 pw (.lst ((W' ++ [u]).map V.str).dropLast) = H5 at m5 eW5 eF5 ⊢
      have hu := sW u (by simp)
      rw [List.length_append] at hm
      refine ⟨.str u, rfl, .ref pf, rfl, rd_notInU eF5 (fun y hy => hNm y (sF y hy)) (hNm u hu) ⟨_, rfl, ite2 (fun e => ?_) (fun e => ?_)⟩⟩
      · have nu : u ∉ F := by simpa using e
        have lF : F.length < 7 := by
          have := nd_few (ns := zs.map (·.r.nm)) (l := u :: F) (List.nodup_cons.mpr ⟨nu, nF⟩) (fun y hy => by
            rcases List.mem_cons.mp hy with rfl | hy
            · exact hu
            · exact sF y hy)
          simp only [List.length_cons] at this
          omega
        refine ⟨.ref pf, rfl, .inl ⟨rfl, _, .inl (.inl eF5)⟩, .str u, rfl, pf, _, _, rfl, rfl, eF5, by rw [List.length_map]; exact Nat.lt_of_le_of_lt (show F.length ≤ 100 by omega) (by decide), ?_⟩
        have m6 : Mv [] H (upd H5 pf (.lst (F.map V.str ++ [.str u]))) := m5.wr npf
        have eF6 : upd H5 pf (.lst (F.map V.str ++ [.str u])) pf = some (.lst ((F ++ [u]).map V.str)) := by rw [upd_same, List.map_append]; rfl
        have eW6 : upd H5 pf (.lst (F.map V.str ++ [.str u])) pw = some (.lst (W'.map V.str)) := by rw [upd_ne hne.symm]; exact eW5
        generalize upd H5 pf (.lst (F.map V.str ++ [.str u])) = H6 at m6 eF6 eW6 ⊢
        have hA6 := hA.mv m6
        obtain ⟨zu, hzu, rfl⟩ := List.mem_map.mp hu
        refine ⟨.ref pw, rfl, .inl ⟨rfl, _, .inl (.inl eW6)⟩, .ref d, rfl, .str zu.r.nm, rfl, d, .ref zu.a, rfl, hA6.get hzu, ?_⟩
        walk_at "nc"
        refine rd_calledby hA6 hO hzu fun p7 s7 H7 n7 c7 t7 l7 np7 m7 e7 => ?_
        rw [hcl] at c7
        have m07 := m6.trans m7
        refine Or.inl ⟨pw, p7, _, _, rfl, rfl, m7.same _ _ eW6, e7, ?_, ?_⟩
        · rw [List.length_map, List.length_map]
          exact Nat.le_trans (show W'.length + s7.length ≤ 1000 by omega) (by decide)
        · have eF7 := m7.same _ _ eF6
          refine ⟨(7 - (F ++ [zu.r.nm]).length) * 8 + (W' ++ s7).length, ?_, F ++ [zu.r.nm], W' ++ s7, _, rfl, ?_, ?_, ?_, ?_, ?_, ?_, ?_, ?_, rfl, ?_, m07.wr npw⟩
          · simp only [List.length_append, List.length_cons, List.length_nil] at hm ⊢
            omega
          · rw [upd_ne hne]; exact eF7
          · rw [upd_same, List.map_append]
          · rw [List.nodup_append]
            exact ⟨nF, by simp, fun a ha b hb => by
              rw [List.mem_singleton] at hb
              rintro rfl
              exact nu (hb ▸ ha)⟩
          · intro v hv
            rcases List.mem_append.mp hv with hv | hv
            · exact sF v hv
            · rw [List.mem_singleton] at hv
              rw [hv]
              exact hu
          · intro v hv
            rcases List.mem_append.mp hv with hv | hv
            · exact sW v (by simp [hv])
            · exact t7 v hv
          · intro v hv
            have old : v ∈ F ∨ v ∈ W' ++ [zu.r.nm] → ∃ l, Wk cl z.r.nm (l ++ [v]) := hre v
            rcases hv with hv | hv
            · rcases List.mem_append.mp hv with hv | hv
              · exact old (.inl hv)
              · exact old (.inr (by simp at hv; simp [hv]))
            · rcases List.mem_append.mp hv with hv | hv
              · exact old (.inr (by simp [hv]))
              · obtain ⟨l, hl⟩ := hre zu.r.nm (.inr (by simp))
                refine ⟨l ++ [zu.r.nm], ?_⟩
                rw [List.append_assoc]
                exact wk_app.mpr ⟨hl, (c7 v).mp hv, trivial⟩
          · intro v hv
            rcases hc1 v hv with h | h
            · exact .inl (by simp [h])
            · rcases List.mem_append.mp h with h | h
              · exact .inr (by simp [h])
              · exact .inl (by simp at h; simp [h])
          · intro a ha v hv
            rcases List.mem_append.mp ha with ha | ha
            · rcases hc2 a ha v hv with h | h
              · exact .inl (by simp [h])
              · rcases List.mem_append.mp h with h | h
                · exact .inr (by simp [h])
                · exact .inl (by simp at h; simp [h])
            · rw [List.mem_singleton] at ha
              rw [ha] at hv
              exact .inr (by simp [(c7 v).mpr hv])
          · simp only [List.length_append, List.length_cons, List.length_nil] at hm ⊢
            omega
      · have nu : u ∈ F := by simpa using e
        refine ⟨(7 - F.length) * 8 + W'.length, by simp only [List.length_cons, List.length_nil] at hm; omega, F, W', _, rfl, eF5, eW5, nF, sF, fun v hv => sW v (by simp [hv]), fun v hv => hre v ?_, fun v hv => ?_, fun a ha v hv => ?_, rfl, by simp only [List.length_cons, List.length_nil] at hm; omega, m5⟩
        · rcases hv with hv | hv
          · exact .inl hv
          · exact .inr (by simp [hv])
        · rcases hc1 v hv with h | h
          · exact .inl h
          · rcases List.mem_append.mp h with h | h
            · exact .inr h
            · rw [List.mem_singleton] at h
              exact .inl (h ▸ nu)
        · rcases hc2 a ha v hv with h | h
          · exact .inl h
          · rcases List.mem_append.mp h with h | h
            · exact .inr h
            · rw [List.mem_singleton] at h
              exact .inl (h ▸ nu)
theorem ok_open_at_once (T : TX K mg) : ∀ (n : Nat) {k : Nat}, FnOk P w K mg base CX0 (k + n + 2) T.d_open_at_once.f T.d_open_at_once.fd P_open_at_once (sp_open K n) := by
  intro n
  induction n with
  | zero =>
    intro k
    refine T.d_open_at_once.F.ok sc_open_at_once (fun vs H Q E h => ?_) (fun cdv A outer s H vs Q E hr h => ?_)
    · obtain ⟨_, _, _, rfl, _⟩ := h
      rfl
    · obtain ⟨_, _, _, _, _, _, _, h, _⟩ := h
      exact absurd (h [] trivial) (Nat.lt_irrefl _)
  | succ n ih =>
    intro k
    have G_called_by : FnOk P w K mg base CX0 1 T.d_called_by.f T.d_called_by.fd P_called_by (sp_calledby K) := ok_called_by T
    have G_open_at_once : FnOk P w K mg base CX0 (k + n + 2) T.d_open_at_once.f T.d_open_at_once.fd P_open_at_once (sp_open K n) := ih
    refine T.d_open_at_once.F.ok sc_open_at_once (fun vs H Q E h => ?_) (fun cdv A outer s H vs Q E hr h => ?_)
    · obtain ⟨_, _, _, rfl, _⟩ := h
      rfl
    · obtain ⟨d, zs, x, rfl, hA, hO, hx, hb, q⟩ := h
      have hu1 := hu1_of hr
      obtain ⟨z, hz, rfl⟩ := List.mem_map.mp hx
      refine ⟨_, (pss_one (ps_ret (pe_op (r := rAddG K) op_addG pe_int (pe_callB (r := rMax K) (cr_max rfl) (by rfl) T.b_max bt_max (pa_cons (pe_op (r := rAddG K) op_addG (pe_lst (pa_cons pe_int pa_nil)) (pe_lc (own := [("one", 2)]) (g := gName 2) (by rfl) sc_open_at_once.nd (pi_seq (pe_call G_called_by (hr.mono (by omega)) rfl T.d_called_by.g T.d_called_by.F.kp T.d_called_by.b .nil pass0 (pa_cons (pe_dget hu1 (pv 0) (pv 1) (fun _ _ => rfl)) pa_nil))) (blkOk_by (own := [("one", 2)]) (N := N_open_at_once) (sc := defScope s_open_at_once) (by decide +kernel)) (fun _ _ _ _ _ => pg_name (i := 2) sc_open_at_once.nd rfl (Or.inl rfl)) (fun _ _ _ _ _ => pts_nil) (fun _ _ _ _ _ => (pe_call G_open_at_once (hr.mono (by omega)) rfl T.d_open_at_once.g T.d_open_at_once.F.kp T.d_open_at_once.b .nil pass0 (pa_cons (pv 0) (pa_cons (pv 2) pa_nil)))))) pa_nil))))), ?_⟩
      refine ⟨(by decide : 1 ≤ sizeLine), fun p0 np0 => ?_⟩
      have m0 : Mv [] H (upd H p0 (.lst [.int 0])) := .new np0
      have e0 : upd H p0 (.lst [.int 0]) p0 = some (.lst [.int 0]) := upd_same
      generalize upd H p0 (.lst [.int 0]) = H1 at m0 e0 ⊢
      have hA1 := hA.mv m0
      refine ⟨.ref d, rfl, .str z.r.nm, rfl, d, .ref z.a, rfl, hA1.get hz, ?_⟩
      have hzr : z.r ∈ zs.map (·.r) := List.mem_map.mpr ⟨z, hz, rfl⟩
      refine ⟨z.a, z.l, z.vs, z.r.lns, rfl, hA1.tup z hz, hA1.lst z hz, hA1.ims z hz, hO.l9 _ hzr, fun p2 ss H2 n2 c2 np2 m2 e2 => ⟨p2, rfl, ?_⟩⟩
      obtain ⟨c2, s2, l2⟩ := called_facts hA hO hz n2 c2
      have hA2 := hA1.mv m2
      generalize hcl : clOf (zs.map (·.r)) = cl at c2 q hb
      refine lc_seq (xs := ss.map V.str) (.inl (.inl (.inl e2))) (fun i D H3 => ∃ rs : List Int, H3 D = some (.lst (rs.map V.int)) ∧ rs.length = i ∧ (∀ (j : Nat) (r : Int), rs[j]? = some r → ∃ y, ss[j]? = some y ∧ Opn cl y r) ∧ Mv [] H2 H3)
        (fun D nD => ⟨[], upd_same, rfl, fun j r h => by simp at h, .new nD⟩) (fun i D H3 nD h3 => h3.choose_spec.2.2.2) (fun D nD i y H3 hy h3 => ?_) (fun D H3 nD h3 => ?_)
      · obtain ⟨rs, e3, l3, o3, m3⟩ := h3
        rw [List.getElem?_map] at hy
        obtain ⟨y, hyy, rfl⟩ := Option.map_eq_some_iff.mp hy
        have hys := List.mem_of_getElem? hyy
        have hil := (List.getElem?_eq_some_iff.mp hyy).1
        refine ⟨rfl, .ref d, rfl, .str y, rfl, d, zs, y, rfl, hA2.mv m3, hO, s2 y hys, fun l hl => ?_, fun r H4 hr4 m4 => ?_⟩
        · rw [hcl] at hl
          have := hb (y :: l) ⟨(c2 y).mp hys, hl⟩
          simp only [List.length_cons] at this
          omega
        · rw [hcl] at hr4
          refine ⟨_, m4.same _ _ e3, ?_, rs ++ [r], ?_, by simp [l3], fun j t ht => ?_, (m3.trans m4).wr nD⟩
          · rw [List.length_map]
            exact Nat.lt_of_le_of_lt (show rs.length ≤ 100 by omega) (by decide)
          · rw [upd_same, List.map_append]
            rfl
          · rcases Nat.lt_trichotomy j rs.length with h | h | h
            · rw [List.getElem?_append_left h] at ht
              exact o3 j t ht
            · rw [h, List.getElem?_append_right (Nat.le_refl _), Nat.sub_self] at ht
              cases ht
              exact ⟨y, by rw [h, l3]; exact hyy, hr4⟩
            · rw [List.getElem?_eq_none (by simp; omega)] at ht
              cases ht
      · obtain ⟨rs, e3, l3, o3, m3⟩ := h3
        rw [List.length_map] at l3
        refine rd_catL ((m2.trans m3).same _ _ e0) e3 (by rw [List.length_map]; exact Nat.le_trans (show 1 + rs.length ≤ 1000 by omega) (by decide)) fun p4 H4 np4 m4 e4 => ?_
        refine ⟨p4, 0 :: rs, rfl, .inl (.inl e4), by simp, fun m hm ht => Or.inl ⟨_, _, rfl, rfl, ?_⟩⟩
        refine q (1 + m) H4 (opn_step (fun r hr => ?_) (fun y hy => ?_) hm ht) (m0.trans (m2.trans (m3.trans m4)))
        · obtain ⟨j, hj⟩ := List.getElem?_of_mem hr
          obtain ⟨y, hy, o⟩ := o3 j r hj
          exact ⟨y, (c2 y).mp (List.mem_of_getElem? hy), o⟩
        · obtain ⟨j, hj⟩ := List.getElem?_of_mem ((c2 y).mpr hy)
          have hjl := (List.getElem?_eq_some_iff.mp hj).1
          obtain ⟨y', hy', o⟩ := o3 j (rs[j]'(by omega)) (List.getElem?_eq_getElem _)
          rw [hj] at hy'
          cases hy'
          exact ⟨_, List.getElem_mem _, o⟩
end
end Fm
/-! the first bad name; a Unit -/
namespace Fm
open PySem PySem.Spec PyProof.Rows L2 SlX
local macro_rules | `(tactic| walk_at "nn") => `(tactic| dsimp only [tC, tNil, tCons, tCB, tCall, gName, tSeq, tAsg, tPar, tDrop, tRet])
local macro_rules | `(tactic| walk_at "nc") => `(tactic| dsimp only [tC, tNil, tCons, tCB, tCall])
section
variable {H0 H : Hp} {x dx C : Addr} {vs : List (Option V)}
theorem Mv.slU (m : Mv [] H0 H) (nx : H0 x = none) (ndx : H0 dx = none) : Mv [] H0 (slH H x C dx vs) := by
  unfold slH
  exact (m.wr ndx).wr nx
theorem slH_xU : slH H x C dx vs x = some (SlO x C dx vs) := upd_same
theorem slH_dxU (hne : dx ≠ x) : slH H x C dx vs dx = some (.xd []) := by
  unfold slH
  rw [upd_ne hne]
  exact upd_same
end
/-- the names in order -/
def ssOf (ns : List Str) : List Str := srt leS id ns
theorem ss_of {ns ys : List Str} (n : ns.Nodup) (p : ys.Perm ns) (s : sortedS ys = true) : ys = ssOf ns := by
  have := srt_keys (k := id) totS (xs := ns) (by simpa using n) (ys := ys) (by simpa using p) (sortedS_pw ys s)
  simpa [ssOf] using this
theorem ss_mem {ns : List Str} {x : Str} : x ∈ ssOf ns ↔ x ∈ ns := srt_mem
theorem ss_nd {ns : List Str} (n : ns.Nodup) : (ssOf ns).Nodup := by
  have := srt_nd (le := leS) (k := id) (xs := ns) (by simpa using n)
  simpa [ssOf] using this
theorem ss_perm {ns ms : List Str} (n : ns.Nodup) (p : ms.Perm ns) : ssOf ms = ssOf ns := by
  have h1 : (ssOf ms).Perm ns := (srt_perm ms).trans p
  have hp := srt_pw (le := leS) (k := id) totS ms
  have := srt_one (k := id) totS (xs := ns) (by simpa using n) h1 hp
  exact this
def badV : Option Str → V
  | none => .non
  | some y => .str y
theorem find_first {α : Type} {p : α → Bool} : ∀ {xs : List α} {i : Nat} {x : α}, xs[i]? = some x → p x = true → (∀ (j : Nat) (y : α), j < i → xs[j]? = some y → p y = false) → xs.find? p = some x
  | [], i, x, h, _, _ => by simp at h
  | z :: xs, 0, x, h, hp, _ => by
    cases h
    rw [List.find?_cons, hp]
  | z :: xs, i + 1, x, h, hp, hj => by
    rw [List.find?_cons, hj 0 z (by omega) rfl]
    exact find_first (i := i) (by simpa using h) hp fun j y hj' hy => hj (j + 1) y (by omega) (by simpa using hy)
theorem find_no {α : Type} {p : α → Bool} {xs : List α} (h : ∀ (j : Nat) (y : α), xs[j]? = some y → p y = false) : xs.find? p = none := by
  rw [List.find?_eq_none]
  intro x hx
  obtain ⟨j, hj⟩ := List.getElem?_of_mem hx
  rw [h j x hj]
  simp
open Classical in
theorem bad_cyc {cl : Str → List Str} {ss : List Str} {i : Nat} {x : Str} (h : ss[i]? = some x) (hc : Cyc cl x) (hj : ∀ (j : Nat) (y : Str), j < i → ss[j]? = some y → ¬ Cyc cl y) : badOf cl ss = some x := by
  unfold badOf
  rw [find_first h (decide_eq_true hc) fun j y hj' hy => decide_eq_false (hj j y hj' hy)]
  rfl
open Classical in
theorem bad_far {cl : Str → List Str} {ss : List Str} {i : Nat} {x : Str} (hn : ∀ y ∈ ss, ¬ Cyc cl y) (h : ss[i]? = some x) (hc : Far cl x) (hj : ∀ (j : Nat) (y : Str), j < i → ss[j]? = some y → ¬ Far cl y) : badOf cl ss = some x := by
  unfold badOf
  rw [find_no (fun j y hy => decide_eq_false (hn y (List.mem_of_getElem? hy))), find_first h (decide_eq_true hc) fun j y hj' hy => decide_eq_false (hj j y hj' hy)]
  rfl
open Classical in
theorem bad_no {cl : Str → List Str} {ss : List Str} (hn : ∀ y ∈ ss, ¬ Cyc cl y) (hf : ∀ y ∈ ss, ¬ Far cl y) : badOf cl ss = none := by
  unfold badOf
  rw [find_no (fun j y hy => decide_eq_false (hn y (List.mem_of_getElem? hy))), find_no (fun j y hy => decide_eq_false (hf y (List.mem_of_getElem? hy)))]
  rfl
def sp_firstbad (K : PySem.W.Frag) : Sp := fun vs H Q _ => ∃ (x : V) (d : Addr) (zs : List FnA), vs = [x, .ref d] ∧ FnsAt K H d zs ∧ FnsOk (zs.map (·.r)) ∧ ∀ H', Mv [] H H' → Q (badV (badOf (clOf (zs.map (·.r))) (ssOf (zs.map (·.r.nm))))) H'
def sp_orderedL (K : PySem.W.Frag) : Sp := fun vs H Q _ => ∃ (v : V) (e : Ln), vs = [v] ∧ Im K H v e.d ∧ Q v H
def sp_tidy (K : PySem.W.Frag) : Sp := fun vs H Q _ => ∃ (a l : Addr) (xs : List V) (lns : List Ln), vs = [.ref a] ∧ SqT K H a [.int 0, .int 0, .int 0, .ref l] ∧ H l = some (.lst xs) ∧ Ims K H xs (lns.map Ln.d) ∧ lns.length ≤ 4 ∧ ∀ v H', Mv [] H H' → Q v H'
/-- a Unit with these names -/
def UntAt (H : Hp) (C x : Addr) (ss : List Str) : Prop := ∃ dx df wx kvs, Slt H x C dx [some (.ref df), some (.ref wx)] ∧ H df = some (.dK kvs) ∧ kvs.map (·.1) = ss.map Sum.inr
def sp_Unit (K : PySem.W.Frag) (C CW B : Addr) : Sp := fun vs H Q E => ∃ (x dx wx d : Addr) (rs : List ActR) (zs : List FnA) (H0 : Hp), vs = [.ref x, .ref wx, .ref d] ∧ H = upd (upd H0 dx (.own x)) x (.ins C dx []) ∧ H0 x = none ∧ H0 dx = none ∧ dx ≠ x ∧ WldAt K H0 CW wx rs ∧ FnsAt K H0 d zs ∧ FnsOk (zs.map (·.r)) ∧
  (badOf (clOf (zs.map (·.r))) (ssOf (zs.map (·.r.nm))) = none → ∀ H', Mv [] H0 H' → UntAt H' C x (ssOf (zs.map (·.r.nm))) → Q .non H') ∧
  (∀ y, badOf (clOf (zs.map (·.r))) (ssOf (zs.map (·.r.nm))) = some y → ∀ dd H', Mv [] H0 H' → H' dd = none → E (.ref B) (some dd) (upd H' dd (.xd [("name", .str y)])))
def sp_Ufuns (C : Addr) : Sp := fun vs H Q _ => ∃ (x : Addr) (ss : List Str), vs = [.ref x] ∧ UntAt H C x ss ∧ ∀ p, H p = none → Q (.ref p) (upd H p (.lst (ss.map V.str)))
section
variable {P : Program} {w : World} {K : PySem.W.Frag} {mg : Str → Option Value} {base : Heap}
theorem ok_first_bad (T : TX K mg) {k : Nat} : FnOk P w K mg base CX0 (k + 11) T.d_first_bad.f T.d_first_bad.fd P_first_bad (sp_firstbad K) := by
  have G_is_function : FnOk P w K mg base CX0 3 T.d_is_function.f T.d_is_function.fd P_is_function (sp_isfun K) := ok_is_function T
  have G_is_line : FnOk P w K mg base CX0 6 T.d_is_line.f T.d_is_line.fd P_is_line (sp_isline K) := ok_is_line T
  have G_all_called : FnOk P w K mg base CX0 2 T.d_all_called.f T.d_all_called.fd P_all_called (sp_allcalled K) := ok_all_called T
  have G_open_at_once : FnOk P w K mg base CX0 10 T.d_open_at_once.f T.d_open_at_once.fd P_open_at_once (sp_open K 8) := ok_open_at_once (k := 0) T 8
  refine T.d_first_bad.F.ok sc_first_bad (fun vs H Q E h => ?_) (fun cdv A outer s H vs Q E hr h => ?_)
  · obtain ⟨_, _, _, rfl, _⟩ := h
    rfl
  · obtain ⟨x, d, zs, rfl, hA, hO, q⟩ := h
    have hu65 := hu65_of hr
    have hu1 := hu1_of hr
    have hNm : ∀ y ∈ zs.map (·.r.nm), Nm y := fun y hy => by
      obtain ⟨z, hz, rfl⟩ := List.mem_map.mp hy
      exact hO.nm z.r (List.mem_map.mpr ⟨z, hz, rfl⟩)
    have hlen : (zs.map (·.r.nm)).length ≤ 7 := by
      have := hO.few
      rw [List.length_map] at this ⊢
      exact this
    have hlz : (zs.map (·.r.nm)).length < 64 := by omega
    have hsub : ∀ u, ∀ y ∈ clOf (zs.map (·.r)) u, y ∈ zs.map (·.r.nm) := fun u y hy => by
      have := cl_sub hO u y hy
      rwa [List.map_map] at this
    generalize hcl : clOf (zs.map (·.r)) = cl at q hsub
    obtain ⟨ss, hss⟩ : ∃ ss, ss = ssOf (zs.map (·.r.nm)) := ⟨_, rfl⟩
    rw [← hss] at q
    have inS : ∀ {y : Str}, y ∈ ss → ∃ z ∈ zs, z.r.nm = y := fun {y} hy => by
      rw [hss, ss_mem] at hy
      obtain ⟨z, hz, e⟩ := List.mem_map.mp hy
      exact ⟨z, hz, e⟩
    refine ⟨_, (pss_cons (ps_for PassesOwn.never rfl (pi_seq (pe_callB (r := rSortA K) (cr_sortA rfl) (by rfl) T.b_sorted bt_sorted (pa_cons (pv 1) pa_nil))) (pg_name (i := 2) sc_first_bad.nd rfl (Or.inr rfl)) (pss_one (ps_if (pt_not (pt_val (pe_call G_is_function (hr.mono (by omega)) rfl T.d_is_function.g T.d_is_function.F.kp T.d_is_function.b .nil pass0 (pa_cons (pe_dget hu1 (pv 1) (pv 2) (fun _ _ => rfl)) pa_nil)))) (pss_one (ps_ret (pv 2))) pss_nil))) (pss_cons (ps_for PassesOwn.never rfl (pi_seq (pe_callB (r := rSortA K) (cr_sortA rfl) (by rfl) T.b_sorted bt_sorted (pa_cons (pv 1) pa_nil))) (pg_name (i := 2) sc_first_bad.nd rfl (Or.inr rfl)) (pss_one (ps_if (pt_not (pt_val (pe_callB (r := rAll K) (cr_all rfl) (by rfl) T.b_all bt_all (pa_cons (pe_lc (own := [("line", 3)]) (g := gName 3) (by rfl) sc_first_bad.nd (pi_seq (pe_ix (r := rIx K) ix_seq (pe_dget hu1 (pv 1) (pv 2) (fun _ _ => rfl)) pe_int (fun _ _ => rfl))) (blkOk_by (own := [("line", 3)]) (N := N_first_bad) (sc := defScope s_first_bad) (by decide +kernel)) (fun _ _ _ _ _ => pg_name (i := 3) sc_first_bad.nd rfl (Or.inl rfl)) (fun _ _ _ _ _ => pts_nil) (fun _ _ _ _ _ => (pe_call G_is_line (hr.mono (by omega)) rfl T.d_is_line.g T.d_is_line.F.kp T.d_is_line.b .nil pass0 (pa_cons (pv 0) (pa_cons (pv 1) (pa_cons (pe_dget hu1 (pv 1) (pv 2) (fun _ _ => rfl)) (pa_cons (pv 3) pa_nil))))))) pa_nil)))) (pss_one (ps_ret (pv 2))) pss_nil))) (pss_cons (ps_for PassesOwn.never rfl (pi_seq (pe_callB (r := rSortA K) (cr_sortA rfl) (by rfl) T.b_sorted bt_sorted (pa_cons (pv 1) pa_nil))) (pg_name (i := 2) sc_first_bad.nd rfl (Or.inr rfl)) (pss_one (ps_if (pt_cmpR (r := rInG K) (op_inG hu65) (pv 2) (pe_call G_all_called (hr.mono (by omega)) rfl T.d_all_called.g T.d_all_called.F.kp T.d_all_called.b .nil pass0 (pa_cons (pv 1) (pa_cons (pv 2) pa_nil))) rfl) (pss_one (ps_ret (pv 2))) pss_nil))) (pss_cons (ps_for PassesOwn.never rfl (pi_seq (pe_callB (r := rSortA K) (cr_sortA rfl) (by rfl) T.b_sorted bt_sorted (pa_cons (pv 1) pa_nil))) (pg_name (i := 2) sc_first_bad.nd rfl (Or.inr rfl)) (pss_one (ps_if (pt_cmpR op_gt (pe_call G_open_at_once (hr.mono (by omega)) rfl T.d_open_at_once.g T.d_open_at_once.F.kp T.d_open_at_once.b .nil pass0 (pa_cons (pv 1) (pa_cons (pv 2) pa_nil))) (pe_glob rfl T.c_MOST_DEEP T.r_MOST_DEEP) (nomark _)) (pss_one (ps_ret (pv 2))) pss_nil))) (pss_one (ps_ret pe_non)))))), ?_⟩
    -- each is a function
    refine ⟨.ref d, rfl, Or.inl ⟨d, _, zs.map (·.r.nm), rfl, .inl hA.at_, fk_keys zs, hlz, fun ys p hp hs np => ⟨p, rfl, ?_⟩⟩⟩
    have hys := ss_of hA.nd hp hs
    rw [← hss] at hys
    subst hys
    refine for_seq (xs := ys.map V.str) (.inl (.inl (.inl upd_same))) (fun i σ H4 => ∃ y, σ = [some x, some (.ref d), y, none] ∧ Mv [] (upd H p (.lst (ys.map V.str))) H4)
      ⟨none, rfl, .refl⟩ (fun i σ H4 h4 => h4.choose_spec.2) (fun i y σ H4 hy h4 => ?_) (fun σ H4 h4 => ?_)
    · obtain ⟨y0, rfl, m4⟩ := h4
      rw [List.getElem?_map] at hy
      obtain ⟨y, hyy, rfl⟩ := Option.map_eq_some_iff.mp hy
      obtain ⟨z, hz, rfl⟩ := inS (List.mem_of_getElem? hyy)
      have hA4 := hA.mv ((Mv.new np).trans m4)
      have hzr : z.r ∈ zs.map (·.r) := List.mem_map.mpr ⟨z, hz, rfl⟩
      have hvl : z.vs.length = z.r.lns.length := by
        have := (hA4.ims z hz).length
        rwa [List.length_map] at this
      refine ⟨.ref d, rfl, .str z.r.nm, rfl, d, .ref z.a, rfl, hA4.get hz, ?_⟩
      refine ⟨z.a, z.l, z.vs, rfl, hA4.tup z hz, hA4.lst z hz, by have := hO.l1 _ hzr; omega, fun H5 m5 => ?_⟩
      exact ⟨_, rfl, _, rfl, m4.trans m5⟩
    obtain ⟨y1, rfl, m4⟩ := h4
    have m04 := (Mv.new (o := .lst (ys.map V.str)) np).trans m4
    clear m4 hp hs
    have hA4 := hA.mv m04
    -- each line
    refine ⟨.ref d, rfl, Or.inl ⟨d, _, zs.map (·.r.nm), rfl, .inl hA4.at_, fk_keys zs, hlz, fun ys2 p2 hp hs np2 => ⟨p2, rfl, ?_⟩⟩⟩
    have hys := ss_of hA.nd hp hs
    rw [← hss] at hys
    subst hys
    refine for_seq (xs := ys2.map V.str) (.inl (.inl (.inl upd_same))) (fun i σ H5 => ∃ y, σ = [some x, some (.ref d), y, none] ∧ Mv [] (upd H4 p2 (.lst (ys2.map V.str))) H5)
      ⟨y1, rfl, .refl⟩ (fun i σ H5 h5 => h5.choose_spec.2) (fun i y σ H5 hy h5 => ?_) (fun σ H5 h5 => ?_)
    · obtain ⟨y0, rfl, m5⟩ := h5
      rw [List.getElem?_map] at hy
      obtain ⟨y, hyy, rfl⟩ := Option.map_eq_some_iff.mp hy
      obtain ⟨z, hz, rfl⟩ := inS (List.mem_of_getElem? hyy)
      have hA5 := hA4.mv ((Mv.new np2).trans m5)
      have hzr : z.r ∈ zs.map (·.r) := List.mem_map.mpr ⟨z, hz, rfl⟩
      have hvl : z.vs.length = z.r.lns.length := by
        have := (hA5.ims z hz).length
        rwa [List.length_map] at this
      have hl9 := hO.l9 _ hzr
      refine ⟨.ref d, rfl, .str z.r.nm, rfl, d, .ref z.a, rfl, hA5.get hz, ?_⟩
      refine rd_ixT (hA5.tup z hz) (by decide) (v := .ref z.l) rfl ⟨z.l, rfl, ?_⟩
      refine lc_seq (xs := z.vs) (.inl (.inl (.inl (hA5.lst z hz)))) (fun i D H6 => H6 D = some (.lst ((List.replicate i true).map V.bl)) ∧ Mv [] H5 H6)
        (fun D nD => ⟨upd_same, .new nD⟩) (fun i D H6 nD h6 => h6.2) (fun D nD i v H6 hv h6 => ?_) (fun D H6 nD h6 => ?_)
      · obtain ⟨e6, m6⟩ := h6
        obtain ⟨dd, hd, him⟩ := (hA5.ims z hz).get hv
        rw [List.getElem?_map] at hd
        obtain ⟨e, he, rfl⟩ := Option.map_eq_some_iff.mp hd
        have hil := (List.getElem?_eq_some_iff.mp hv).1
        have hA6 := hA5.mv m6
        refine ⟨rfl, x, rfl, .ref d, rfl, .ref d, rfl, .str z.r.nm, rfl, d, .ref z.a, rfl, hA6.get hz, v, rfl, ?_⟩
        have hok := hO.ok _ hzr e (List.mem_of_getElem? he)
        rw [List.map_map, ← hvl] at hok
        refine ⟨x, d, z.a, z.l, zs, z.vs, v, e, rfl, hA6, fun u hu => hNm _ (List.mem_map.mpr ⟨u, hu, rfl⟩), hA6.tup z hz, hA6.lst z hz, by omega, him.mv m6, hok, fun H7 m7 => ?_⟩
        refine ⟨_, m7.same _ _ e6, ?_, ?_, (m6.trans m7).wr nD⟩
        · rw [List.length_map, List.length_replicate]
          exact Nat.lt_of_le_of_lt (show i ≤ 1000 by omega) (by decide)
        · rw [upd_same, List.replicate_succ', List.map_append]
          rfl
      · obtain ⟨e6, m6⟩ := h6
        refine ⟨D, List.replicate z.vs.length true, rfl, .inl (.inl e6), ?_⟩
        rw [show (List.replicate z.vs.length true).all id = true by simp]
        exact ⟨_, rfl, _, rfl, m5.trans m6⟩
    obtain ⟨y2, rfl, m5⟩ := h5
    have m05 := m04.trans ((Mv.new (o := .lst (ys2.map V.str)) np2).trans m5)
    clear m5 hp hs
    have hA5 := hA.mv m05
    -- rings
    refine ⟨.ref d, rfl, Or.inl ⟨d, _, zs.map (·.r.nm), rfl, .inl hA5.at_, fk_keys zs, hlz, fun ys3 p3 hp hs np3 => ⟨p3, rfl, ?_⟩⟩⟩
    have hys := ss_of hA.nd hp hs
    rw [← hss] at hys
    subst hys
    refine for_seq (xs := ys3.map V.str) (.inl (.inl (.inl upd_same))) (fun i σ H6 => ∃ y, σ = [some x, some (.ref d), y, none] ∧ (∀ (j : Nat) (u : Str), j < i → ys3[j]? = some u → ¬ Cyc cl u) ∧ Mv [] (upd H5 p3 (.lst (ys3.map V.str))) H6)
      ⟨y2, rfl, fun j u hj => absurd hj (Nat.not_lt_zero _), .refl⟩ (fun i σ H6 h6 => h6.choose_spec.2.2) (fun i y σ H6 hy h6 => ?_) (fun σ H6 h6 => ?_)
    · obtain ⟨y0, rfl, n6, m6⟩ := h6
      rw [List.getElem?_map] at hy
      obtain ⟨y, hyy, rfl⟩ := Option.map_eq_some_iff.mp hy
      have hyn : y ∈ zs.map (·.r.nm) := by
        obtain ⟨z, hz, rfl⟩ := inS (List.mem_of_getElem? hyy)
        exact List.mem_map.mpr ⟨z, hz, rfl⟩
      have m06 := m05.trans ((Mv.new np3).trans m6)
      refine ⟨.str y, rfl, .ref d, rfl, .str y, rfl, d, zs, y, rfl, hA.mv m06, hO, hyn, fun p7 F H7 nF cF m7 e7 => ?_⟩
      rw [hcl] at cF
      refine rd_inU e7 nF (hNm y hyn) ⟨_, rfl, ite2 (fun e => ?_) (fun e => ?_)⟩
      · have hc : Cyc cl y := (cF y).mp (by simpa using e)
        refine ⟨.str y, rfl, ?_⟩
        have := q H7 (m06.trans m7)
        rw [bad_cyc hyy hc n6] at this
        exact this
      · have hc : ¬ Cyc cl y := fun h => by
          have := (cF y).mpr h
          simp at e
          exact e this
        refine ⟨_, rfl, fun j u hj hu => ?_, m6.trans m7⟩
        rcases Nat.lt_succ_iff_lt_or_eq.mp hj with h | h
        · exact n6 j u h hu
        · rw [h, hyy] at hu
          cases hu
          exact hc
    obtain ⟨y3, rfl, n6, m6⟩ := h6
    have m06 := m05.trans ((Mv.new (o := .lst (ys3.map V.str)) np3).trans m6)
    rw [List.length_map] at n6
    have hcy : ∀ u ∈ ys3, ¬ Cyc cl u := fun u hu => by
      obtain ⟨j, hj⟩ := List.getElem?_of_mem hu
      exact n6 j u (List.getElem?_eq_some_iff.mp hj).1 hj
    have hcn : ∀ u ∈ zs.map (·.r.nm), ¬ Cyc cl u := fun u hu => hcy u (by rw [hss, ss_mem]; exact hu)
    clear m6 hp hs n6
    have hA6 := hA.mv m06
    -- how deep
    refine ⟨.ref d, rfl, Or.inl ⟨d, _, zs.map (·.r.nm), rfl, .inl hA6.at_, fk_keys zs, hlz, fun ys4 p4 hp hs np4 => ⟨p4, rfl, ?_⟩⟩⟩
    have hys := ss_of hA.nd hp hs
    rw [← hss] at hys
    subst hys
    refine for_seq (xs := ys4.map V.str) (.inl (.inl (.inl upd_same))) (fun i σ H7 => ∃ y, σ = [some x, some (.ref d), y, none] ∧ (∀ (j : Nat) (u : Str), j < i → ys4[j]? = some u → ¬ Far cl u) ∧ Mv [] (upd H6 p4 (.lst (ys4.map V.str))) H7)
      ⟨y3, rfl, fun j u hj => absurd hj (Nat.not_lt_zero _), .refl⟩ (fun i σ H7 h7 => h7.choose_spec.2.2) (fun i y σ H7 hy h7 => ?_) (fun σ H7 h7 => ?_)
    · obtain ⟨y0, rfl, n7, m7⟩ := h7
      rw [List.getElem?_map] at hy
      obtain ⟨y, hyy, rfl⟩ := Option.map_eq_some_iff.mp hy
      have hyn : y ∈ zs.map (·.r.nm) := by
        obtain ⟨z, hz, rfl⟩ := inS (List.mem_of_getElem? hyy)
        exact List.mem_map.mpr ⟨z, hz, rfl⟩
      have m07 := m06.trans ((Mv.new np4).trans m7)
      refine ⟨.ref d, rfl, .str y, rfl, d, zs, y, rfl, hA.mv m07, hO, hyn, fun l hl => ?_, fun r H8 hr8 m8 => ?_⟩
      · rw [hcl] at hl
        have := acyc_bnd hsub hcn hl
        omega
      · rw [hcl] at hr8
        refine ⟨r, 3, rfl, rfl, ⟨_, rfl, ite2 (fun e => ?_) (fun e => ?_)⟩⟩
        · have hf : Far cl y := (opn_far hr8).mp (by simpa using e)
          refine ⟨.str y, rfl, ?_⟩
          have := q H8 (m07.trans m8)
          rw [bad_far hcy hyy hf n7] at this
          exact this
        · have hf : ¬ Far cl y := fun h => by
            have := (opn_far hr8).mpr h
            simp at e
            omega
          refine ⟨_, rfl, fun j u hj hu => ?_, m7.trans m8⟩
          rcases Nat.lt_succ_iff_lt_or_eq.mp hj with h | h
          · exact n7 j u h hu
          · rw [h, hyy] at hu
            cases hu
            exact hf
    obtain ⟨y4, rfl, n7, m7⟩ := h7
    rw [List.length_map] at n7
    have hfa : ∀ u ∈ ys4, ¬ Far cl u := fun u hu => by
      obtain ⟨j, hj⟩ := List.getElem?_of_mem hu
      exact n7 j u (List.getElem?_eq_some_iff.mp hj).1 hj
    have := q H7 (m06.trans ((Mv.new np4).trans m7))
    rw [bad_no hcy hfa] at this
    exact this
theorem ok_orderedL (T : TX K mg) {k : Nat} : FnOk P w K mg base CX0 (k + 4) T.d_ordered.f T.d_ordered.fd P_ordered (sp_orderedL K) := by
  have G_first_of : FnOk P w K mg base CX0 1 T.d_first_of.f T.d_first_of.fd P_first_of (sp_first_of K) := ok_first_of T
  refine T.d_ordered.F.ok sc_ordered (fun vs H Q E h => ?_) (fun cdv A outer s H vs Q E hr h => ?_)
  · obtain ⟨_, _, rfl, _⟩ := h
    rfl
  · obtain ⟨v, e, rfl, hv, q⟩ := h
    have hu64 := hr.units
    refine ⟨_, (pss_cons (ps_if (pt_cmpR (r := rEqG K) (op_eqG hu64) (pe_ix (r := rIx K) ix_seq (pv 0) pe_int (fun _ _ => rfl)) pe_str (nomark _)) (pss_one (ps_ret (pe_tup (pa_cons pe_str (pa_cons (pe_callTy (r := rTupOf K) call_tupG (by rfl) T.b_tuple bt_tuple (pa_cons (pe_callBK (r := rSortK K T.d_first_of.f (sp_first_of K)) (cr_sortKey (fnR_of G_first_of T.d_first_of.b) (hr.mono (by omega))) (by rfl) T.b_sorted bt_sorted (pa_cons (pe_ix (r := rIx K) ix_seq (pv 0) pe_int (fun _ _ => rfl)) pa_nil) (pk_cons (pe_glob rfl T.d_first_of.g (show L2.RelV (.ref T.d_first_of.f) _ from rfl)) pk_nil)) pa_nil)) (pa_cons (pe_ix (r := rIx K) ix_seq (pv 0) pe_int (fun _ _ => rfl)) pa_nil)))))) pss_nil) (pss_cons (ps_if (pt_cmpR (r := rEqG K) (op_eqG hu64) (pe_ix (r := rIx K) ix_seq (pv 0) pe_int (fun _ _ => rfl)) pe_str (nomark _)) (pss_one (ps_ret (pe_op (r := rAddG K) op_addG (pe_slice (r := rSlG K) sl_G (pv 0) po_none (po_some pe_int)) (pe_tup (pa_cons (pe_callTy (r := rTupOf K) call_tupG (by rfl) T.b_tuple bt_tuple (pa_cons (pe_callBK (r := rSortK K T.d_first_of.f (sp_first_of K)) (cr_sortKey (fnR_of G_first_of T.d_first_of.b) (hr.mono (by omega))) (by rfl) T.b_sorted bt_sorted (pa_cons (pe_ix (r := rIx K) ix_seq (pv 0) pe_int (fun _ _ => rfl)) pa_nil) (pk_cons (pe_glob rfl T.d_first_of.g (show L2.RelV (.ref T.d_first_of.f) _ from rfl)) pk_nil)) pa_nil)) pa_nil))))) pss_nil) (pss_one (ps_ret (pv 0))))), ?_⟩
    cases e with
    | call z g =>
      obtain ⟨a, x0, x1, x2, x3, x4, rfl, ha, h0, _⟩ := hv.tup5
      cases h0.strI
      refine ⟨.ref a, rfl, rd_ixT ha (by decide) (v := .str "call") rfl ?_⟩
      refine Or.inl ⟨rfl, _, rfl, ?_⟩
      rw [ne_str (by decide +kernel)]
      refine ⟨.ref a, rfl, rd_ixT ha (by decide) (v := .str "call") rfl ?_⟩
      refine Or.inl ⟨rfl, _, rfl, ?_⟩
      rw [ne_str (by decide +kernel)]
      exact ⟨.ref a, rfl, q⟩
    | back =>
      obtain ⟨a, x0, x1, rfl, ha, h0, _⟩ := hv.tup2
      cases h0.strI
      refine ⟨.ref a, rfl, rd_ixT ha (by decide) (v := .str "back") rfl ?_⟩
      refine Or.inl ⟨rfl, _, rfl, ?_⟩
      rw [ne_str (by decide +kernel)]
      refine ⟨.ref a, rfl, rd_ixT ha (by decide) (v := .str "back") rfl ?_⟩
      refine Or.inl ⟨rfl, _, rfl, ?_⟩
      rw [ne_str (by decide +kernel)]
      exact ⟨.ref a, rfl, q⟩
theorem ok_tidy (T : TX K mg) {k : Nat} : FnOk P w K mg base CX0 (k + 5) T.d_tidy.f T.d_tidy.fd P_tidy (sp_tidy K) := by
  have G_ordered : FnOk P w K mg base CX0 4 T.d_ordered.f T.d_ordered.fd P_ordered (sp_orderedL K) := ok_orderedL T
  refine T.d_tidy.F.ok sc_tidy (fun vs H Q E h => ?_) (fun cdv A outer s H vs Q E hr h => ?_)
  · obtain ⟨_, _, _, _, rfl, _⟩ := h
    rfl
  · obtain ⟨a, l, xs, lns, rfl, ha, hl, hxs, h4, q⟩ := h
    have hln := hxs.length
    rw [List.length_map] at hln
    refine ⟨_, (pss_one (ps_ret (pe_op (r := rAddG K) op_addG (pe_slice (r := rSlG K) sl_G (pv 0) po_none (po_some pe_int)) (pe_tup (pa_cons (pe_callTy (r := rTupOf K) call_tupG (by rfl) T.b_tuple bt_tuple (pa_cons (pe_lc (own := [("statement", 1)]) (g := gName 1) (by rfl) sc_tidy.nd (pi_seq (pe_ix (r := rIx K) ix_seq (pv 0) pe_int (fun _ _ => rfl))) (blkOk_by (own := [("statement", 1)]) (N := N_tidy) (sc := defScope s_tidy) (by decide +kernel)) (fun _ _ _ _ _ => pg_name (i := 1) sc_tidy.nd rfl (Or.inl rfl)) (fun _ _ _ _ _ => pts_nil) (fun _ _ _ _ _ => (pe_call G_ordered (hr.mono (by omega)) rfl T.d_ordered.g T.d_ordered.F.kp T.d_ordered.b .nil pass0 (pa_cons (pv 1) pa_nil)))) pa_nil)) pa_nil))))), ?_⟩
    refine ⟨.ref a, rfl, 3, rfl, rd_sl3 ha fun p0 H0 m0 e0 => ?_⟩
    refine ⟨.ref a, rfl, rd_ixT (m0.sqT ha) (by decide) (v := .ref l) rfl ⟨l, rfl, ?_⟩⟩
    refine lc_seq (xs := xs) (.inl (.inl (.inl (m0.same _ _ hl)))) (fun i D H1 => ∃ ys, H1 D = some (.lst ys) ∧ ys.length = i ∧ Mv [] H0 H1)
      (fun D nD => ⟨[], upd_same, rfl, .new nD⟩) (fun i D H1 nD h1 => h1.choose_spec.2.2) (fun D nD i x H1 hx h1 => ?_) (fun D H1 nD h1 => ?_)
    · obtain ⟨ys, e1, l1, m1⟩ := h1
      obtain ⟨dd, hd, him⟩ := hxs.get hx
      rw [List.getElem?_map] at hd
      obtain ⟨e, he, rfl⟩ := Option.map_eq_some_iff.mp hd
      have hil := (List.getElem?_eq_some_iff.mp hx).1
      refine ⟨rfl, x, rfl, x, e, rfl, him.mv (m0.trans m1), ys, e1, ?_, ys ++ [x], upd_same, by simp [l1], m1.wr nD⟩
      rw [l1]
      exact Nat.lt_of_le_of_lt (show i ≤ 1000 by omega) (by decide)
    · obtain ⟨ys, e1, l1, m1⟩ := h1
      walk_at "nc"
      refine rd_tupOf (.inl (.inl e1)) fun p2 H2 m2 e2 => ?_
      refine ⟨(by decide : 1 ≤ sizeLine), fun p3 np3 => ?_⟩
      have m23 : Mv [] H2 (upd H2 p3 (.tup [.ref p2])) := .new np3
      have e3 : SqT K (upd H2 p3 (.tup [.ref p2])) p3 [.ref p2] := .inl (.inl upd_same)
      generalize upd H2 p3 (.tup [.ref p2]) = H3 at m23 e3 ⊢
      refine rd_cat (m23.sqT (m2.sqT (m1.sqT e0))) e3 (by decide : 4 ≤ sizeLine) fun p4 H4 m4 e4 => ?_
      exact q _ _ (m0.trans (m1.trans (m2.trans (m23.trans m4))))
theorem ok_Unit_functions (T : TX K mg) {k : Nat} : FnOk P w K mg base CX0 (k + 1) T.d_Unit_functions.f T.d_Unit_functions.fd P_Unit_functions (sp_Ufuns T.C_Unit) := by
  refine T.d_Unit_functions.F.ok sc_Unit_functions (fun vs H Q E h => ?_) (fun cdv A outer s H vs Q E hr h => ?_)
  · obtain ⟨_, _, rfl, _⟩ := h
    rfl
  · obtain ⟨x, ss, rfl, ⟨dx, df, wx, kvs, hs, hd, hk⟩, q⟩ := h
    refine ⟨_, (pss_one (ps_ret (pe_callTy (r := rListG K) (call_listA rfl) (by rfl) T.b_list bt_list (pa_cons (pe_slC (K := K) rfl (pv 0)) pa_nil)))), ?_⟩
    refine ⟨.ref x, rfl, x, T.C_Unit, dx, T.p_Unit_its_functions, _, 0, .ref df, rfl, hs, T.c_Unit, T.sl_Unit_its_functions, rfl, ?_⟩
    refine Or.inr ⟨df, _, rfl, hd, fun p np => ?_⟩
    have := q p np
    have e : kvs.map (fun kv => kV kv.1) = ss.map V.str := by
      have := congrArg (List.map kV) hk
      rw [List.map_map, List.map_map] at this
      exact this
    rw [e]
    exact this
theorem ok_Unit___init__ (T : TX K mg) (Y : TY P K mg) {k : Nat} : FnOk P w K mg base (CX P w) (k + 12) T.d_Unit___init__.f T.d_Unit___init__.fd P_Unit___init__ (sp_Unit K T.C_Unit T.C_World Y.C_BadFunction) := by
  have G_is_name : FnOk P w K mg base CX0 1 T.d_is_name.f T.d_is_name.fd P_is_name (sp_kind K isNamed) := ok_is_name T
  have G_first_bad : FnOk P w K mg base CX0 11 T.d_first_bad.f T.d_first_bad.fd P_first_bad (sp_firstbad K) := ok_first_bad T
  have G_tidy : FnOk P w K mg base CX0 5 T.d_tidy.f T.d_tidy.fd P_tidy (sp_tidy K) := ok_tidy T
  refine T.d_Unit___init__.F.okX sc_Unit___init__ (fun vs H Q E h => ?_) (fun cdv A outer s H vs Q E hr h => ?_)
  · obtain ⟨_, _, _, _, _, _, _, rfl, _⟩ := h
    rfl
  · obtain ⟨x, dx, wx, d, rs, zs, H0, rfl, eH, nx, ndx, hne, hW0, hA0, hO, q1, q2⟩ := h
    have hu1 := hu1_of hr
    have hu64 := hr.units
    refine ⟨_, (pss_cons (ps_if (pt_not (pt_val (pe_callB (r := rIsiSl K (.ref T.C_World)) (call_isiSl (.ref T.C_World)) (by rfl) T.b_isinstance bt_isinstance (pa_cons (pv 1) (pa_cons (pe_glob rfl T.g_World (show L2.RelV (.ref T.C_World) _ from rfl)) pa_nil))))) (pss_one (ps_raise rfl (takes_of rfl rfl rfl rfl) (pmk_x Y.x_Wrong hr (pa_cons pe_int pa_nil)))) pss_nil) (pss_cons (ps_if (PW.pt (pw_or (pt_not (pt_val (pe_callB (r := rIsi K) call_isi (by rfl) T.b_isinstance bt_isinstance (pa_cons (pv 2) (pa_cons (pe_ty T.b_dict bt_dict) pa_nil))))) (pw_or (pt_cmpR (r := rEqE) (op_eqE (Nat.lt_of_le_of_lt (Nat.le_add_right _ 64) hu64)) (pv 2) pe_dnewK (nomark _)) (pw_or1 (pt_not (pt_val (pe_callB (r := rAll K) (cr_all rfl) (by rfl) T.b_all bt_all (pa_cons (pe_lock (pe_lc (own := [("name", 4)]) (g := gName 4) (by rfl) sc_Unit___init__.nd (pi_keys (pv 2)) (blkOk_by (own := [("name", 4)]) (N := N_Unit___init__) (sc := defScope s_Unit___init__) (by decide +kernel)) (fun _ _ _ _ _ => pg_name (i := 4) sc_Unit___init__.nd rfl (Or.inl rfl)) (fun _ _ _ _ _ => pts_nil) (fun _ _ _ _ _ => (pe_call G_is_name (hr.mono (by omega)) rfl T.d_is_name.g T.d_is_name.F.kp T.d_is_name.b .nil pass0 (pa_cons (pv 4) pa_nil))))) pa_nil)))))))) (pss_one (ps_raise rfl (takes_of rfl rfl rfl rfl) (pmk_x Y.x_Wrong hr (pa_cons pe_int pa_nil)))) pss_nil) (pss_cons (ps_set (i := 3) sc_Unit___init__.nd rfl (Or.inl rfl) (pe_call G_first_bad (hr.mono (by omega)) rfl T.d_first_bad.g T.d_first_bad.F.kp T.d_first_bad.b .nil pass0 (pa_cons (pv 1) (pa_cons (pv 2) pa_nil)))) (pss_cons (ps_if (pt_cmpR op_notN (pv 3) pe_non (nomark _)) (pss_one (ps_raise rfl (takes_of rfl rfl rfl rfl) (pmk_x Y.x_BadFunction hr (pa_cons (pv 3) pa_nil)))) pss_nil) (pss_cons (ps_sl (pv 0) (pv 1)) (pss_one (ps_sl (pv 0) (pe_dc rfl (own := [("name", 4)]) (g := gName 4) sc_Unit___init__.nd (pi_seq (pe_callB (r := rSortA K) (cr_sortA rfl) (by rfl) T.b_sorted bt_sorted (pa_cons (pv 2) pa_nil))) (blkOk_by (own := [("name", 4)]) (N := N_Unit___init__) (sc := defScope s_Unit___init__) (by decide +kernel)) (fun _ _ _ _ _ => pg_name (i := 4) sc_Unit___init__.nd rfl (Or.inl rfl)) (fun _ _ _ _ _ => pts_nil) (fun _ _ _ _ _ => (pv 4)) (fun _ _ _ _ _ => (pe_call G_tidy (hr.mono (by omega)) rfl T.d_tidy.g T.d_tidy.F.kp T.d_tidy.b .nil pass0 (pa_cons (pe_dget hu1 (pv 2) (pv 4) (fun _ _ => rfl)) pa_nil))))))))))), ?_⟩
    have mH : Mv [] H0 H := by
      rw [eH]
      exact (Mv.new ndx).wr nx
    have hx : H x = some (.ins T.C_Unit dx []) := by rw [eH]; exact upd_same
    have hdx : H dx = some (.own x) := by rw [eH, upd_ne hne]; exact upd_same
    have hW := hW0.mv mH
    clear eH
    have hNm : ∀ z ∈ zs, Nm z.r.nm := fun z hz => hO.nm z.r (List.mem_map.mpr ⟨z, hz, rfl⟩)
    have hlen : zs.length ≤ 7 := by
      have := hO.few
      rwa [List.length_map] at this
    have hlz : (zs.map (·.r.nm)).length < 64 := by rw [List.length_map]; omega
    obtain ⟨ss, hss⟩ : ∃ ss, ss = ssOf (zs.map (·.r.nm)) := ⟨_, rfl⟩
    rw [← hss] at q1 q2
    have inS : ∀ {y : Str}, y ∈ ss → ∃ z ∈ zs, z.r.nm = y := fun {y} hy => by
      rw [hss, ss_mem] at hy
      obtain ⟨z, hz, e⟩ := List.mem_map.mp hy
      exact ⟨z, hz, e⟩
    obtain ⟨dw, dq, zq, hs, hAq, hzq⟩ := id hW
    refine ⟨.ref wx, rfl, ?_⟩
    walk_at "nn"
    refine ⟨wx, T.C_World, dw, _, .ref T.C_World, true, rfl, rfl, fun _ h => h, hs, T.c_World, T.is_World, kitOne_self _, ?_⟩
    refine ⟨_, rfl, ?_⟩
    have hd := (hA0.mv mH).at_
    refine ⟨.ref d, rfl, ?_⟩
    walk_at "nn"
    refine ⟨_, _, _, _, true, rfl, .ty "dict", .base (.dK hd), kit_ty (by decide +kernel), ?_⟩
    refine ⟨_, rfl, ?_⟩
    refine ⟨.ref d, rfl, fun pe npe => ?_⟩
    have m1 : Mv [] H (upd H pe (.dK [])) := .new npe
    have e1 : upd H pe (.dK []) pe = some (.dK []) := upd_same
    generalize upd H pe (.dK []) = H1 at m1 e1 ⊢
    have hd1 := m1.same _ _ hd
    refine ⟨d, pe, _, rfl, rfl, hd1, e1, _, rfl, ?_⟩
    have hz0 : 0 < zs.length := by
      have := hO.some_
      rwa [List.length_map] at this
    rw [show (zs.map FnA.kv).isEmpty = false by
      cases zs with
      | nil => simp at hz0
      | cons z zs => rfl]
    refine ⟨d, _, hd1, trivial, fun od => ?_⟩
    have e0 : upd H1 d (.frz od (.dK (zs.map FnA.kv))) d = some (.frz od (.dK (zs.map FnA.kv))) := upd_same
    have un : ∀ H', Mv [] (upd H1 d (.frz od (.dK (zs.map FnA.kv)))) H' → Mv [] H1 (upd H' d (.dK (zs.map FnA.kv))) := fun H' m => Mv.unlock hd1 (fun _ z => by cases z) (fun _ _ z => by cases z) m
    generalize upd H1 d (.frz od (.dK (zs.map FnA.kv))) = HL at e0 un ⊢
    refine ⟨.ref d, rfl, d, od, rfl, Or.inl ⟨_, e0, fun D nD => ?_⟩⟩
    refine lc_it walk_keys (fun i H2 => H2 D = some (.lst ((List.replicate i true).map V.bl)) ∧ Mv [] HL H2) ⟨upd_same, .new nD⟩ (fun i H2 _ h2 => h2.2.same _ _ e0) (fun i y H2 H3 hi h2 yy => ?_) (fun H2 h2 => ?_)
    · obtain ⟨e2, m2⟩ := h2
      obtain ⟨rfl, k, v, hk, rfl⟩ := yy
      rw [List.getElem?_map] at hk
      obtain ⟨z, he, hk⟩ := Option.map_eq_some_iff.mp hk
      obtain ⟨rfl, rfl⟩ := Prod.mk.inj hk
      have hm := List.mem_of_getElem? he
      have o1 := hNm z hm
      refine ⟨rfl, ?_⟩
      refine ⟨.str z.r.nm, rfl, .str z.r.nm, .str z.r.nm, d, rfl, ⟨rfl, by have := o1.2.1; omega⟩, fun H4 m4 => ?_⟩
      rw [show isNamed (.str z.r.nm) = true from nmd_nm o1]
      refine ⟨_, m4.same _ _ e2, ?_, ?_, (m2.trans m4).wr nD⟩
      · rw [List.length_map, List.length_replicate]
        have : i < zs.length := by rw [List.length_map] at hi; exact hi
        exact Nat.lt_of_le_of_lt (show i ≤ 100 by omega) (by decide)
      · rw [upd_same, List.replicate_succ', List.map_append]
        rfl
    obtain ⟨e2, m2⟩ := h2
    refine ⟨m2.same _ _ e0, D, List.replicate (zs.map FnA.kv).length true, rfl, .inl (.inl ?_), ?_⟩
    · rw [upd_ne (by rintro rfl; rw [e0] at nD; cases nD)]
      exact e2
    rw [show (List.replicate (zs.map FnA.kv).length true).all id = true by simp]
    have m3 := m1.trans (un H2 m2)
    generalize upd H2 d (.dK (zs.map FnA.kv)) = H3 at m3 ⊢
    refine ⟨_, rfl, ?_⟩
    have m03 := mH.trans m3
    refine ⟨.ref wx, rfl, .ref d, rfl, .ref wx, d, zs, rfl, hA0.mv m03, hO, fun H4 m4 => ?_⟩
    have m04 := m03.trans m4
    rw [← hss]
    cases hb : badOf (clOf (zs.map (·.r))) ss with
    | some y =>
      refine ⟨.str y, rfl, rfl, _, rfl, ?_⟩
      rw [show (!decide (V.str y = V.non)) = true by simp]
      exact ⟨.str y, rfl, .str y, rfl, fun dd ndd => q2 y hb dd H4 m04 ndd⟩
    | none =>
      refine ⟨.non, rfl, rfl, _, rfl, ?_⟩
      rw [show (!decide (V.non = V.non)) = false by simp]
      have hx4 := (m3.trans m4).same _ _ hx
      have hd4 := (m3.trans m4).same _ _ hdx
      refine ⟨.ref wx, rfl, .ref x, rfl, x, T.C_Unit, dx, T.p_Unit_its_world, [], 1, rfl, Or.inl ⟨hx4, rfl⟩, T.c_Unit, T.sl_Unit_its_world, ?_⟩
      have m5 := m04.slU (C := T.C_Unit) (vs := putS 1 (.ref wx) []) nx ndx
      have hx5 := slH_xU (H := H4) (x := x) (C := T.C_Unit) (dx := dx) (vs := putS 1 (.ref wx) [])
      have hd5 := slH_dxU (H := H4) (C := T.C_Unit) (vs := putS 1 (.ref wx) []) hne
      have hs5 := slH_slt (H := H4) (C := T.C_Unit) (vs := putS 1 (.ref wx) []) hne
      generalize slH H4 x T.C_Unit dx (putS 1 (.ref wx) []) = H5 at m5 hx5 hd5 hs5 ⊢
      have hA5 := hA0.mv m5
      refine ⟨.ref d, rfl, Or.inl ⟨d, _, zs.map (·.r.nm), rfl, .inl hA5.at_, fk_keys zs, hlz, fun ys2 p2 hp2 hs2 np2 => ⟨p2, rfl, Or.inl ⟨⟨_, .inl (.inl upd_same)⟩, fun D2 nD2 => ?_⟩⟩⟩⟩
      have hys2 := ss_of hA0.nd hp2 hs2
      rw [← hss] at hys2
      subst hys2
      have e6 : upd H5 p2 (.lst (ys2.map V.str)) p2 = some (.lst (ys2.map V.str)) := upd_same
      have m56 : Mv [] H5 (upd H5 p2 (.lst (ys2.map V.str))) := .new np2
      generalize upd H5 p2 (.lst (ys2.map V.str)) = H6 at e6 m56 nD2 ⊢
      have hA6 := hA5.mv m56
      refine dc_it walk_list (fun i H7 => ∃ kvs, H7 D2 = some (.dK kvs) ∧ kvs.map (·.1) = (ys2.take i).map Sum.inr ∧ Mv [] H6 H7)
        ⟨[], upd_same, by simp, .new nD2⟩ (fun i H7 _ h7 => .inl (.inl (h7.choose_spec.2.2.same _ _ e6))) (fun i y H7' H7 hi h7 yy => ?_) (fun H7 h7 => ?_)
      · obtain ⟨kvs, e7, k7, m7⟩ := h7
        obtain ⟨rfl, hy⟩ := yy
        rw [List.getElem?_map] at hy
        obtain ⟨y, hyy, rfl⟩ := Option.map_eq_some_iff.mp hy
        obtain ⟨z, hz, rfl⟩ := inS (List.mem_of_getElem? hyy)
        have hzr : z.r ∈ zs.map (·.r) := List.mem_map.mpr ⟨z, hz, rfl⟩
        have hA7 := hA6.mv m7
        refine ⟨rfl, .str z.r.nm, rfl, .ref d, rfl, .str z.r.nm, rfl, d, .ref z.a, rfl, hA7.get hz, ?_⟩
        refine ⟨z.a, z.l, z.vs, z.r.lns, rfl, hA7.tup z hz, hA7.lst z hz, hA7.ims z hz, hO.l9 _ hzr, fun v H8 m8 => ?_⟩
        refine ⟨kvs, .inr z.r.nm, rfl, m8.same _ _ e7, ?_, ?_⟩
        · have := congrArg List.length k7
          rw [List.length_map, List.length_map, List.length_take] at this
          have hl : ys2.length = zs.length := by
            rw [hss]
            show (srt leS id _).length = _
            rw [srt_len, List.length_map]
          exact Nat.lt_of_le_of_lt (show kvs.length ≤ 100 by omega) (by decide)
        · have hnew : (.inr z.r.nm : L2.Key) ∉ kvs.map (·.1) := by
            rw [k7]
            intro hmem
            obtain ⟨nm, hnm, he⟩ := List.mem_map.mp hmem
            cases he
            have nss : ys2.Nodup := by rw [hss]; exact ss_nd hA0.nd
            rw [show ys2 = ys2.take i ++ z.r.nm :: ys2.drop (i + 1) by rw [← (List.getElem?_eq_some_iff.mp hyy).2, List.getElem_cons_drop, List.take_append_drop], List.nodup_append] at nss
            exact nss.2.2 _ hnm _ (by simp) rfl
          rw [putK_new hnew]
          refine ⟨kvs ++ [(.inr z.r.nm, v)], upd_same, ?_, (m7.trans m8).wr nD2⟩
          rw [List.map_append, k7, List.take_add_one, hyy]
          simp
      · obtain ⟨kvs, e7, k7, m7⟩ := h7
        rw [List.length_map, List.take_length] at k7
        have m57 := m56.trans m7
        refine ⟨.ref x, rfl, x, T.C_Unit, dx, T.p_Unit_its_functions, _, 0, rfl, Slt.mv hs5 m57, T.c_Unit, T.sl_Unit_its_functions, ?_⟩
        have hx7 := m57.same _ _ hx5
        have hd7 := m57.same _ _ hd5
        refine q1 hb _ ((m5.trans m57).slU nx ndx) ⟨dx, D2, wx, kvs, slH_slt hne, ?_, k7⟩
        rw [slH_ne (by rintro rfl; rw [hx7] at e7; unfold SlO at e7; cases e7) (by rintro rfl; rw [hd7] at e7; cases e7)]
        exact e7
end
end Fm
/-! the law's own calls -/
namespace Fm
open PySem PySem.Spec PyProof.Rows L2 SlX
local macro_rules | `(tactic| walk_at "nn") => `(tactic| dsimp only [tC, tNil, tCons, tCB, tCall, gName, tSeq, tAsg, tPar, tDrop, tRet])
local macro_rules | `(tactic| walk_at "nc") => `(tactic| dsimp only [tC, tNil, tCons, tCB, tCall])
structure CaA where
  nm : Str
  a : Addr
  xs : List Str
def CaA.kv (z : CaA) : L2.Key × V := (.inr z.nm, .ref z.a)
structure CasAt (H : Hp) (d : Addr) (cs : List CaA) : Prop where
  at_ : H d = some (.dK (cs.map CaA.kv))
  nd : (cs.map (·.nm)).Nodup
  lst : ∀ z ∈ cs, H z.a = some (.lst (z.xs.map V.str))
structure CasOk (cs : List CaA) : Prop where
  few : cs.length ≤ 7
  nm : ∀ z ∈ cs, Nm z.nm
  l4 : ∀ z ∈ cs, z.xs.length ≤ 4
  sub : ∀ z ∈ cs, ∀ y ∈ z.xs, y ∈ cs.map (·.nm)
def clC (cs : List CaA) (x : Str) : List Str := ((cs.find? fun r => decide (r.nm = x)).map fun r => r.xs).getD []
section
variable {K : PySem.W.Frag} {H H' : Hp} {d : Addr} {cs : List CaA}
theorem CasAt.mv (h : CasAt H d cs) (m : Mv [] H H') : CasAt H' d cs := ⟨m.same _ _ h.at_, h.nd, fun z hz => m.same _ _ (h.lst z hz)⟩
theorem ck_keys (cs : List CaA) : (cs.map CaA.kv).map (·.1) = (cs.map (·.nm)).map Sum.inr := by
  rw [List.map_map, List.map_map]
  rfl
theorem CasAt.nk (h : CasAt H d cs) : ((cs.map CaA.kv).map (·.1)).Nodup := by
  rw [ck_keys]
  exact nd_inr h.nd
theorem CasAt.get (h : CasAt H d cs) {z : CaA} (hz : z ∈ cs) : DGet H d (.str z.nm) (some (.ref z.a)) := Or.inl ⟨_, .inr z.nm, .inl h.at_, rfl, (valV_mem h.nk (List.mem_map.mpr ⟨z, hz, rfl⟩)).symm⟩
theorem clC_of (n : (cs.map (·.nm)).Nodup) {r : CaA} (hr : r ∈ cs) : clC cs r.nm = r.xs := by
  unfold clC
  have : cs.find? (fun q => decide (q.nm = r.nm)) = some r := by
    induction cs with
    | nil => cases hr
    | cons q cs ih =>
      rw [List.map_cons, List.nodup_cons] at n
      rw [List.find?_cons]
      by_cases e : q.nm = r.nm
      · rw [decide_eq_true e]
        rcases List.mem_cons.mp hr with rfl | hr
        · rfl
        · exact absurd (List.mem_map.mpr ⟨r, hr, e.symm⟩) n.1
      · rw [decide_eq_false e]
        rcases List.mem_cons.mp hr with rfl | hr
        · exact absurd rfl e
        · exact ih n.2 hr
  rw [this]
  rfl
theorem clC_sub (h : CasOk cs) (x : Str) : ∀ z ∈ clC cs x, z ∈ cs.map (·.nm) := by
  intro z hz
  unfold clC at hz
  cases e : cs.find? fun r => decide (r.nm = x) with
  | none => rw [e] at hz; cases hz
  | some r =>
    rw [e] at hz
    exact h.sub r (List.mem_of_find?_eq_some e) z hz
theorem flat_strU (ls : List CaA) : ((ls.map fun e => (e.a, e.xs.map V.str)).map (·.2)).flatten = ((ls.map (·.xs)).flatten).map V.str := by
  induction ls with
  | nil => rfl
  | cons e ls ih =>
    simp only [List.map_cons, List.flatten_cons, List.map_append]
    rw [ih]
theorem flat_lenU {ls : List CaA} {n : Nat} (h : ∀ e ∈ ls, e.xs.length ≤ n) : ((ls.map (·.xs)).flatten).length ≤ ls.length * n := by
  induction ls with
  | nil => simp
  | cons e ls ih =>
    have h1 := h e (by simp)
    have h2 := ih fun f hf => h f (by simp [hf])
    simp only [List.map_cons, List.flatten_cons, List.length_append, List.length_cons, Nat.add_mul]
    omega
end
/-- only which are called counts -/
theorem wk_congr {cl cm : Str → List Str} (h : ∀ x y, y ∈ cl x ↔ y ∈ cm x) : ∀ (l : List Str) (x : Str), Wk cl x l ↔ Wk cm x l
  | [], _ => Iff.rfl
  | z :: l, x => by
    show z ∈ cl x ∧ Wk cl z l ↔ z ∈ cm x ∧ Wk cm z l
    rw [h x z, wk_congr h l z]
open Classical in
theorem bad_congr {cl cm : Str → List Str} (h : ∀ x y, y ∈ cl x ↔ y ∈ cm x) (ss : List Str) : badOf cl ss = badOf cm ss := by
  have e1 : (fun x => decide (Cyc cl x)) = fun x => decide (Cyc cm x) := funext fun x => decide_eq_decide.mpr (by unfold Cyc; simp only [wk_congr h])
  have e2 : (fun x => decide (Far cl x)) = fun x => decide (Far cm x) := funext fun x => decide_eq_decide.mpr (by unfold Far; simp only [wk_congr h])
  unfold badOf
  rw [e1, e2]
open Classical in
noncomputable def farOf (cl : Str → List Str) (ss : List Str) : List Str := ss.filter fun x => decide (Far cl x)
open Classical in
theorem bad_head {cl : Str → List Str} {ss : List Str} (hn : ∀ y ∈ ss, ¬ Cyc cl y) : badOf cl ss = (farOf cl ss).head? := by
  unfold badOf farOf
  rw [find_no (fun j y hy => decide_eq_false (hn y (List.mem_of_getElem? hy))), List.head?_filter]
  rfl
open Classical in
theorem far_yes {cl : Str → List Str} {ss : List Str} {u : Str} (h : Far cl u) : farOf cl (ss ++ [u]) = farOf cl ss ++ [u] := by
  unfold farOf
  rw [List.filter_append]
  simp [h]
open Classical in
theorem far_no {cl : Str → List Str} {ss : List Str} {u : Str} (h : ¬ Far cl u) : farOf cl (ss ++ [u]) = farOf cl ss := by
  unfold farOf
  rw [List.filter_append]
  simp [h]
open Classical in
theorem far_len (cl : Str → List Str) (ss : List Str) : (farOf cl ss).length ≤ ss.length := List.length_filter_le _ _
theorem xfC_ofU {K : PySem.W.Frag} {C : Addr} (h : ExcC K C) : XfC K C := ⟨h.hg, h.hk, h.hs, h.hd⟩
def sp_reach : Sp := fun vs H Q _ => ∃ (d : Addr) (cs : List CaA) (x : Str) (n : Nat), vs = [.ref d, .str x, .int n] ∧ CasAt H d cs ∧ CasOk cs ∧ x ∈ cs.map (·.nm) ∧ n ≤ 7 ∧
  ∀ p (F : List Str) H', (∀ y ∈ F, Nm y) → (∀ y, y ∈ F ↔ EndK (clC cs) n x y) → H p = none → Mv [] H H' → H' p = some (.lst (F.map V.str)) → Q (.ref p) H'
def sp_badcalls : Sp := fun vs H Q _ => ∃ (d : Addr) (cs : List CaA), vs = [.ref d] ∧ CasAt H d cs ∧ CasOk cs ∧ ∀ H', Mv [] H H' → Q (badV (badOf (clC cs) (ssOf (cs.map (·.nm))))) H'
def sp_heard (K : PySem.W.Frag) : Sp := fun vs H Q _ => ∃ (d : Addr) (zs : List FnA), vs = [.ref d] ∧ FnsAt K H d zs ∧ FnsOk (zs.map (·.r)) ∧ ∀ H', Mv [] H H' → Q (badV (badOf (clOf (zs.map (·.r))) (ssOf (zs.map (·.r.nm))))) H'
section
variable {P : Program} {w : World} {K : PySem.W.Frag} {mg : Str → Option Value} {base : Heap}
theorem ok__law_reach (T : TX K mg) {k : Nat} : FnOk P w K mg base CX0 (k + 1) T.d__law_reach.f T.d__law_reach.fd P__law_reach sp_reach := by
  refine T.d__law_reach.F.ok sc__law_reach (fun vs H Q E h => ?_) (fun cdv A outer s H vs Q E hr h => ?_)
  · obtain ⟨_, _, _, _, rfl, _⟩ := h
    rfl
  · obtain ⟨d, cs, x, n, rfl, hC, hO, hx, hn, q⟩ := h
    have hu1 := hu1_of hr
    have hNm : ∀ y ∈ cs.map (·.nm), Nm y := fun y hy => by
      obtain ⟨z, hz, rfl⟩ := List.mem_map.mp hy
      exact hO.nm z hz
    refine ⟨_, (pss_cons (ps_set (i := 3) sc__law_reach.nd rfl (Or.inl rfl) (pe_lst (pa_cons (pv 1) pa_nil))) (pss_cons (ps_for PassesOwn.never rfl (pi_range1 (by rfl) T.b_range (pa_cons (pv 2) pa_nil)) (pg_name (i := 4) sc__law_reach.nd rfl (Or.inl rfl)) (pss_one (ps_set (i := 3) sc__law_reach.nd rfl (Or.inl rfl) (pe_callB (r := rSortedSS P w) (cr_sortedSS rfl) (by rfl) T.b_sorted bt_sorted (pa_cons (pe_callTy (r := rSetOfS K P w) (cr_setS rfl) (by rfl) T.b_set bt_set (pa_cons (pe_callB (r := rSumL K) (cr_sumL rfl) (by rfl) T.b_sum bt_sum (pa_cons (pe_lc (own := [("_law_one", 5)]) (g := gName 5) (by rfl) sc__law_reach.nd (pi_seq (pv 3)) (blkOk_by (own := [("_law_one", 5)]) (N := N__law_reach) (sc := defScope s__law_reach) (by decide +kernel)) (fun _ _ _ _ _ => pg_name (i := 5) sc__law_reach.nd rfl (Or.inl rfl)) (fun _ _ _ _ _ => pts_nil) (fun _ _ _ _ _ => (pe_dget hu1 (pv 0) (pv 5) (fun _ _ => rfl)))) (pa_cons (pe_lst pa_nil) pa_nil))) pa_nil)) pa_nil))))) (pss_one (ps_ret (pv 3))))), ?_⟩
    refine ⟨.str x, rfl, (by decide : 1 ≤ sizeLine), fun p0 np0 => ?_⟩
    have m0 : Mv [] H (upd H p0 (.lst [.str x])) := .new np0
    have e0 : upd H p0 (.lst [.str x]) p0 = some (.lst [.str x]) := upd_same
    generalize upd H p0 (.lst [.str x]) = H0 at m0 e0 ⊢
    refine ⟨.int n, rfl, n, rfl, by omega, by omega, ?_⟩
    refine for_range (lo := 0) (n := (n : Int).toNat) (fun i σ H1 => ∃ (p : Addr) (F : List Str) (y4 : Option V), σ = [some (.ref d), some (.str x), some (.int n), some (.ref p), y4, none] ∧ H p = none ∧ H1 p = some (.lst (F.map V.str)) ∧ F.Nodup ∧ (∀ y ∈ F, y ∈ cs.map (·.nm)) ∧ (∀ y, y ∈ F ↔ EndK (clC cs) i x y) ∧ Mv [] H H1)
      ⟨p0, [x], none, rfl, np0, e0, by simp, fun y hy => by rw [List.mem_singleton] at hy; rw [hy]; exact hx, fun y => by rw [List.mem_singleton]; exact Iff.rfl, m0⟩ (fun i σ H1 hi h1 => ?_) (fun σ H1 h1 => ?_)
    · obtain ⟨p, F, y4, rfl, np, e1, n1, s1, c1, m1⟩ := h1
      have hC1 := hC.mv m1
      have hF7 : F.length ≤ 7 := by
        have := nd_few n1 s1
        rw [List.length_map] at this
        have := hO.few
        omega
      refine ⟨.ref p, rfl, p, rfl, ?_⟩
      refine lc_seq (xs := F.map V.str) (.inl (.inl (.inl e1))) (fun j D H2 => ∃ ls : List CaA, H2 D = some (.lst (ls.map fun e => V.ref e.a)) ∧ ls.map (·.nm) = F.take j ∧ (∀ c ∈ ls, c ∈ cs) ∧ Mv [] H1 H2)
        (fun D nD => ⟨[], upd_same, by simp, fun c hc => absurd hc List.not_mem_nil, .new nD⟩) (fun j D H2 nD h2 => h2.choose_spec.2.2.2) (fun D nD j v H2 hv h2 => ?_) (fun D H2 nD h2 => ?_)
      · obtain ⟨ls, e2, k2, c2, m2⟩ := h2
        rw [List.getElem?_map] at hv
        obtain ⟨y, hyy, rfl⟩ := Option.map_eq_some_iff.mp hv
        obtain ⟨c, hc, rfl⟩ := List.mem_map.mp (s1 y (List.mem_of_getElem? hyy))
        have hjl := (List.getElem?_eq_some_iff.mp hyy).1
        refine ⟨rfl, .ref d, rfl, .str c.nm, rfl, d, .ref c.a, rfl, (hC1.mv m2).get hc, _, e2, ?_, ls ++ [c], ?_, ?_, fun e he => ?_, m2.wr nD⟩
        · have := congrArg List.length k2
          rw [List.length_map, List.length_take] at this
          rw [List.length_map]
          exact Nat.lt_of_le_of_lt (show ls.length ≤ 100 by omega) (by decide)
        · rw [upd_same, List.map_append]
          rfl
        · rw [List.map_append, k2, List.take_add_one, hyy]
          rfl
        · rcases List.mem_append.mp he with he | he
          · exact c2 e he
          · rw [List.mem_singleton] at he
            rw [he]
            exact hc
      obtain ⟨ls, e2, k2, c2, m2⟩ := h2
      rw [List.length_map, List.take_length] at k2
      have hll : ls.length = F.length := by
        have := congrArg List.length k2
        rwa [List.length_map] at this
      have hfl := flat_lenU (ls := ls) (n := 4) fun e he => hO.l4 e (c2 e he)
      have hfl28 : ((ls.map (·.xs)).flatten).length ≤ 28 := by omega
      have hfm : ∀ y, y ∈ (ls.map (·.xs)).flatten ↔ EndK (clC cs) (i + 1) x y := fun y => by
        rw [List.mem_flatten]
        constructor
        · rintro ⟨l, hl, hy⟩
          obtain ⟨c, hc, rfl⟩ := List.mem_map.mp hl
          refine ⟨c.nm, (c1 c.nm).mp (by rw [← k2]; exact List.mem_map.mpr ⟨c, hc, rfl⟩), ?_⟩
          rw [clC_of hC.nd (c2 c hc)]
          exact hy
        · rintro ⟨z, hz, hy⟩
          have hzF := (c1 z).mpr hz
          rw [← k2] at hzF
          obtain ⟨c, hc, rfl⟩ := List.mem_map.mp hzF
          rw [clC_of hC.nd (c2 c hc)] at hy
          exact ⟨_, List.mem_map.mpr ⟨c, hc, rfl⟩, hy⟩
      refine ⟨Nat.zero_le _, fun pz npz => ?_⟩
      have m3 : Mv [] H2 (upd H2 pz (.lst [])) := .new npz
      have e3 : upd H2 pz (.lst []) pz = some (.lst []) := upd_same
      generalize upd H2 pz (.lst []) = H3 at m3 e3 ⊢
      have m13 := m1.trans (m2.trans m3)
      have hC3 := hC.mv m13
      have fin : ∀ (pf : Addr) (fx : List Str) (H4 : Hp), (∀ y, y ∈ fx ↔ EndK (clC cs) (i + 1) x y) → fx.length ≤ 28 → Mv [] H H4 → H4 pf = some (.lst (fx.map V.str)) → ∀ (ps : Addr) (ns : Nat), H4 ps = none → ns ≤ fx.length → ∀ (F' : List Str) (pr : Addr), sortedS F' = true → F'.Nodup → (∀ y, y ∈ F' ↔ decide (y ∈ fx) = true) → F'.length = ns → upd H4 ps (SetSO P w ps (fun j => decide (j ∈ fx)) ns) pr = none →
          H pr = none ∧ F'.Nodup ∧ (∀ y ∈ F', y ∈ cs.map (·.nm)) ∧ (∀ y, y ∈ F' ↔ EndK (clC cs) (i + 1) x y) ∧ Mv [] H (upd (upd H4 ps (SetSO P w ps (fun j => decide (j ∈ fx)) ns)) pr (.lst (F'.map V.str))) := by
        intro pf fx H4 hm hl m4 e4 ps ns nps hns F' pr hs hnd hmm hle npr
        have m5 : Mv [] H (upd H4 ps (SetSO P w ps (fun j => decide (j ∈ fx)) ns)) := m4.trans (.new nps)
        have hk : ∀ y, y ∈ F' ↔ EndK (clC cs) (i + 1) x y := fun y => by
          rw [hmm y, decide_eq_true_eq, hm y]
        refine ⟨m5.free npr, hnd, fun y hy => ?_, hk, m5.trans (.new npr)⟩
        obtain ⟨z, _, hz⟩ := (hk y).mp hy
        exact clC_sub hO z y hz
      refine ⟨D, pz, ls.map fun e => (e.a, e.xs.map V.str), rfl, .inl (.inl (by rw [List.map_map]; exact m3.same _ _ e2)), e3, fun e he => ?_, ?_, fun hnil => ?_, fun p5 np5 => ?_⟩
      · obtain ⟨c, hc, rfl⟩ := List.mem_map.mp he
        exact hC3.lst c (c2 c hc)
      · rw [flat_strU, List.length_map, sizeLine_eq]
        omega
      · have hl0 : ls = [] := by
          cases ls with
          | nil => rfl
          | cons c ls => cases hnil
        subst hl0
        refine ⟨pz, [], rfl, .inl (.inl e3), by simp, fun ps ns nps hns => ?_⟩
        refine ⟨ps, _, ns, rfl, upd_same, by simp at hns; omega, fun F' pr hs hnd hmm hle npr => ?_⟩
        obtain ⟨h1, h2, h3, h4, h5⟩ := fin pz [] H3 (by simpa using hfm) (by simp) m13 e3 ps ns nps hns F' pr hs hnd hmm hle npr
        exact ⟨pr, F', _, rfl, h1, upd_same, h2, h3, h4, h5⟩
      · rw [flat_strU]
        have m5 : Mv [] H (upd H3 p5 (.lst (((ls.map (·.xs)).flatten).map V.str))) := m13.trans (.new np5)
        have e5 : upd H3 p5 (.lst (((ls.map (·.xs)).flatten).map V.str)) p5 = some (.lst (((ls.map (·.xs)).flatten).map V.str)) := upd_same
        generalize upd H3 p5 (.lst (((ls.map (·.xs)).flatten).map V.str)) = H5 at m5 e5 ⊢
        refine ⟨p5, (ls.map (·.xs)).flatten, rfl, .inl (.inl e5), by omega, fun ps ns nps hns => ?_⟩
        refine ⟨ps, _, ns, rfl, upd_same, by omega, fun F' pr hs hnd hmm hle npr => ?_⟩
        obtain ⟨h1, h2, h3, h4, h5⟩ := fin p5 _ H5 hfm hfl28 m5 e5 ps ns nps hns F' pr hs hnd hmm hle npr
        exact ⟨pr, F', _, rfl, h1, upd_same, h2, h3, h4, h5⟩
    · obtain ⟨p, F, y4, rfl, np, e1, n1, s1, c1, m1⟩ := h1
      exact ⟨.ref p, rfl, q p F H1 (fun y hy => hNm y (s1 y hy)) c1 np m1 e1⟩
theorem ok__law_bad_calls (T : TX K mg) {k : Nat} : FnOk P w K mg base CX0 (k + 2) T.d__law_bad_calls.f T.d__law_bad_calls.fd P__law_bad_calls sp_badcalls := by
  have G__law_reach : FnOk P w K mg base CX0 1 T.d__law_reach.f T.d__law_reach.fd P__law_reach sp_reach := ok__law_reach T
  refine T.d__law_bad_calls.F.ok sc__law_bad_calls (fun vs H Q E h => ?_) (fun cdv A outer s H vs Q E hr h => ?_)
  · obtain ⟨_, _, rfl, _⟩ := h
    rfl
  · obtain ⟨d, cs, rfl, hC, hO, q⟩ := h
    have hu65 := hu65_of hr
    have hNm : ∀ y ∈ cs.map (·.nm), Nm y := fun y hy => by
      obtain ⟨z, hz, rfl⟩ := List.mem_map.mp hy
      exact hO.nm z hz
    have h7 : (cs.map (·.nm)).length ≤ 7 := by rw [List.length_map]; exact hO.few
    have hlz : (cs.map (·.nm)).length < 64 := by omega
    obtain ⟨ss, hss⟩ : ∃ ss, ss = ssOf (cs.map (·.nm)) := ⟨_, rfl⟩
    rw [← hss] at q
    have inS : ∀ {y : Str}, y ∈ ss → y ∈ cs.map (·.nm) := fun {y} hy => by rwa [hss, ss_mem] at hy
    refine ⟨_, (pss_cons (ps_for PassesOwn.never rfl (pi_seq (pe_callB (r := rSortA K) (cr_sortA rfl) (by rfl) T.b_sorted bt_sorted (pa_cons (pv 0) pa_nil))) (pg_name (i := 1) sc__law_bad_calls.nd rfl (Or.inr rfl)) (pss_one (ps_if (pt_cmpR (r := rNeNil K) (op_neNil (Nat.lt_of_le_of_lt (Nat.le_add_right _ 65) hu65)) (pe_lc (own := [("_law_k", 3)]) (g := gName 3) (by rfl) sc__law_bad_calls.nd (pi_range2 (by rfl) T.b_range (pa_cons pe_int (pa_cons pe_int pa_nil))) (blkOk_by (own := [("_law_k", 3)]) (N := N__law_bad_calls) (sc := defScope s__law_bad_calls) (by decide +kernel)) (fun _ _ _ _ _ => pg_name (i := 3) sc__law_bad_calls.nd rfl (Or.inl rfl)) (fun _ _ _ _ _ => (pts_one (pt_cmpR (r := rInG K) (op_inG hu65) (pv 1) (pe_call G__law_reach (hr.mono (by omega)) rfl T.d__law_reach.g T.d__law_reach.F.kp T.d__law_reach.b .nil pass0 (pa_cons (pv 0) (pa_cons (pv 1) (pa_cons (pv 3) pa_nil)))) rfl))) (fun _ _ _ _ _ => pe_int)) (pe_lst pa_nil) (nomark _)) (pss_one (ps_ret (pv 1))) pss_nil))) (pss_cons (ps_setLc (i := 2) (own := [("_law_name", 1)]) (g := gName 1) (by rfl) sc__law_bad_calls.nd rfl rfl (sw_true rfl rfl rfl (by decide +kernel)) (pi_seq (pe_callB (r := rSortA K) (cr_sortA rfl) (by rfl) T.b_sorted bt_sorted (pa_cons (pv 0) pa_nil))) (blkOk_by (own := [("_law_name", 1)]) (N := N__law_bad_calls) (sc := defScope s__law_bad_calls) (by decide +kernel)) (fun _ _ _ _ _ => pg_name (i := 1) sc__law_bad_calls.nd rfl (Or.inl rfl)) (fun _ _ _ _ _ => (pts_one (pt_cmpR (r := rNeNil K) (op_neNil (Nat.lt_of_le_of_lt (Nat.le_add_right _ 65) hu65)) (pe_call G__law_reach (hr.mono (by omega)) rfl T.d__law_reach.g T.d__law_reach.F.kp T.d__law_reach.b .nil pass0 (pa_cons (pv 0) (pa_cons (pv 1) (pa_cons pe_int pa_nil)))) (pe_lst pa_nil) (nomark _)))) (fun _ _ _ _ _ => (pv 1))) (pss_one (ps_ret (pe_ifExp (pt_cmpR (r := rNeNil K) (op_neNil (Nat.lt_of_le_of_lt (Nat.le_add_right _ 65) hu65)) (pv 2) (pe_lst pa_nil) (nomark _)) (pe_ix (r := rIx K) ix_seq (pv 2) pe_int (fun _ _ => rfl)) pe_non))))), ?_⟩
    refine ⟨.ref d, rfl, Or.inl ⟨d, _, cs.map (·.nm), rfl, .inl hC.at_, ck_keys cs, hlz, fun ys p hp hs np => ⟨p, rfl, ?_⟩⟩⟩
    have hys := ss_of hC.nd hp hs
    rw [← hss] at hys
    subst hys
    refine for_seq (xs := ys.map V.str) (.inl (.inl (.inl upd_same))) (fun i σ H1 => ∃ y, σ = [some (.ref d), y, none, none] ∧ (∀ (j : Nat) (u : Str), j < i → ys[j]? = some u → ¬ Cyc (clC cs) u) ∧ Mv [] (upd H p (.lst (ys.map V.str))) H1)
      ⟨none, rfl, fun j u hj => absurd hj (Nat.not_lt_zero _), .refl⟩ (fun i σ H1 h1 => h1.choose_spec.2.2) (fun i y σ H1 hy h1 => ?_) (fun σ H1 h1 => ?_)
    · obtain ⟨y0, rfl, n1, m1⟩ := h1
      rw [List.getElem?_map] at hy
      obtain ⟨y, hyy, rfl⟩ := Option.map_eq_some_iff.mp hy
      have hyn := inS (List.mem_of_getElem? hyy)
      have m01 := (Mv.new (S := []) np).trans m1
      refine ⟨1, 8, rfl, ⟨by decide, by decide, by decide, by decide⟩, fun D nD => ?_⟩
      refine lc_range (lo := 1) (n := ((8 : Int) - 1).toNat) (fun j H2 => ∃ os : List V, H2 D = some (.lst os) ∧ os.length ≤ j ∧ (os ≠ [] ↔ ∃ k : Nat, 1 ≤ k ∧ k < j + 1 ∧ EndK (clC cs) k y y) ∧ Mv [] H1 H2)
        ⟨[], upd_same, Nat.zero_le _, ⟨fun h => absurd rfl h, fun ⟨k, h1, h2, _⟩ => by omega⟩, .new nD⟩ (fun j H2 hj h2 => ?_) (fun H2 h2 => ?_)
      · obtain ⟨os, e2, l2, c2, m2⟩ := h2
        have hj7 : j < 7 := hj
        have hC2 := hC.mv (m01.trans m2)
        refine ⟨rfl, .str y, rfl, .ref d, rfl, .str y, rfl, .int (1 + j), rfl, d, cs, y, 1 + j, ?_, hC2, hO, hyn, by omega, fun pr F H3 nF cF npr m3 e3 => ?_⟩
        · show _ = [V.ref d, V.str y, V.int ((1 + j : Nat) : Int)]
          rw [show ((1 + j : Nat) : Int) = 1 + (j : Int) by omega]
          rfl
        refine rd_inU e3 nF (hNm y hyn) ⟨_, rfl, ite2 (fun e => ?_) (fun e => ?_)⟩
        · have he : EndK (clC cs) (1 + j) y y := (cF y).mp (by simpa using e)
          refine ⟨os, m3.same _ _ e2, Nat.lt_of_le_of_lt (show os.length ≤ 100 by omega) (by decide), os ++ [.int 1], upd_same, by simp; omega, ⟨fun _ => ⟨1 + j, by omega, by omega, he⟩, fun _ => by simp⟩, (m2.trans m3).wr nD⟩
        · have he : ¬ EndK (clC cs) (1 + j) y y := fun h => by
            have := (cF y).mpr h
            simp at e
            exact e this
          refine ⟨os, m3.same _ _ e2, by omega, ⟨fun h => ?_, fun ⟨k, k1, k2, hk⟩ => ?_⟩, m2.trans m3⟩
          · obtain ⟨k, k1, k2, hk⟩ := c2.mp h
            exact ⟨k, k1, by omega, hk⟩
          · rcases Nat.lt_or_ge k (j + 1) with h | h
            · exact c2.mpr ⟨k, k1, h, hk⟩
            · have : k = 1 + j := by omega
              rw [this] at hk
              exact absurd hk he
      obtain ⟨os, e2, l2, c2, m2⟩ := h2
      have hcy : os ≠ [] ↔ Cyc (clC cs) y := by rw [c2, cyc_end (clC_sub hO) h7]; rfl
      refine ⟨Nat.zero_le _, fun q1 n2 => ⟨D, q1, os, rfl, rfl, .inl (.inl (same_new n2 _ _ e2)), .inl (.inl upd_same), ?_⟩⟩
      have m13 : Mv [] H1 (upd H2 q1 (.lst [])) := m2.trans (.new n2)
      generalize upd H2 q1 (.lst []) = H3 at m13 ⊢
      refine ⟨_, rfl, ite2 (fun e => ?_) (fun e => ?_)⟩
      · have hc := hcy.mp (by simpa using e)
        refine ⟨.str y, rfl, ?_⟩
        have := q H3 (m01.trans m13)
        rw [bad_cyc hyy hc n1] at this
        exact this
      · have hc : ¬ Cyc (clC cs) y := fun h => by
          have := hcy.mpr h
          simp at e
          exact this e
        refine ⟨_, rfl, fun j u hj hu => ?_, m1.trans m13⟩
        rcases Nat.lt_succ_iff_lt_or_eq.mp hj with h | h
        · exact n1 j u h hu
        · rw [h, hyy] at hu
          cases hu
          exact hc
    obtain ⟨y1, rfl, n1, m1⟩ := h1
    have m01 := (Mv.new (S := []) (o := .lst (ys.map V.str)) np).trans m1
    rw [List.length_map] at n1
    have hcy : ∀ u ∈ ys, ¬ Cyc (clC cs) u := fun u hu => by
      obtain ⟨j, hj⟩ := List.getElem?_of_mem hu
      exact n1 j u (List.getElem?_eq_some_iff.mp hj).1 hj
    have hC1 := hC.mv m01
    clear n1 m1 hp hs
    refine ⟨.ref d, rfl, Or.inl ⟨d, _, cs.map (·.nm), rfl, .inl hC1.at_, ck_keys cs, hlz, fun ys2 p2 hp hs np2 => ⟨p2, rfl, ?_⟩⟩⟩
    have hys := ss_of hC.nd hp hs
    rw [← hss] at hys
    subst hys
    have hyl : ys2.length ≤ 7 := by
      rw [hss]
      show (srt leS id _).length ≤ 7
      rw [srt_len]
      exact h7
    have m02 : Mv [] H (upd H1 p2 (.lst (ys2.map V.str))) := m01.trans (.new np2)
    have e02 : upd H1 p2 (.lst (ys2.map V.str)) p2 = some (.lst (ys2.map V.str)) := upd_same
    generalize upd H1 p2 (.lst (ys2.map V.str)) = H2 at m02 e02 ⊢
    refine lc_seq (xs := ys2.map V.str) (.inl (.inl (.inl e02))) (fun i D H3 => H3 D = some (.lst ((farOf (clC cs) (ys2.take i)).map V.str)) ∧ Mv [] H2 H3)
      (fun D nD => ⟨upd_same, .new nD⟩) (fun i D H3 nD h3 => h3.2) (fun D nD i u H3 hu h3 => ?_) (fun D H3 nD h3 => ?_)
    · obtain ⟨e3, m3⟩ := h3
      rw [List.getElem?_map] at hu
      obtain ⟨u, huu, rfl⟩ := Option.map_eq_some_iff.mp hu
      have hun := inS (List.mem_of_getElem? huu)
      have htk : ys2.take (i + 1) = ys2.take i ++ [u] := by rw [List.take_add_one, huu]; rfl
      refine ⟨rfl, .ref d, rfl, .str u, rfl, d, cs, u, 3, rfl, hC.mv (m02.trans m3), hO, hun, by omega, fun pr F H4 nF cF npr m4 e4 => ?_⟩
      refine ⟨Nat.zero_le _, fun q1 n1 => ⟨pr, q1, F.map V.str, rfl, rfl, .inl (.inl (same_new n1 _ _ e4)), .inl (.inl upd_same), ?_⟩⟩
      have m35 : Mv [] H3 (upd H4 q1 (.lst [])) := m4.trans (.new n1)
      generalize upd H4 q1 (.lst []) = H5 at m35 ⊢
      have hfar : F ≠ [] ↔ Far (clC cs) u := by
        rw [far_end]
        constructor
        · intro h
          obtain ⟨y, hy⟩ := List.exists_mem_of_ne_nil F h
          exact ⟨y, (cF y).mp hy⟩
        · rintro ⟨y, hy⟩ h
          have := (cF y).mpr hy
          rw [h] at this
          cases this
      refine ⟨_, rfl, ite2 (fun e => ?_) (fun e => ?_)⟩
      · have hf := hfar.mp (by simpa using e)
        refine ⟨.str u, rfl, _, m35.same _ _ e3, ?_, ?_, (m3.trans m35).wr nD⟩
        · rw [List.length_map]
          have := far_len (clC cs) (ys2.take i)
          rw [List.length_take] at this
          exact Nat.lt_of_le_of_lt (show _ ≤ 100 by omega) (by decide)
        · rw [upd_same, htk, far_yes hf, List.map_append]
          rfl
      · have hf : ¬ Far (clC cs) u := fun h => by
          have := hfar.mpr h
          simp at e
          exact this e
        refine ⟨?_, m3.trans m35⟩
        rw [htk, far_no hf]
        exact m35.same _ _ e3
    · obtain ⟨e3, m3⟩ := h3
      rw [List.length_map, List.take_length] at e3
      refine ⟨.ref D, rfl, Nat.zero_le _, fun q1 n1 => ⟨D, q1, _, rfl, rfl, .inl (.inl (same_new n1 _ _ e3)), .inl (.inl upd_same), ?_⟩⟩
      have m04 : Mv [] H (upd H3 q1 (.lst [])) := m02.trans (m3.trans (.new n1))
      have e4 : upd H3 q1 (.lst []) D = some (.lst ((farOf (clC cs) ys2).map V.str)) := same_new n1 _ _ e3
      generalize upd H3 q1 (.lst []) = H4 at m04 e4 ⊢
      have q4 := q H4 m04
      rw [bad_head hcy] at q4
      refine ⟨_, rfl, ?_⟩
      cases hf : farOf (clC cs) ys2 with
      | nil =>
        rw [hf] at q4
        exact q4
      | cons u r =>
        rw [hf] at q4 e4
        exact ⟨.ref D, rfl, rd_ixL (.inl (.inl e4)) (by decide) (v := .str u) rfl q4⟩
theorem ok__law_heard (T : TX K mg) (Y : TY P K mg) {k : Nat} : FnOk P w K mg base CX0 (k + 14) T.d__law_heard.f T.d__law_heard.fd P__law_heard (sp_heard K) := by
  have G_World___init__ : FnOk P w K mg base CX0 5 T.d_World___init__.f T.d_World___init__.fd P_World___init__ (sp_World K T.C_World) := ok_World___init__ T
  have G_Unit___init__ : FnOk P w K mg base (CX P w) 12 T.d_Unit___init__.f T.d_Unit___init__.fd P_Unit___init__ (sp_Unit K T.C_Unit T.C_World Y.C_BadFunction) := ok_Unit___init__ T Y
  have G_Unit_functions : FnOk P w K mg base CX0 1 T.d_Unit_functions.f T.d_Unit_functions.fd P_Unit_functions (sp_Ufuns T.C_Unit) := ok_Unit_functions T
  refine T.d__law_heard.F.ok sc__law_heard (fun vs H Q E h => ?_) (fun cdv A outer s H vs Q E hr h => ?_)
  · obtain ⟨_, _, rfl, _⟩ := h
    rfl
  · obtain ⟨d, zs, rfl, hA, hO, q⟩ := h
    have hu64 := hr.units
    have hNm : ∀ y ∈ zs.map (·.r.nm), Nm y := fun y hy => by
      obtain ⟨z, hz, rfl⟩ := List.mem_map.mp hy
      exact hO.nm z.r (List.mem_map.mpr ⟨z, hz, rfl⟩)
    have hlen : (zs.map (·.r.nm)).length ≤ 7 := by
      have := hO.few
      rw [List.length_map] at this ⊢
      exact this
    have hlz : (zs.map (·.r.nm)).length < 64 := by omega
    refine ⟨_, (pss_one (ps_try_as (i := 1) rfl rfl sc__law_heard.nd rfl rfl ⟨rfl, by decide, Or.inl Y.x_MoveError.gC⟩ takes0 (fun W pn xe tk po => (pss_one (ps_ret (pe_ifExp (pt_cmpR (r := rEqG K) (op_eqG hu64) (pe_methSl0 (pe_makeS ⟨T.mk_Unit, T.d_Unit___init__.M.at_, T.d_Unit___init__.M.fn, T.k_Unit⟩ G_Unit___init__ (hr.mono (by omega)) rfl T.g_Unit T.d_Unit___init__.b (fun σ => passAt tk σ) (pa_cons (pe_make ⟨T.mk_World, T.d_World___init__.M.at_, T.d_World___init__.M.fn, T.k_World⟩ G_World___init__ (hr.mono (by omega)) rfl T.g_World T.d_World___init__.b .nil pass0 (pa_cons pe_dnewK pa_nil)) (pa_cons (pv 0) pa_nil))) T.c_Unit T.d_Unit_functions.M (fnR_of G_Unit_functions T.d_Unit_functions.b) (hr.mono (by omega)) pass0) (pe_callB (r := rSortA K) (cr_sortA rfl) (by rfl) T.b_sorted bt_sorted (pa_cons (pv 0) pa_nil)) (nomark _)) pe_non pe_str)))) (fun a oe cls d pn hz hf => (pss_one (ps_ret (pe_ifExp (PW.pt (pw_and (pt_val (pe_callB (call_isX hz hf) (by rfl) T.b_isinstance bt_isinstance (pa_cons (pv 1) (pa_cons (pe_glob rfl Y.x_BadFunction.gC (show L2.RelV (.ref Y.C_BadFunction) _ from rfl)) pa_nil)))) (pw_and1 (pt_val (pe_callB (call_isX hz hf) (by rfl) T.b_isinstance bt_isinstance (pa_cons (pv 1) (pa_cons (pe_ty T.b_ValueError bt_ValueError) pa_nil))))))) (pe_xfG hz hf (pv 1)) (pe_lst (pa_cons pe_str pa_nil)))))))), ?_⟩
    intro pe npe
    have m1 : Mv [] H (upd H pe (.dK [])) := .new npe
    have e1 : upd H pe (.dK []) pe = some (.dK []) := upd_same
    generalize upd H pe (.dK []) = H1 at m1 e1 ⊢
    intro xw dw nxw ndw new
    refine ⟨xw, dw, pe, [], H1, rfl, rfl, nxw, ndw, new, ⟨e1, List.nodup_nil, fun z hz => absurd hz List.not_mem_nil, fun z hz => absurd hz List.not_mem_nil, fun z hz => absurd hz List.not_mem_nil⟩, fun z hz => absurd hz List.not_mem_nil, by decide, fun H2 m2 hW2 => ⟨rfl, ?_⟩⟩
    have m02 := m1.trans m2
    refine ⟨.ref d, rfl, ?_⟩
    intro xu du nxu ndu neu
    refine ⟨xu, du, xw, d, _, zs, H2, rfl, rfl, nxu, ndu, neu, hW2.at_, hA.mv m02, hO, fun hb H3 m3 hU => ⟨rfl, ?_⟩, fun y hb dd H3 m3 ndd => ?_⟩
    · obtain ⟨dxx, df, wx, kvs, hs, hdf, hk⟩ := id hU
      have m03 := m02.trans m3
      refine ⟨xu, dxx, _, rfl, hs, xu, _, rfl, hU, fun p np => ?_⟩
      have m4 : Mv [] H (upd H3 p (.lst ((ssOf (zs.map (·.r.nm))).map V.str))) := m03.trans (.new np)
      have e4 : upd H3 p (.lst ((ssOf (zs.map (·.r.nm))).map V.str)) p = some (.lst ((ssOf (zs.map (·.r.nm))).map V.str)) := upd_same
      generalize upd H3 p (.lst ((ssOf (zs.map (·.r.nm))).map V.str)) = H4 at m4 e4 ⊢
      refine ⟨.ref d, rfl, Or.inl ⟨d, _, zs.map (·.r.nm), rfl, .inl (hA.mv m4).at_, fk_keys zs, hlz, fun ys p2 hp hs2 np2 => ?_⟩⟩
      have hys := ss_of hA.nd hp hs2
      rw [hys]
      refine rd_eqS (same_new np2 _ _ e4) upd_same (fun y hy => nm_ok (hNm y (ss_mem.mp hy))) ⟨_, rfl, ?_⟩
      have := q _ (m4.trans (.new (o := .lst ((ssOf (zs.map (·.r.nm))).map V.str)) np2))
      rw [hb] at this
      exact this
    · refine ⟨true, Y.em_BadFunction_MoveError, fun _ a na => ?_, fun z => by cases z⟩
      have e4 : upd H3 dd (.xd [("name", .str y)]) dd = some (.xd [("name", .str y)]) := upd_same
      have m4 : Mv [] H (upd H3 dd (.xd [("name", .str y)])) := (m02.trans m3).trans (.new ndd)
      generalize upd H3 dd (.xd [("name", .str y)]) = H4 at e4 m4 na ⊢
      refine ⟨.ref a, rfl, ?_⟩
      walk_at "nc"
      refine ⟨Y.C_BadFunction, .ref Y.C_BadFunction, .ref Y.C_BadFunction, true, rfl, Y.xc_BadFunction, .inr ⟨dd, _, rfl, e4⟩, rfl, fun _ h => h, kitOne_self _, ⟨_, rfl, ?_⟩⟩
      refine ⟨.ref a, rfl, Y.C_BadFunction, .ty "ValueError", .type "ValueError", true, rfl, Y.xc_BadFunction, .inr ⟨dd, _, rfl, e4⟩, rfl, fun _ h => h, Y.ev_BadFunction, ⟨_, rfl, ?_⟩⟩
      refine ⟨.ref a, rfl, rfl, Y.C_BadFunction, dd, _, .str y, rfl, xfC_ofU Y.xc_BadFunction, Y.x_BadFunction.no, rfl, e4, rfl, ?_⟩
      have := q _ m4
      rw [hb] at this
      exact this
end
end Fm
namespace Fm
open PySem PySem.Spec PyProof.Rows L2
local macro_rules | `(tactic| walk_at "nn") => `(tactic| dsimp only [tC, tNil, tCons, tCB, tCall, gName, tSeq, tAsg, tPar, tDrop, tRet])
/-- values by numbers: in a list, a tuple, a dict -/
def Look1 (K : PySem.W.Frag) (H : Hp) (vals : V) (P : Int → Prop) (f : Int → Tm) : Prop := ∃ a, vals = .ref a ∧
  ((∃ xs, SqL K H a xs ∧ ∀ i, P i → 0 ≤ i ∧ ∃ v, xs[i.toNat]? = some v ∧ Im K H v (f i).d) ∨
   (∃ xs, SqT K H a xs ∧ ∀ i, P i → 0 ≤ i ∧ ∃ v, xs[i.toNat]? = some v ∧ Im K H v (f i).d) ∨
   (∃ kvs, H a = some (.dK kvs) ∧ ∀ i, P i → ∃ v, valV kvs (.inl i) = some v ∧ Im K H v (f i).d))
theorem Look1.mv {K : PySem.W.Frag} {H H' : Hp} {vals : V} {P : Int → Prop} {f : Int → Tm} (h : Look1 K H vals P f) (m : Mv [] H H') : Look1 K H' vals P f := by
  obtain ⟨a, rfl, h⟩ := h
  refine ⟨a, rfl, ?_⟩
  rcases h with ⟨xs, h1, h2⟩ | ⟨xs, h1, h2⟩ | ⟨xs, h1, h2⟩
  · refine .inl ⟨xs, m.same.seq h1, fun i hi => ?_⟩
    obtain ⟨h0, v, hv, hm⟩ := h2 i hi
    exact ⟨h0, v, hv, hm.mv m⟩
  · refine .inr (.inl ⟨xs, m.sqT h1, fun i hi => ?_⟩)
    obtain ⟨h0, v, hv, hm⟩ := h2 i hi
    exact ⟨h0, v, hv, hm.mv m⟩
  · refine .inr (.inr ⟨xs, m.same _ _ h1, fun i hi => ?_⟩)
    obtain ⟨v, hv, hm⟩ := h2 i hi
    exact ⟨v, hv, hm.mv m⟩
def sp_put (K : PySem.W.Frag) (d : Nat) : Sp := fun vs H Q _ => ∃ (v vals : V) (t : Tm) (P : Int → Prop) (f : Int → Tm), vs = [v, vals] ∧ Im K H v t.d ∧ t.ok P ∧ t.dep < d ∧ Look1 K H vals P f ∧
  ∀ v' H', Mv [] H H' → Im K H' v' (t.put f).d → Q v' H'
section
variable {P : Program} {w : World} {K : PySem.W.Frag} {mg : Str → Option Value} {base : Heap}

end
end Fm
namespace Fm
open PySem PySem.Spec PyProof.Rows L2
local macro_rules | `(tactic| walk_at "nn") => `(tactic| dsimp only [tC, tNil, tCons, tCB, tCall, gName, tSeq, tAsg, tPar, tDrop, tRet])
theorem line5 {n : Nat} (h : n ≤ 100000) : n ≤ sizeLine := Nat.le_trans h (by decide)
theorem line5lt {n : Nat} (h : n ≤ 100000) : n < sizeLine := Nat.lt_of_le_of_lt h (by decide)
theorem Tm.mem_parts {x : Str} {us ts : List Tm} (h : Tm.op x us ∈ ts) : Tm.deps us < Tm.deps ts := by
  have := Tm.deps_le.mp (show Tm.deps ts ≤ Tm.deps ts from Nat.le_refl _) _ h
  simp only [Tm.dep] at this
  omega
theorem Tm.lv_mem : ∀ {t : Tm} {ts : List Tm}, t ∈ ts → t.lv ≤ Tm.lvs ts
  | t, u :: ts, h => by
    rcases List.mem_cons.mp h with rfl | h
    · simp only [Tm.lvs]; omega
    · have := Tm.lv_mem h
      simp only [Tm.lvs]; omega
theorem Tm.lvs_take : ∀ (i : Nat) (ts : List Tm), Tm.lvs (ts.take i) ≤ Tm.lvs ts
  | 0, ts => by simp [Tm.lvs]
  | i + 1, [] => by simp [Tm.lvs]
  | i + 1, t :: ts => by
    have := Tm.lvs_take i ts
    simp only [List.take_succ_cons, Tm.lvs]
    omega
def sp_leavesR (K : PySem.W.Frag) (d : Nat) : Sp := fun vs H Q _ => ∃ (a : Addr) (xs : List V) (ts : List Tm), vs = [.ref a] ∧ (SqL K H a xs ∨ SqT K H a xs) ∧ Ims K H xs (Tm.ds ts) ∧ Tm.deps ts < d ∧ Tm.lvs ts ≤ 100000 ∧
  ∀ p H', H p = none → Mv [] H H' → H' p = some (.lst ((Tm.leavesL ts).map V.int)) → Q (.ref p) H'
def sp_sizeR (K : PySem.W.Frag) (d : Nat) : Sp := fun vs H Q _ => ∃ (a : Addr) (xs : List V) (ts : List Tm), vs = [.ref a] ∧ (SqL K H a xs ∨ SqT K H a xs) ∧ Ims K H xs (Tm.ds ts) ∧ Tm.deps ts < d ∧ ts.length ≤ 100000 ∧ Tm.oks (fun _ => True) ts ∧
  ∀ H', Mv [] H H' → Q (.int (Tm.sizes ts)) H'
section
variable {P : Program} {w : World} {K : PySem.W.Frag} {mg : Str → Option Value} {base : Heap}
end
end Fm
namespace Fm
open PySem PySem.Spec PyProof.Rows L2
local macro_rules | `(tactic| walk_at "nn") => `(tactic| dsimp only [tC, tNil, tCons, tCB, tCall, gName, tSeq, tAsg, tPar, tDrop, tRet])
local macro_rules | `(tactic| walk_at "nc") => `(tactic| dsimp only [tC, tNil, tCons, tCB])
/-- names at hand -/
structure Nms (H : Hp) (b nm : Addr) (xs : List Str) : Prop where
  at_ : H nm = some (.lst (xs.map V.str))
  ne : nm ≠ b
  some_ : xs ≠ []
  few : xs.length ≤ 1000
  ok : ∀ x ∈ xs, Nm x
theorem Nms.dr {H H' : Hp} {b nm : Addr} {xs : List Str} (h : Nms H b nm xs) (d : Dr b H H') : Nms H' b nm xs := ⟨d.get h.ne h.at_, h.ne, h.some_, h.few, h.ok⟩
def sp_alike (K : PySem.W.Frag) : Sp := fun vs H Q _ => ∃ (x y : V) (d : PyData), vs = [x, y] ∧ Dp K H x d ∧ Dp K H y d ∧ Shw d ∧ Q (.bl true) H
section
variable {P : Program} {w : World} {K : PySem.W.Frag} {mg : Str → Option Value} {base : Heap}
theorem ok__law_alike (T : TX K mg) {k : Nat} : FnOkG P w K mg base CX0 (k + 1) T.d__law_alike.f T.d__law_alike.fd P__law_alike (sp_alike K) := by
  refine okG T.d__law_alike.F sc__law_alike (fun vs H Q E h => ?_) (fun cdv A outer s H vs Q E hgd hr h => ?_)
  · obtain ⟨_, _, _, rfl, _⟩ := h
    rfl
  · obtain ⟨x, y, d, rfl, hx, hy, hs, q⟩ := h
    have hu64 := hr.units
    refine ⟨_, (pss_one (ps_ret (pe_and (pe_cmpR (r := rEqG K) (op_eqG hu64) (pv 0) (pv 1) (nomark _)) (pe_one (pe_cmpR (r := rEqG K) (op_eqG hu64) (pe_callB (r := rReprG K) (call_reprG hgd hu64) (by rfl) T.b_repr bt_repr (pa_cons (pv 0) pa_nil)) (pe_callB (r := rReprG K) (call_reprG hgd hu64) (by rfl) T.b_repr bt_repr (pa_cons (pv 1) pa_nil)) (nomark _)))))), ?_⟩
    have hf := fine_lay d hs.fi
    refine ⟨x, rfl, y, rfl, Or.inr ⟨d, d, hx, hy, hs.shaped, hs.shaped, _, rfl, ?_⟩⟩
    rw [hs.eqv]
    refine ⟨x, rfl, ?_⟩
    walk_at "nc"
    refine ⟨x, d, rfl, hx, hf.2.1, hf.2.2, hs.dp, hs.len, y, rfl, ?_⟩
    refine ⟨y, d, rfl, hy, hf.2.1, hf.2.2, hs.dp, hs.len, Or.inl ⟨rfl, ?_⟩⟩
    rw [decide_eq_true rfl]
    exact q
theorem ints_shaped : ∀ o : List Int, SeqAt.shaped (.list (o.map PyData.int)) = true := fun o => by
  have h1 : ∀ o : List Int, PyData.canLayAll0 (o.map PyData.int) = true := fun o => by
    induction o with
    | nil => rfl
    | cons x o ih => simp [PyData.canLayAll0, PyData.canLay0, ih]
  have h2 : ∀ o : List Int, PyData.depthAll (o.map PyData.int) = 0 := fun o => by
    induction o with
    | nil => rfl
    | cons x o ih => simp [PyData.depthAll, PyData.depth, ih]
  show (PyData.canLay0 (.list (o.map PyData.int)) && decide (PyData.depth (.list (o.map PyData.int)) ≤ 64)) = true
  simp only [PyData.canLay0, PyData.depth, h1, h2]
  rfl
theorem dp_ints {H : Hp} : ∀ o : List Int, DpAll K H (o.map V.int) (o.map PyData.int)
  | [] => .nil
  | x :: o => .cons (.int x) (dp_ints o)
theorem ints_any (o : List Int) (u : Int) : ((o.map PyData.int).any fun z => PyData.eqv z (.int u)) = decide (u ∈ o) := by
  rw [List.any_map]
  have e : ((fun z => PyData.eqv z (.int u)) ∘ PyData.int) = fun z => z == u := by
    funext z
    simp [PyData.eqv]
  rw [e, Bool.eq_iff_iff]
  simp
end
end Fm
namespace Fm
open PySem PySem.Spec PyProof.Rows L2
local macro_rules | `(tactic| walk_at "nn") => `(tactic| dsimp only [tC, tNil, tCons, tCB, tCall, gName, tSeq, tAsg, tPar, tDrop, tRet])
/-- a list or tuple in some other order -/
def sp_mixG (K : PySem.W.Frag) : Sp := fun vs H Q _ => ∃ (b l : Addr) (xs : List V), vs = [.ref b, .ref l] ∧ Bag H b ∧ ((H l = some (.lst xs) ∧ l ≠ b) ∨ SqT K H l xs) ∧ xs.length ≤ 1000 ∧
  ∀ (p : Addr) (ys : List V) H', ys.Perm xs → H p = none → H' p = some (.lst ys) → Dr b H H' → Q (.ref p) H'
theorem perm_ins {α : Type} (ms : List α) (j : Nat) (u : α) : (ms.take j ++ [u] ++ ms.drop j).Perm (ms ++ [u]) := by
  have h1 : (ms.take j ++ [u] ++ ms.drop j).Perm (ms.take j ++ (ms.drop j ++ [u])) := by
    rw [List.append_assoc]
    exact List.Perm.append_left _ List.perm_append_comm
  rw [← List.append_assoc, List.take_append_drop] at h1
  exact h1
section
variable {P : Program} {w : World} {K : PySem.W.Frag} {mg : Str → Option Value} {base : Heap}
theorem ok__law_mixed (T : TX K mg) {k : Nat} : FnOk P w K mg base CX0 (k + 2) T.d__law_mixed.f T.d__law_mixed.fd P__law_mixed (sp_mixG K) := by
  have G__law_take : FnOk P w K mg base CX0 1 T.d__law_take.f T.d__law_take.fd P__law_take sp_take := ok__law_take T
  refine T.d__law_mixed.F.ok sc__law_mixed (fun vs H Q E h => ?_) (fun cdv A outer s H vs Q E hr h => ?_)
  · obtain ⟨_, _, _, rfl, _⟩ := h
    rfl
  · obtain ⟨b, l, xs, rfl, hB, hl, hln, q⟩ := h
    refine ⟨_, (pss_cons (ps_set (i := 2) sc__law_mixed.nd rfl (Or.inl rfl) (pe_lst pa_nil)) (pss_cons (ps_for PassesOwn.never rfl (pi_seq (pv 1)) (pg_name (i := 3) sc__law_mixed.nd rfl (Or.inl rfl)) (pss_one (ps_expr (pe_bm PySem.F.plainAttrs_list PySem.F.slot_list_insert PySem.F.type_list_insert mt_insert (pv 2) (pa_cons (pe_call G__law_take (hr.mono (by omega)) rfl T.d__law_take.g T.d__law_take.F.kp T.d__law_take.b .nil pass0 (pa_cons (pv 0) (pa_cons (pe_op (r := rAddG K) op_addG (pe_callB (r := rLenG K) call_lenG (by rfl) T.b_len bt_len (pa_cons (pv 2) pa_nil)) pe_int) pa_nil))) (pa_cons (pv 3) pa_nil)))))) (pss_one (ps_ret (pv 2))))), ?_⟩
    refine ⟨Nat.zero_le _, fun p np => ⟨.ref l, rfl, l, rfl, ?_⟩⟩
    have hpb : p ≠ b := hB.fneq np
    rcases hl with ⟨hl, hlb⟩ | hl
    · refine Or.inl ⟨⟨_, .inl (.inl (same_new np _ _ hl))⟩, ?_⟩
      refine for_list (K := K) (a := l) (xs := xs) (fun i σ H2 => ∃ (ms : List V) (y : Option V), σ = [some (.ref b), some (.ref l), some (.ref p), y] ∧ H2 p = some (.lst ms) ∧ ms.Perm (xs.take i) ∧ Dr b H H2)
        ⟨[], none, rfl, upd_same, by simp, Dr.new np⟩ (fun i σ H2 _ h2 => ?_) (fun i x σ H2 hx h2 => ?_) (fun σ H2 h2 => ?_)
      · obtain ⟨_, _, _, _, _, d⟩ := h2
        exact .inl (.inl (d.get hlb hl))
      · obtain ⟨ms, y, rfl, e2, s2, d2⟩ := h2
        have hi := (List.getElem?_eq_some_iff.mp hx).1
        have l2 : ms.length = i := by rw [s2.length_eq, List.length_take]; omega
        refine ⟨.ref p, rfl, .inl ⟨rfl, _, .inl (.inl e2)⟩, .ref b, rfl, .ref p, rfl, ?_⟩
        walk_at "nn"
        refine rd_len (.inl (.inl (.inl e2))) ?_
        refine Or.inl ⟨_, 1, rfl, rfl, b, _, rfl, d2.bag hB, by omega, by omega, fun j H3 hj0 hj1 d3 => ?_⟩
        have e3 := d3.get hpb e2
        refine ⟨x, rfl, p, _, j, x, rfl, rfl, e3, small1000 (by omega), hj0, by omega, ?_⟩
        refine ⟨ms.take j.toNat ++ [x] ++ ms.drop j.toNat, _, rfl, ?_, ?_, (d2.trans d3).wr np⟩
        · rw [upd_same]
          first | done | simp
        · rw [List.take_add_one, hx]
          exact (perm_ins ms j.toNat x).trans (s2.append_right _)
      · obtain ⟨ms, y, rfl, e2, s2, d2⟩ := h2
        rw [List.take_length] at s2
        exact ⟨.ref p, rfl, q p ms H2 s2 np e2 d2⟩
    · refine Or.inr ⟨⟨_, (Mv.new (S := []) np).sqT hl⟩, ?_⟩
      refine for_tup (K := K) (a := l) (xs := xs) (fun i σ H2 => ∃ (ms : List V) (y : Option V), σ = [some (.ref b), some (.ref l), some (.ref p), y] ∧ H2 p = some (.lst ms) ∧ ms.Perm (xs.take i) ∧ Dr b H H2)
        ⟨[], none, rfl, upd_same, by simp, Dr.new np⟩ (fun i σ H2 _ h2 => ?_) (fun i x σ H2 hx h2 => ?_) (fun σ H2 h2 => ?_)
      · obtain ⟨_, _, _, _, _, d⟩ := h2
        exact d.mv.sqT hl
      · obtain ⟨ms, y, rfl, e2, s2, d2⟩ := h2
        have hi := (List.getElem?_eq_some_iff.mp hx).1
        have l2 : ms.length = i := by rw [s2.length_eq, List.length_take]; omega
        refine ⟨.ref p, rfl, .inl ⟨rfl, _, .inl (.inl e2)⟩, .ref b, rfl, .ref p, rfl, ?_⟩
        walk_at "nn"
        refine rd_len (.inl (.inl (.inl e2))) ?_
        refine Or.inl ⟨_, 1, rfl, rfl, b, _, rfl, d2.bag hB, by omega, by omega, fun j H3 hj0 hj1 d3 => ?_⟩
        have e3 := d3.get hpb e2
        refine ⟨x, rfl, p, _, j, x, rfl, rfl, e3, small1000 (by omega), hj0, by omega, ?_⟩
        refine ⟨ms.take j.toNat ++ [x] ++ ms.drop j.toNat, _, rfl, ?_, ?_, (d2.trans d3).wr np⟩
        · rw [upd_same]
          first | done | simp
        · rw [List.take_add_one, hx]
          exact (perm_ins ms j.toNat x).trans (s2.append_right _)
      · obtain ⟨ms, y, rfl, e2, s2, d2⟩ := h2
        rw [List.take_length] at s2
        exact ⟨.ref p, rfl, q p ms H2 s2 np e2 d2⟩
end
end Fm
/-! what the law holds while it draws -/
namespace Fm
open PySem PySem.Spec PyProof.Rows L2 SlX
section
variable {α β : Type}
def putL (k : α → Str) (xs : List α) (x : α) : List α := if k x ∈ xs.map k then xs.map (fun y => if k y = k x then x else y) else xs ++ [x]
theorem putL_kv {k : α → Str} {g : α → V} (xs : List α) (x : α) : putK (xs.map fun y => ((Sum.inr (k y) : L2.Key), g y)) (.inr (k x)) (g x) = (putL k xs x).map fun y => ((Sum.inr (k y) : L2.Key), g y) := by
  unfold putL
  by_cases h : k x ∈ xs.map k
  · rw [if_pos h]
    unfold putK
    have : ((xs.map fun y => ((Sum.inr (k y) : L2.Key), g y)).any fun kv => decide (kv.1 = Sum.inr (k x))) = true := by
      obtain ⟨e, he, e2⟩ := List.mem_map.mp h
      exact List.any_eq_true.mpr ⟨_, List.mem_map.mpr ⟨e, he, rfl⟩, by simp [e2]⟩
    rw [if_pos this, List.map_map, List.map_map]
    refine List.map_congr_left fun e _ => ?_
    simp only [Function.comp]
    by_cases hx : k e = k x
    · rw [if_pos hx, if_pos (by simp [hx])]
      simp [hx]
    · rw [if_neg hx, if_neg (fun y => hx (Sum.inr.inj y))]
  · rw [if_neg h, putK_new (by
      rw [List.map_map]
      intro y
      obtain ⟨u, hu, e⟩ := List.mem_map.mp y
      exact h (List.mem_map.mpr ⟨u, hu, Sum.inr.inj e⟩)), List.map_append]
    rfl
theorem putL_keys {k : α → Str} (xs : List α) (x : α) : (putL k xs x).map k = if k x ∈ xs.map k then xs.map k else xs.map k ++ [k x] := by
  unfold putL
  split
  · rw [List.map_map]
    refine List.map_congr_left fun e _ => ?_
    simp only [Function.comp]
    split
    · rename_i h; exact h.symm
    · rfl
  · rw [List.map_append]
    rfl
theorem putL_nd {k : α → Str} {xs : List α} (x : α) (n : (xs.map k).Nodup) : ((putL k xs x).map k).Nodup := by
  rw [putL_keys]
  split
  · exact n
  · rename_i h
    rw [List.nodup_append]
    exact ⟨n, by simp, fun a ha b hb => by
      rw [List.mem_singleton] at hb
      rw [hb]
      rintro rfl
      exact h ha⟩
theorem putL_mem {k : α → Str} {xs : List α} {x y : α} (h : y ∈ putL k xs x) : y ∈ xs ∨ y = x := by
  unfold putL at h
  split at h
  · obtain ⟨f, hf, rfl⟩ := List.mem_map.mp h
    split
    · exact .inr rfl
    · exact .inl hf
  · rcases List.mem_append.mp h with h | h
    · exact .inl h
    · exact .inr (List.mem_singleton.mp h)
theorem putL_len {k : α → Str} (xs : List α) (x : α) : (putL k xs x).length ≤ xs.length + 1 ∧ 0 < (putL k xs x).length := by
  unfold putL
  split
  · rename_i h
    obtain ⟨e, he, _⟩ := List.mem_map.mp h
    rw [List.length_map]
    have := List.length_pos_of_mem he
    omega
  · simp
theorem putL_has {k : α → Str} {xs : List α} {x : α} : k x ∈ (putL k xs x).map k := by
  rw [putL_keys]
  split
  · rename_i h; exact h
  · simp
theorem putL_old {k : α → Str} {xs : List α} {x : α} {y : Str} (h : y ∈ xs.map k) : y ∈ (putL k xs x).map k := by
  rw [putL_keys]
  split
  · exact h
  · exact List.mem_append.mpr (.inl h)
theorem putL_map {k : α → Str} {kb : β → Str} {f : α → β} (hf : ∀ y, kb (f y) = k y) (xs : List α) (x : α) : (putL k xs x).map f = putL kb (xs.map f) (f x) := by
  have hk : (xs.map f).map kb = xs.map k := by
    rw [List.map_map]
    exact List.map_congr_left fun y _ => hf y
  unfold putL
  rw [hk, hf]
  split
  · rw [List.map_map, List.map_map]
    refine List.map_congr_left fun e _ => ?_
    simp only [Function.comp, hf]
    split <;> rfl
  · rw [List.map_append]
    rfl
theorem perm_liftU {f : α → β} : ∀ {xs : List α} {l : List β}, l.Perm (xs.map f) → ∃ ys : List α, ys.Perm xs ∧ l = ys.map f
  | [], l, h => ⟨[], .refl _, by simpa using h.eq_nil⟩
  | x :: xs, l, h => by
    have hm : f x ∈ l := h.mem_iff.mpr (by simp)
    obtain ⟨l1, l2, rfl⟩ := List.append_of_mem hm
    have h2 : (l1 ++ l2).Perm (xs.map f) := by
      have := List.perm_middle.symm.trans h
      exact (List.perm_cons _).mp this
    obtain ⟨ys, hy, e⟩ := perm_liftU h2
    obtain ⟨y1, y2, rfl, rfl, rfl⟩ := List.append_eq_map_iff.mp e
    exact ⟨y1 ++ x :: y2, List.perm_middle.trans ((List.perm_cons _).mpr hy), by simp⟩
end
theorem Ims.permU {α : Type} {K : PySem.W.Frag} {H : Hp} {D : α → PyData} {rows : List α} {xs ys : List V} (h : Ims K H xs (rows.map D)) (p : ys.Perm xs) : ∃ rows' : List α, rows'.Perm rows ∧ Ims K H ys (rows'.map D) := by
  have hl : rows.length = xs.length := by
    have := h.length
    rw [List.length_map] at this
    exact this.symm
  have e : xs = (rows.zip xs).map (·.2) := (List.map_snd_zip (by omega)).symm
  rw [e] at p
  obtain ⟨zs, hz, rfl⟩ := perm_liftU p
  refine ⟨zs.map (·.1), ?_, Ims.ofPairs zs fun z hz' => h.pairs z (hz.mem_iff.mp hz')⟩
  have := hz.map (fun z : α × V => z.1)
  rwa [List.map_fst_zip (by omega)] at this
theorem cut_strsU (ns : List Str) (lo hi : Option Int) : ∃ ws : List Str, cutV (ns.map V.str) lo hi = ws.map V.str ∧ ws.length ≤ ns.length ∧ ∀ x ∈ ws, x ∈ ns := by
  unfold cutV
  refine ⟨(ns.drop (HT.sIx (ns.map V.str).length 0 lo)).take (HT.sIx (ns.map V.str).length (ns.map V.str).length hi - HT.sIx (ns.map V.str).length 0 lo), by simp [List.map_take, List.map_drop], ?_, fun k hk => List.mem_of_mem_drop (List.mem_of_mem_take hk)⟩
  rw [List.length_take, List.length_drop]
  omega
theorem cut_oneU (ns : List Str) (j : Nat) : ∃ ws : List Str, cutV (ns.map V.str) (some ((j : Nat) : Int)) (some ((j + 1 : Nat) : Int)) = ws.map V.str ∧ ws.length ≤ 1 ∧ ∀ x ∈ ws, x ∈ ns := by
  unfold cutV
  rw [HT.sIx_nat, HT.sIx_nat]
  refine ⟨(ns.drop (min j (ns.map V.str).length)).take (min (j + 1) (ns.map V.str).length - min j (ns.map V.str).length), by simp [List.map_take, List.map_drop], ?_, fun k hk => List.mem_of_mem_drop (List.mem_of_mem_take hk)⟩
  rw [List.length_take, List.length_drop]
  omega
/-- one function, as both sides have it -/
structure Ent where
  c : CaA
  z : FnA
structure EntOk (b : Addr) (ns : List Str) (e : Ent) : Prop where
  nm : e.z.r.nm = e.c.nm
  on : e.c.nm ∈ ns
  ca : e.c.a ≠ b
  zl : e.z.l ≠ b
  x3 : e.c.xs.length ≤ 3
  xs : ∀ x ∈ e.c.xs, x ∈ ns
  to : ∀ y, y ∈ callsOf e.z.r.lns ↔ y ∈ e.c.xs
  ln : e.z.r.lns.length = e.c.xs.length + 1
  ok : ∀ l ∈ e.z.r.lns, LnOk ns e.z.r.lns.length l
/-- what stands -/
structure St72 (K : PySem.W.Frag) (b nh cd fd : Addr) (ns : List Str) (cs : List CaA) (zs : List FnA) (H : Hp) : Prop where
  bag : Bag H b
  nhb : nh ≠ b
  cf : cd ≠ fd
  hn : H nh = some (.lst (ns.map V.str))
  hc : CasAt H cd cs
  hf : FnsAt K H fd zs
  ca : ∀ c ∈ cs, c.a ≠ b
  zl : ∀ z ∈ zs, z.l ≠ b
section
variable {K : PySem.W.Frag} {b nh cd fd : Addr} {ns : List Str} {cs : List CaA} {zs : List FnA} {H H' : Hp}
theorem St72.dr (h : St72 K b nh cd fd ns cs zs H) (d : Dr b H H') : St72 K b nh cd fd ns cs zs H' :=
  ⟨d.bag h.bag, h.nhb, h.cf, d.get h.nhb h.hn, ⟨d.getK h.bag h.hc.at_ (fun _ z => by cases z), h.hc.nd, fun z hz => d.get (h.ca z hz) (h.hc.lst z hz)⟩,
   ⟨d.getK h.bag h.hf.at_ (fun _ z => by cases z), h.hf.nd, fun z hz => d.mv.sqT (h.hf.tup z hz), fun z hz => d.get (h.zl z hz) (h.hf.lst z hz), fun z hz => (h.hf.ims z hz).mv d.mv⟩, h.ca, h.zl⟩
theorem St72.putC (h : St72 K b nh cd fd ns cs zs H) (c : CaA) (hc : H c.a = some (.lst (c.xs.map V.str))) (hcb : c.a ≠ b) (hB : Bag (upd H cd (.dK (putK (cs.map CaA.kv) (.inr c.nm) (.ref c.a)))) b) :
    St72 K b nh cd fd ns (putL CaA.nm cs c) zs (upd H cd (.dK (putK (cs.map CaA.kv) (.inr c.nm) (.ref c.a)))) := by
  have hm : Mv [cd] H (upd H cd (.dK (putK (cs.map CaA.kv) (.inr c.nm) (.ref c.a)))) := .putD h.hc.at_
  have off : ∀ {a : Addr} {xs : List V}, H a = some (.lst xs) → a ∉ [cd] := fun {a xs} e => by
    rw [List.mem_singleton]
    rintro rfl
    rw [h.hc.at_] at e
    cases e
  refine ⟨hB, h.nhb, h.cf, hm.keep _ _ (off h.hn) h.hn, ⟨?_, putL_nd c h.hc.nd, fun z hz => ?_⟩, ⟨hm.keep _ _ (by simpa using h.cf.symm) h.hf.at_, h.hf.nd, fun z hz => hm.sqT (h.hf.tup z hz), fun z hz => hm.keep _ _ (off (h.hf.lst z hz)) (h.hf.lst z hz), fun z hz => (h.hf.ims z hz).mv hm⟩, fun z hz => ?_, h.zl⟩
  · rw [upd_same]
    exact congrArg (fun x => some (HO.dK x)) (putL_kv (k := CaA.nm) (g := fun z => V.ref z.a) cs c)
  · rcases putL_mem hz with hz | rfl
    · exact hm.keep _ _ (off (h.hc.lst z hz)) (h.hc.lst z hz)
    · exact hm.keep _ _ (off hc) hc
  · rcases putL_mem hz with hz | rfl
    · exact h.ca z hz
    · exact hcb
theorem St72.putF (h : St72 K b nh cd fd ns cs zs H) (z : FnA) (ht : SqT K H z.a [.int 0, .int 0, .int 0, .ref z.l]) (hl : H z.l = some (.lst z.vs)) (hi : Ims K H z.vs (z.r.lns.map Ln.d)) (hzb : z.l ≠ b) (hB : Bag (upd H fd (.dK (putK (zs.map FnA.kv) (.inr z.r.nm) (.ref z.a)))) b) :
    St72 K b nh cd fd ns cs (putL (fun z => z.r.nm) zs z) (upd H fd (.dK (putK (zs.map FnA.kv) (.inr z.r.nm) (.ref z.a)))) := by
  have hm : Mv [fd] H (upd H fd (.dK (putK (zs.map FnA.kv) (.inr z.r.nm) (.ref z.a)))) := .putD h.hf.at_
  have off : ∀ {a : Addr} {xs : List V}, H a = some (.lst xs) → a ∉ [fd] := fun {a xs} e => by
    rw [List.mem_singleton]
    rintro rfl
    rw [h.hf.at_] at e
    cases e
  refine ⟨hB, h.nhb, h.cf, hm.keep _ _ (off h.hn) h.hn, ⟨hm.keep _ _ (by simpa using h.cf) h.hc.at_, h.hc.nd, fun c hc => hm.keep _ _ (off (h.hc.lst c hc)) (h.hc.lst c hc)⟩, ⟨?_, putL_nd z h.hf.nd, fun y hy => ?_, fun y hy => ?_, fun y hy => ?_⟩, h.ca, fun y hy => ?_⟩
  · rw [upd_same]
    exact congrArg (fun x => some (HO.dK x)) (putL_kv (k := fun z : FnA => z.r.nm) (g := fun z => V.ref z.a) zs z)
  · rcases putL_mem hy with hy | rfl
    · exact hm.sqT (h.hf.tup y hy)
    · exact hm.sqT ht
  · rcases putL_mem hy with hy | rfl
    · exact hm.keep _ _ (off (h.hf.lst y hy)) (h.hf.lst y hy)
    · exact hm.keep _ _ (off hl) hl
  · rcases putL_mem hy with hy | rfl
    · exact (h.hf.ims y hy).mv hm
    · exact hi.mv hm
  · rcases putL_mem hy with hy | rfl
    · exact h.zl y hy
    · exact hzb
end
/-- all the functions -/
structure EsOk (b : Addr) (ns : List Str) (es : List Ent) : Prop where
  some_ : 0 < es.length
  few : es.length ≤ 7
  nms : ∀ x ∈ ns, Nm x
  ent : ∀ e ∈ es, EntOk b ns e
  all_ : ∀ x ∈ ns, x ∈ es.map fun e => e.c.nm
section
variable {b : Addr} {ns : List Str} {es es' : List Ent}
theorem EsOk.perm (h : EsOk b ns es) (p : es'.Perm es) : EsOk b ns es' := ⟨by rw [p.length_eq]; exact h.some_, by rw [p.length_eq]; exact h.few, h.nms, fun e he => h.ent e (p.mem_iff.mp he), fun x hx => (p.map _).mem_iff.mpr (h.all_ x hx)⟩
theorem EsOk.names (h : EsOk b ns es) : (es.map (·.z)).map (fun z => z.r.nm) = (es.map (·.c)).map CaA.nm := by
  rw [List.map_map, List.map_map]
  exact List.map_congr_left fun e he => (h.ent e he).nm
theorem lnok_mono {ns ms : List Str} (hs : ∀ x ∈ ns, x ∈ ms) {n : Nat} : ∀ {l : Ln}, LnOk ns n l → LnOk ms n l
  | .call z g, h => ⟨hs z h.1, h.2⟩
  | .back, _ => trivial
theorem EsOk.fns (h : EsOk b ns es) : FnsOk ((es.map (·.z)).map (·.r)) := by
  have hn : ∀ x ∈ ns, x ∈ ((es.map (·.z)).map (·.r)).map (·.nm) := fun x hx => by
    rw [show ((es.map (·.z)).map (·.r)).map (·.nm) = (es.map (·.z)).map (fun z => z.r.nm) by rw [List.map_map]; rfl, h.names, List.map_map]
    exact h.all_ x hx
  have mem : ∀ r ∈ (es.map (·.z)).map (·.r), ∃ e ∈ es, e.z.r = r := fun r hr => by
    obtain ⟨z, hz, rfl⟩ := List.mem_map.mp hr
    obtain ⟨e, he, rfl⟩ := List.mem_map.mp hz
    exact ⟨e, he, rfl⟩
  refine ⟨by simpa using h.some_, by simpa using h.few, fun r hr => ?_, fun r hr => ?_, fun r hr => ?_, fun r hr l hl => ?_⟩
  all_goals obtain ⟨e, he, rfl⟩ := mem r hr
  · rw [(h.ent e he).nm]
    exact h.nms _ (h.ent e he).on
  · have := (h.ent e he).ln
    omega
  · have := (h.ent e he).ln
    have := (h.ent e he).x3
    omega
  · exact lnok_mono hn ((h.ent e he).ok l hl)
theorem EsOk.cas (h : EsOk b ns es) : CasOk (es.map (·.c)) := by
  refine ⟨by simpa using h.few, fun c hc => ?_, fun c hc => ?_, fun c hc y hy => ?_⟩
  all_goals obtain ⟨e, he, rfl⟩ := List.mem_map.mp hc
  · exact h.nms _ (h.ent e he).on
  · have := (h.ent e he).x3
    omega
  · have := h.all_ y ((h.ent e he).xs y hy)
    rw [List.map_map]
    exact this
theorem cl_none {rs : List FnR} {x : Str} (h : x ∉ rs.map (·.nm)) : clOf rs x = [] := by
  unfold clOf
  rw [List.find?_eq_none.mpr fun r hr e => h (List.mem_map.mpr ⟨r, hr, by simpa using e⟩)]
  rfl
theorem clC_none {cs : List CaA} {x : Str} (h : x ∉ cs.map (·.nm)) : clC cs x = [] := by
  unfold clC
  rw [List.find?_eq_none.mpr fun r hr e => h (List.mem_map.mpr ⟨r, hr, by simpa using e⟩)]
  rfl
/-- both sides tell the same name -/
theorem EsOk.same (h : EsOk b ns es) (p : es'.Perm es) (nc : ((es.map (·.c)).map CaA.nm).Nodup) : badOf (clOf ((es'.map (·.z)).map (·.r))) (ssOf ((es'.map (·.z)).map (·.r.nm))) = badOf (clC (es.map (·.c))) (ssOf ((es.map (·.c)).map (·.nm))) := by
  have h' := h.perm p
  have hp : ((es'.map (·.z)).map fun z => z.r.nm).Perm ((es.map (·.c)).map CaA.nm) := by
    rw [h'.names]
    exact (p.map _).map _
  have nz : (((es'.map (·.z)).map (·.r)).map (·.nm)).Nodup := by
    rw [List.map_map]
    exact hp.nodup_iff.mpr nc
  rw [ss_perm nc hp]
  refine bad_congr (fun x y => ?_) _
  by_cases hx : x ∈ (es.map (·.c)).map CaA.nm
  · obtain ⟨c, hc, rfl⟩ := List.mem_map.mp hx
    obtain ⟨e, he, rfl⟩ := List.mem_map.mp hc
    have he' := p.mem_iff.mpr he
    rw [clC_of nc hc, ← (h.ent e he).to y]
    have hr : e.z.r ∈ (es'.map (·.z)).map (·.r) := List.mem_map.mpr ⟨e.z, List.mem_map.mpr ⟨e, he', rfl⟩, rfl⟩
    rw [← (h.ent e he).nm, cl_of nz hr]
  · rw [clC_none hx, cl_none fun hh => hx (by
      rw [List.map_map] at hh
      exact hp.mem_iff.mp hh)]
end
theorem bad_mem {cl : Str → List Str} {ss : List Str} {y : Str} (h : badOf cl ss = some y) : y ∈ ss := by
  unfold badOf at h
  rcases Option.or_eq_some_iff.mp h with h | ⟨_, h⟩
  · exact List.mem_of_find?_eq_some h
  · exact List.mem_of_find?_eq_some h
def badD : Option Str → PyData
  | none => .none
  | some y => .str y
theorem bad_dp {K : PySem.W.Frag} {H : Hp} : ∀ o : Option Str, Dp K H (badV o) (badD o)
  | none => .non
  | some y => .str y
theorem bad_shw : ∀ {o : Option Str}, (∀ y, o = some y → Nm y) → Shw (badD o)
  | none, _ => ⟨trivial, by simp [badD, PyData.depth], by simp [badD, wl]⟩
  | some y, h => by
    have hy := h y rfl
    have := hy.2.1
    exact ⟨nm_ok hy, by simp [badD, PyData.depth], by simp only [badD, wl]; omega⟩
theorem paired_split {γ : Type} {F : Addr → L2.Key × V → Prop} {f : γ → L2.Key × V} : ∀ {zs : List γ} {ts : List Addr}, Paired F ts (zs.map f) → ∃ tw : List (Addr × γ), tw.map (·.1) = ts ∧ tw.map (·.2) = zs ∧ ∀ e ∈ tw, F e.1 (f e.2)
  | [], ts, h => by
    cases h
    exact ⟨[], rfl, rfl, fun e he => absurd he List.not_mem_nil⟩
  | z :: zs, ts, h => by
    cases h with
    | cons h1 h2 =>
      obtain ⟨tw, e1, e2, e3⟩ := paired_split h2
      refine ⟨(_, z) :: tw, by rw [List.map_cons, e1], by rw [List.map_cons, e2], fun e he => ?_⟩
      rcases List.mem_cons.mp he with rfl | he
      · exact h1
      · exact e3 e he
theorem paired_join {γ : Type} {F : Addr → L2.Key × V → Prop} {f : γ → L2.Key × V} : ∀ (tw : List (Addr × γ)), (∀ e ∈ tw, F e.1 (f e.2)) → Paired F (tw.map (·.1)) ((tw.map (·.2)).map f)
  | [], _ => .nil
  | z :: tw, h => .cons (h z (by simp)) (paired_join tw fun y hy => h y (by simp [hy]))
theorem rep_strs (k : Nat) (x : Str) : (List.replicate k [V.str x]).flatten = (List.replicate k x).map V.str := by
  induction k with
  | zero => rfl
  | succ k ih => rw [List.replicate_succ, List.replicate_succ, List.flatten_cons, ih]; rfl
end Fm
namespace Fm
open PySem PySem.Spec PyProof.Rows L2 SlX
local macro_rules | `(tactic| walk_at "nn") => `(tactic| dsimp only [tC, tNil, tCons, tCB, tCall, gName, tSeq, tAsg, tPar, tDrop, tRet])
local macro_rules | `(tactic| walk_at "nc") => `(tactic| dsimp only [tC, tNil, tCons, tCB, tCall])
def sp_law (K : PySem.W.Frag) : Sp := fun vs H Q _ => ∃ (a : Addr) (ns : List Int), vs = [.ref a] ∧ SqL K H a (ns.map V.int) ∧ ns.length ≤ 63 ∧ ∀ H', Q (.bl true) H'
section
variable {P : Program} {w : World} {K : PySem.W.Frag} {mg : Str → Option Value} {base : Heap}
theorem ok_law (T : TX K mg) (Y : TY P K mg) : FnOkG P w K mg base CX0 60 T.d_law.f T.d_law.fd P_law (sp_law K) := by
  have G__law_bag : FnOk P w K mg base CX0 1 T.d__law_bag.f T.d__law_bag.fd P__law_bag (sp_bag K) := ok__law_bag T
  have G__law_take : FnOk P w K mg base CX0 1 T.d__law_take.f T.d__law_take.fd P__law_take sp_take := ok__law_take T
  have G__law_mixed : FnOk P w K mg base CX0 2 T.d__law_mixed.f T.d__law_mixed.fd P__law_mixed (sp_mixG K) := ok__law_mixed T
  have G__law_names : FnOk P w K mg base CX0 2 T.d__law_names.f T.d__law_names.fd P__law_names sp_names := ok__law_names T
  have G__law_heard : FnOk P w K mg base CX0 14 T.d__law_heard.f T.d__law_heard.fd P__law_heard (sp_heard K) := ok__law_heard (k := 0) T Y
  have G__law_bad_calls : FnOk P w K mg base CX0 2 T.d__law_bad_calls.f T.d__law_bad_calls.fd P__law_bad_calls sp_badcalls := ok__law_bad_calls T
  have G__law_alike : FnOkG P w K mg base CX0 1 T.d__law_alike.f T.d__law_alike.fd P__law_alike (sp_alike K) := ok__law_alike T
  refine okG T.d_law.F sc_law (fun vs H Q E h => ?_) (fun cdv A outer s H vs Q E hgd hr h => ?_)
  · obtain ⟨_, _, rfl, _⟩ := h
    rfl
  · obtain ⟨a, sns, rfl, hS, hl63, q⟩ := h
    have hu1 := hu1_of hr
    have hu64 := hr.units
    have hu65 := hu65_of hr
    refine ⟨_, (pss_cons (ps_set (i := 1) sc_law.nd rfl (Or.inr rfl) (pe_call G__law_bag (hr.mono (by omega)) rfl T.d__law_bag.g T.d__law_bag.F.kp T.d__law_bag.b .nil pass0 (pa_cons (pv 0) pa_nil))) (pss_cons (ps_for PassesOwn.never rfl (pi_range1 (by rfl) T.b_range (pa_cons pe_int pa_nil)) (pg_name (i := 2) sc_law.nd rfl (Or.inl rfl)) (pss_cons (ps_par3 (i := 3) (j := 4) (l := 5) rfl sc_law.nd rfl rfl rfl (by decide) (by decide) (by decide) rfl rfl rfl (pa_cons (pe_call G__law_mixed (hr.mono (by omega)) rfl T.d__law_mixed.g T.d__law_mixed.F.kp T.d__law_mixed.b .nil pass0 (pa_cons (pv 1) (pa_cons (pe_call G__law_names (hr.mono (by omega)) rfl T.d__law_names.g T.d__law_names.F.kp T.d__law_names.b .nil pass0 (pa_cons (pv 1) (pa_cons (pe_op (r := rAddG K) op_addG pe_int (pe_call G__law_take (hr.mono (by omega)) rfl T.d__law_take.g T.d__law_take.F.kp T.d__law_take.b .nil pass0 (pa_cons (pv 1) (pa_cons pe_int pa_nil)))) pa_nil))) pa_nil))) (pa_cons pe_dnewK (pa_cons pe_dnewK pa_nil))) rfl) (pss_cons (ps_set (i := 6) sc_law.nd rfl (Or.inl rfl) (pe_call G__law_take (hr.mono (by omega)) rfl T.d__law_take.g T.d__law_take.F.kp T.d__law_take.b .nil pass0 (pa_cons (pv 1) (pa_cons pe_int pa_nil)))) (pss_cons (ps_for PassesOwn.never rfl (pi_range1 (by rfl) T.b_range (pa_cons (pe_callB (r := rLenG K) call_lenG (by rfl) T.b_len bt_len (pa_cons (pv 3) pa_nil)) pa_nil)) (pg_name (i := 7) sc_law.nd rfl (Or.inl rfl)) (pss_cons (ps_set (i := 8) sc_law.nd rfl (Or.inr rfl) (pe_lst pa_nil)) (pss_cons (ps_for PassesOwn.never rfl (pi_range1 (by rfl) T.b_range (pa_cons (pe_call G__law_take (hr.mono (by omega)) rfl T.d__law_take.g T.d__law_take.F.kp T.d__law_take.b .nil pass0 (pa_cons (pv 1) (pa_cons pe_int pa_nil))) pa_nil)) (pg_name (i := 9) sc_law.nd rfl (Or.inl rfl)) (pss_cons (ps_set (i := 10) sc_law.nd rfl (Or.inl rfl) (pe_ifExp (pt_cmpR op_gt (pv 6) pe_int (nomark _)) (pe_slice (r := rSlG K) sl_G (pv 3) (po_some (pe_op (r := rAddG K) op_addG (pv 7) pe_int)) po_none) (pv 3))) (pss_one (ps_set (i := 8) sc_law.nd rfl (Or.inr rfl) (pe_op (r := rAddG K) op_addG (pv 8) (pe_slice (r := rSlG K) sl_G (pe_op (r := rAddG K) op_addG (pe_call G__law_mixed (hr.mono (by omega)) rfl T.d__law_mixed.g T.d__law_mixed.F.kp T.d__law_mixed.b .nil pass0 (pa_cons (pv 1) (pa_cons (pv 10) pa_nil))) (pe_op op_mulG (pe_lst (pa_cons (pe_ix (r := rIx K) ix_seq (pv 3) (pv 7) (fun _ _ => rfl)) pa_nil)) (pe_callTy call_int1 (by rfl) T.b_int bt_int (pa_cons (pe_cmpR (r := rEqG K) (op_eqG hu64) (pv 6) pe_int (nomark _)) pa_nil)))) po_none (po_some pe_int))))))) (Evl.pss_cut (ps_if (pt_cmpR (r := rEqG K) (op_eqG hu64) (pv 6) pe_int (nomark _)) (pss_one (ps_set (i := 8) sc_law.nd rfl (Or.inr rfl) (pe_slice (r := rSlG K) sl_G (pv 3) (po_some (pe_op (r := rAddG K) op_addG (pv 7) pe_int)) (po_some (pe_op (r := rAddG K) op_addG (pv 7) pe_int))))) pss_nil) (Evl.pss_cut (ps_if (PW.pt (pw_and (pt_cmpR (r := rEqG K) (op_eqG hu64) (pv 6) pe_int (nomark _)) (pw_and (pt_cmpR (r := rEqG K) (op_eqG hu64) (pv 7) (pe_op op_sub (pe_callB (r := rLenG K) call_lenG (by rfl) T.b_len bt_len (pa_cons (pv 3) pa_nil)) pe_int) (nomark _)) (pw_and1 (pt_cmpR (r := rEqG K) (op_eqG hu64) (pe_call G__law_take (hr.mono (by omega)) rfl T.d__law_take.g T.d__law_take.F.kp T.d__law_take.b .nil pass0 (pa_cons (pv 1) (pa_cons pe_int pa_nil))) pe_int (nomark _)))))) (pss_one (ps_set (i := 8) sc_law.nd rfl (Or.inr rfl) (pe_lst (pa_cons (pe_ix (r := rIx K) ix_seq (pv 3) (pe_call G__law_take (hr.mono (by omega)) rfl T.d__law_take.g T.d__law_take.F.kp T.d__law_take.b .nil pass0 (pa_cons (pv 1) (pa_cons (pe_callB (r := rLenG K) call_lenG (by rfl) T.b_len bt_len (pa_cons (pv 3) pa_nil)) pa_nil))) (fun _ _ => rfl)) pa_nil)))) pss_nil) (pss_cons (ps_dput hu1 (pv 4) (pe_ix (r := rIx K) ix_seq (pv 3) (pv 7) (fun _ _ => rfl)) (pv 8) rfl) (pss_cons (ps_set (i := 11) sc_law.nd rfl (Or.inl rfl) (pe_op (r := rAddG K) op_addG (pe_lc (own := [("_law_one", 12)]) (g := gName 12) (by rfl) sc_law.nd (pi_seq (pv 8)) (blkOk_by (own := [("_law_one", 12)]) (N := N_law) (sc := defScope s_law) (by decide +kernel)) (fun _ _ _ _ _ => pg_name (i := 12) sc_law.nd rfl (Or.inl rfl)) (fun _ _ _ _ _ => pts_nil) (fun _ _ _ _ _ => (pe_tup (pa_cons pe_str (pa_cons (pv 12) (pa_cons (pe_tup pa_nil) (pa_cons (pe_tup pa_nil) (pa_cons (pe_call G__law_take (hr.mono (by omega)) rfl T.d__law_take.g T.d__law_take.F.kp T.d__law_take.b .nil pass0 (pa_cons (pv 1) (pa_cons (pe_op (r := rAddG K) op_addG (pe_callB (r := rLenG K) call_lenG (by rfl) T.b_len bt_len (pa_cons (pv 8) pa_nil)) pe_int) pa_nil))) pa_nil)))))))) (pe_lst (pa_cons (pe_tup (pa_cons pe_str (pa_cons (pe_tup pa_nil) pa_nil))) pa_nil)))) (pss_one (ps_dput hu1 (pv 5) (pe_ix (r := rIx K) ix_seq (pv 3) (pv 7) (fun _ _ => rfl)) (pe_tup (pa_cons pe_int (pa_cons pe_int (pa_cons pe_int (pa_cons (pe_call G__law_mixed (hr.mono (by omega)) rfl T.d__law_mixed.g T.d__law_mixed.F.kp T.d__law_mixed.b .nil pass0 (pa_cons (pv 1) (pa_cons (pv 11) pa_nil))) pa_nil))))) rfl))))))))) (pss_one (ps_if (pt_not (pt_val (pe_callG G__law_alike hgd (hr.mono (by omega)) rfl T.d__law_alike.g T.d__law_alike.F.kp T.d__law_alike.b .nil pass0 (pa_cons (pe_call G__law_heard (hr.mono (by omega)) rfl T.d__law_heard.g T.d__law_heard.F.kp T.d__law_heard.b .nil pass0 (pa_cons (pe_callTy (r := rDictG K) (call_dictG rfl) (by rfl) T.b_dict bt_dict (pa_cons (pe_call G__law_mixed (hr.mono (by omega)) rfl T.d__law_mixed.g T.d__law_mixed.F.kp T.d__law_mixed.b .nil pass0 (pa_cons (pv 1) (pa_cons (LiI.pe_listItems rfl (pv 5) rfl T.b_list bt_list) pa_nil))) pa_nil)) pa_nil)) (pa_cons (pe_call G__law_bad_calls (hr.mono (by omega)) rfl T.d__law_bad_calls.g T.d__law_bad_calls.F.kp T.d__law_bad_calls.b .nil pass0 (pa_cons (pv 4) pa_nil)) pa_nil))))) (pss_one (ps_ret pe_bl)) pss_nil)))))) (pss_one (ps_ret pe_bl)))), ?_⟩
    refine ⟨.ref a, rfl, a, sns, rfl, hS, hl63, fun H1 b m1 nb hB1 => ?_⟩
    refine ⟨8, rfl, by decide, by decide, ?_⟩
    refine for_range (lo := 0) (n := (8 : Int).toNat) (fun i σ H3 => ∃ (y2 y3 y4 y5 y6 y7 y8 y9 y10 y11 : Option V), σ = [some (.ref a), some (.ref b), y2, y3, y4, y5, y6, y7, y8, y9, y10, y11, none] ∧ Bag H3 b)
      ⟨_, _, _, _, _, _, _, _, _, _, rfl, hB1⟩ (fun i0 σ H3 hi0 h3 => ?_) (fun σ H3 h3 => q H3)
    obtain ⟨y2, y3, y4, y5, y6, y7, y8, y9, y10, y11, rfl, hB3⟩ := h3
    -- names
    refine ⟨.ref b, rfl, .ref b, rfl, .ref b, rfl, b, 7, rfl, hB3, by decide, by decide, fun n0 H4 n00 n07 d4 => Or.inl ⟨1, n0, rfl, rfl, ?_⟩⟩
    have hB4 := d4.bag hB3
    refine ⟨b, (1 + n0).toNat, ?_, hB4, by omega, by omega, fun p5 xs5 H5 l5 nm5 np5 e5 d5 => ?_⟩
    · show [V.ref b, V.int (1 + n0)] = _
      rw [show (((1 + n0).toNat : Nat) : Int) = 1 + n0 by omega]
    have hB5 := d5.bag hB4
    have p5b : p5 ≠ b := hB4.fneq np5
    refine ⟨b, p5, xs5.map V.str, rfl, hB5, .inl ⟨e5, p5b⟩, by rw [List.length_map]; omega, fun nh ms H6 hms nnh e6 d6 => ?_⟩
    obtain ⟨ns, hns, rfl⟩ := perm_liftU hms
    have nhb : nh ≠ b := hB5.fneq nnh
    have hnl : ns.length = (1 + n0).toNat := by rw [hns.length_eq]; exact l5
    have hn7 : ns.length ≤ 7 := by omega
    have hn1 : 0 < ns.length := by omega
    have hNm : ∀ x ∈ ns, Nm x := fun x hx => nm5 x (hns.mem_iff.mp hx)
    have d36 := d4.trans (d5.trans d6)
    clear hms hnl d4 d5 d6 e5 l5 nm5 np5 hns hB4 hB5
    intro cd ncd
    have d37 : Dr b H3 (upd H6 cd (.dK [])) := d36.trans (.new ncd)
    have ncd3 := d36.free hB3 ncd
    have e7 : upd H6 cd (.dK []) cd = some (.dK []) := upd_same
    have e67 : upd H6 cd (.dK []) nh = some (.lst (ns.map V.str)) := same_new ncd _ _ e6
    generalize upd H6 cd (.dK []) = H7 at d37 e7 e67 ⊢
    intro fd nfd
    have d38 : Dr b H3 (upd H7 fd (.dK [])) := d37.trans (.new nfd)
    have nfd3 := d37.free hB3 nfd
    have hcf : cd ≠ fd := ne_of_none e7 nfd
    have e8 : upd H7 fd (.dK []) fd = some (.dK []) := upd_same
    have e78 : upd H7 fd (.dK []) cd = some (.dK []) := same_new nfd _ _ e7
    have e68 : upd H7 fd (.dK []) nh = some (.lst (ns.map V.str)) := same_new nfd _ _ e67
    generalize upd H7 fd (.dK []) = H8 at d38 e8 e78 e68 ⊢
    have hB8 := d38.bag hB3
    have S8 : St72 K b nh cd fd ns (([] : List Ent).map (·.c)) (([] : List Ent).map (·.z)) H8 :=
      ⟨hB8, nhb, hcf, e68, ⟨e78, List.nodup_nil, fun z hz => absurd hz List.not_mem_nil⟩, ⟨e8, List.nodup_nil, fun z hz => absurd hz List.not_mem_nil, fun z hz => absurd hz List.not_mem_nil, fun z hz => absurd hz List.not_mem_nil⟩, fun z hz => absurd hz List.not_mem_nil, fun z hz => absurd hz List.not_mem_nil⟩
    refine ⟨_, _, _, rfl, .ref b, rfl, b, 4, rfl, hB8, by decide, by decide, fun way H9 w0 w4 d9 => ?_⟩
    have S9 := S8.dr d9
    have d39 := d38.trans d9
    clear S8 e8 e78 e68 e7 e67 e6
    refine ⟨.ref nh, rfl, Or.inl ⟨nh, ns.map V.str, rfl, .inl (.inl (.inl S9.hn)), _, rfl, by rw [List.length_map]; omega, by rw [List.length_map]; omega, ?_⟩⟩
    refine for_range (lo := 0) (n := (((ns.map V.str).length : Nat) : Int).toNat) (fun i σ H => ∃ (es : List Ent) (y2 y7 y8 y9 y10 y11 : Option V), σ = [some (.ref a), some (.ref b), y2, some (.ref nh), some (.ref cd), some (.ref fd), some (.int way), y7, y8, y9, y10, y11, none] ∧ St72 K b nh cd fd ns (es.map (·.c)) (es.map (·.z)) H ∧ (∀ e ∈ es, EntOk b ns e) ∧ es.length ≤ i ∧ (0 < i → 0 < es.length) ∧ (∀ (j : Nat) (x : Str), j < i → ns[j]? = some x → x ∈ es.map fun e => e.c.nm) ∧ Dr b H3 H)
      ⟨[], _, _, _, _, _, _, rfl, S9, fun e he => absurd he List.not_mem_nil, Nat.le_refl _, fun h => absurd h (Nat.lt_irrefl _), fun j x hj => absurd hj (Nat.not_lt_zero _), d39⟩ (fun i σ H10 hi h10 => ?_) (fun σ H10 h10 => ?_)
    · obtain ⟨es, y2, y7, y8, y9, y10, y11, rfl, S10, hE, hel, he0, hea, d310⟩ := h10
      have hin : i < ns.length := by
        rw [List.length_map] at hi
        omega
      obtain ⟨nm, hnm⟩ : ∃ nm, ns[i]? = some nm := ⟨_, List.getElem?_eq_getElem hin⟩
      have hnn := List.mem_of_getElem? hnm
      have hix : (ns.map V.str)[((i : Int)).toNat]? = some (.str nm) := by
        rw [List.getElem?_map, show ((i : Int)).toNat = i by omega, hnm]
        rfl
      rw [show (0 : Int) + (i : Int) = i by omega]
      -- some
      refine ⟨Nat.zero_le _, fun s0 ns0 => ?_⟩
      have s0b : s0 ≠ b := S10.bag.fneq ns0
      have d11 : Dr b H10 (upd H10 s0 (.lst [])) := .new ns0
      have e11 : upd H10 s0 (.lst []) s0 = some (.lst (([] : List Str).map V.str)) := upd_same
      generalize upd H10 s0 (.lst []) = H11 at d11 e11 ⊢
      have S11 := S10.dr d11
      refine ⟨.ref b, rfl, b, 4, rfl, S11.bag, by decide, by decide, fun kk H12 k0 k4 d12 => ⟨kk, rfl, by omega, by omega, ?_⟩⟩
      have S12 := S11.dr d12
      have e12 := d12.get s0b e11
      have d312 := d310.trans (d11.trans d12)
      clear S11 S10 e11
      refine for_range (lo := 0) (n := kk.toNat) (fun j σ H => ∃ (sa : Addr) (SS : List Str) (y9 y10 : Option V), σ = [some (.ref a), some (.ref b), y2, some (.ref nh), some (.ref cd), some (.ref fd), some (.int way), some (.int i), some (.ref sa), y9, y10, y11, none] ∧ H sa = some (.lst (SS.map V.str)) ∧ sa ≠ b ∧ SS.length ≤ j ∧ (∀ x ∈ SS, x ∈ ns) ∧ Dr b H12 H)
        ⟨s0, [], y9, y10, rfl, e12, s0b, Nat.le_refl _, fun x hx => absurd hx List.not_mem_nil, .refl⟩ (fun j σ H13 hj h13 => ?_) (fun σ H13 h13 => ?_)
      · obtain ⟨sa, SS, y9, y10, rfl, e13, sab, hSl, hSS, d13⟩ := h13
        have S13 := S12.dr d13
        refine asg_mid (fun v H' => ∃ (lp : Addr) (LS : List Str), v = .ref lp ∧ H' lp = some (.lst (LS.map V.str)) ∧ lp ≠ b ∧ LS.length ≤ 7 ∧ (∀ x ∈ LS, x ∈ ns) ∧ Dr b H13 H') (fun Q' hQ => ?_) (fun v H14 h14 => ?_)
        · refine ⟨.int way, rfl, way, 0, rfl, rfl, ⟨_, rfl, ite2 (fun e => ?_) (fun e => ?_)⟩⟩
          · refine ⟨.ref nh, rfl, .int i, rfl, Or.inl ⟨(i : Int), 1, rfl, rfl, (i : Int) + 1, rfl, Or.inl ⟨nh, ns.map V.str, rfl, .inl (.inl S13.hn), fun p np => ?_⟩⟩⟩
            obtain ⟨ws, hw, hwl, hwm⟩ := cut_strsU ns (some ((i : Int) + 1)) none
            rw [hw]
            exact hQ _ _ ⟨p, ws, rfl, upd_same, S13.bag.fneq np, by omega, hwm, .new np⟩
          · exact ⟨.ref nh, rfl, hQ _ _ ⟨nh, ns, rfl, S13.hn, nhb, hn7, fun x hx => hx, .refl⟩⟩
        · obtain ⟨lp, LS, rfl, e14, lpb, hLl, hLS, d14⟩ := h14
          have S14 := S13.dr d14
          refine ⟨.ref sa, rfl, .ref b, rfl, .ref lp, rfl, b, lp, LS.map V.str, rfl, S14.bag, .inl ⟨e14, lpb⟩, by rw [List.length_map]; omega, fun pm ms H15 hms npm e15 d15 => ?_⟩
          obtain ⟨ws, hws, rfl⟩ := perm_liftU hms
          have S15 := S14.dr d15
          have pmb : pm ≠ b := S14.bag.fneq npm
          refine ⟨.ref nh, rfl, .int i, rfl, rd_ixL (.inl (.inl S15.hn)) (by omega) (v := .str nm) hix ⟨(by decide : 1 ≤ sizeLine), fun p16 np16 => ?_⟩⟩
          have d16 : Dr b H15 (upd H15 p16 (.lst [.str nm])) := .new np16
          have e16 : upd H15 p16 (.lst [.str nm]) p16 = some (.lst [.str nm]) := upd_same
          generalize upd H15 p16 (.lst [.str nm]) = H16 at d16 e16 ⊢
          obtain ⟨k2, hk2⟩ : ∃ k2 : Int, k2 = (if decide (V.int way = V.int 0) = true then 1 else 0) := ⟨_, rfl⟩
          have k20 : 0 ≤ k2 ∧ k2 ≤ 1 := by
            rw [hk2]
            split <;> decide
          refine ⟨.int way, rfl, Or.inl ⟨rfl, Or.inr ⟨_, rfl, ?_⟩⟩⟩
          rw [← hk2]
          refine Or.inr ⟨p16, k2, [.str nm], rfl, rfl, e16, by omega, by omega, ?_, fun p17 np17 => ?_⟩
          · show 1 * k2.toNat ≤ sizeLine
            rw [sizeLine_eq]
            omega
          rw [rep_strs]
          have d17 : Dr b H16 (upd H16 p17 (.lst ((List.replicate k2.toNat nm).map V.str))) := .new np17
          have e17 : upd H16 p17 (.lst ((List.replicate k2.toNat nm).map V.str)) p17 = some (.lst ((List.replicate k2.toNat nm).map V.str)) := upd_same
          generalize upd H16 p17 (.lst ((List.replicate k2.toNat nm).map V.str)) = H17 at d17 e17 ⊢
          have d1517 := d16.trans d17
          have hwl : ws.length ≤ 7 := by rw [hws.length_eq]; exact hLl
          refine rd_catL (d1517.get pmb e15) e17 ?_ fun p18 H18 np18 m18 e18 => ?_
          · rw [List.length_map, List.length_map, List.length_replicate, sizeLine_eq]
            omega
          refine ⟨1, rfl, Or.inl ⟨p18, _, rfl, .inl (.inl e18), fun p19 np19 => ?_⟩⟩
          rw [← List.map_append, show (some (1 : Int)) = some ((1 : Nat) : Int) from rfl, cut_hi, ← List.map_take]
          have htk : ∀ x ∈ (ws ++ List.replicate k2.toNat nm).take 1, x ∈ ns := fun x hx => by
            rcases List.mem_append.mp (List.mem_of_mem_take hx) with hx | hx
            · exact hLS x (hws.mem_iff.mp hx)
            · rw [List.eq_of_mem_replicate hx]
              exact hnn
          have htl : ((ws ++ List.replicate k2.toNat nm).take 1).length ≤ 1 := by rw [List.length_take]; omega
          generalize (ws ++ List.replicate k2.toNat nm).take 1 = TS at htk htl ⊢
          have d1318 : Dr b H13 H18 := d14.trans (d15.trans (d1517.trans (.of m18)))
          have d19 : Dr b H13 (upd H18 p19 (.lst (TS.map V.str))) := d1318.trans (.new np19)
          have e19 : upd H18 p19 (.lst (TS.map V.str)) p19 = some (.lst (TS.map V.str)) := upd_same
          generalize upd H18 p19 (.lst (TS.map V.str)) = H19 at d19 e19 ⊢
          refine rd_catL (d19.get sab e13) e19 ?_ fun p20 H20 np20 m20 e20 => ?_
          · rw [List.length_map, List.length_map, sizeLine_eq]
            omega
          have hB19 := d19.bag S13.bag
          refine ⟨p20, SS ++ TS, _, _, rfl, by rw [e20, List.map_append], hB19.fneq np20, by rw [List.length_append]; omega, fun x hx => ?_, d13.trans (d19.trans (.of m20))⟩
          rcases List.mem_append.mp hx with hx | hx
          · exact hSS x hx
          · exact htk x hx
      · obtain ⟨sa, SS, y9, y10, rfl, e13, sab, hSl, hSS, d13⟩ := h13
        have hS3 : SS.length ≤ 3 := by omega
        have S13 := S12.dr d13
        have d313 := d312.trans d13
        clear S12 e12 hSl
        refine ⟨fun σ H => ∃ (sa : Addr) (SS : List Str), σ = [some (.ref a), some (.ref b), y2, some (.ref nh), some (.ref cd), some (.ref fd), some (.int way), some (.int i), some (.ref sa), y9, y10, y11, none] ∧ H sa = some (.lst (SS.map V.str)) ∧ sa ≠ b ∧ SS.length ≤ 3 ∧ (∀ x ∈ SS, x ∈ ns) ∧ Dr b H13 H, ?_, fun σ H14 h14 => ?_⟩
        · refine ⟨.int way, rfl, Or.inl ⟨rfl, _, rfl, ite2 (fun e => ?_) (fun e => ?_)⟩⟩
          · refine ⟨.ref nh, rfl, .int i, rfl, Or.inl ⟨(i : Int), 1, rfl, rfl, (i : Int) + 1, rfl, .int i, rfl, Or.inl ⟨(i : Int), 2, rfl, rfl, (i : Int) + 2, rfl, Or.inl ⟨nh, ns.map V.str, rfl, .inl (.inl S13.hn), fun p np => ?_⟩⟩⟩⟩
            obtain ⟨ws, hw, hwl, hwm⟩ := cut_oneU ns (i + 1)
            rw [show (i : Int) + 1 = ((i + 1 : Nat) : Int) by omega, show (i : Int) + 2 = ((i + 1 + 1 : Nat) : Int) by omega, hw]
            exact ⟨p, ws, rfl, upd_same, S13.bag.fneq np, by omega, hwm, .new np⟩
          · exact ⟨sa, SS, rfl, e13, sab, hS3, hSS, .refl⟩
        obtain ⟨sa, SS, rfl, e14, sab, hS3, hSS, d14⟩ := h14
        have S14 := S13.dr d14
        have d314 := d313.trans d14
        clear S13 e13 d13 d14 d313
        refine ⟨fun σ H => ∃ (sa : Addr) (SS : List Str), σ = [some (.ref a), some (.ref b), y2, some (.ref nh), some (.ref cd), some (.ref fd), some (.int way), some (.int i), some (.ref sa), y9, y10, y11, none] ∧ H sa = some (.lst (SS.map V.str)) ∧ sa ≠ b ∧ SS.length ≤ 3 ∧ (∀ x ∈ SS, x ∈ ns) ∧ Dr b H14 H, ?_, fun σ H15 h15 => ?_⟩
        · refine ⟨.int way, rfl, Or.inl ⟨rfl, _, rfl, ite2 (fun e => ?_) (fun e => ?_)⟩⟩
          · refine ⟨.int i, rfl, .ref nh, rfl, ?_⟩
            walk_at "nc"
            refine rd_len (.inl (.inl (.inl S14.hn))) ⟨_, 1, rfl, rfl, Or.inl ⟨rfl, _, rfl, ite2 (fun e => ?_) (fun e => ?_)⟩⟩
            · refine ⟨.ref b, rfl, b, 2, rfl, S14.bag, by decide, by decide, fun t H15 t0 t2 d15 => Or.inl ⟨rfl, _, rfl, ite2 (fun e => ?_) (fun e => ?_)⟩⟩
              · have S15 := S14.dr d15
                refine ⟨.ref nh, rfl, .ref b, rfl, .ref nh, rfl, ?_⟩
                walk_at "nc"
                refine rd_len (.inl (.inl (.inl S15.hn))) ?_
                refine ⟨b, ((ns.map V.str).length : Nat), rfl, S15.bag, by rw [List.length_map]; omega, by rw [List.length_map]; omega, fun u H16 u0 u1 d16 => ?_⟩
                have S16 := S15.dr d16
                rw [List.length_map] at u1
                have hul : u.toNat < ns.length := by omega
                refine rd_ixL (.inl (.inl S16.hn)) u0 (v := .str (ns[u.toNat]'hul)) (by rw [List.getElem?_map, List.getElem?_eq_getElem hul]; rfl) ⟨(by decide : 1 ≤ sizeLine), fun p np => ?_⟩
                exact ⟨p, [ns[u.toNat]'hul], rfl, upd_same, S16.bag.fneq np, by simp, fun x hx => by rw [List.mem_singleton] at hx; rw [hx]; exact List.getElem_mem _, (d15.trans d16).trans (.new np)⟩
              · exact ⟨sa, SS, rfl, d15.get sab e14, sab, hS3, hSS, d15⟩
            · exact ⟨sa, SS, rfl, e14, sab, hS3, hSS, .refl⟩
          · exact ⟨sa, SS, rfl, e14, sab, hS3, hSS, .refl⟩
        obtain ⟨sa, SS, rfl, e15, sab, hS3, hSS, d15⟩ := h15
        have S15 := S14.dr d15
        have d315 := d314.trans d15
        clear S14 e14 d15 d314
        have hel7 : es.length ≤ 7 := by omega
        -- calls[..] = some
        refine ⟨.ref sa, rfl, .ref cd, rfl, .ref nh, rfl, .int i, rfl, rd_ixL (.inl (.inl S15.hn)) (by omega) (v := .str nm) hix ⟨cd, _, rfl, Or.inl ⟨_, .inr nm, S15.hc.at_, rfl, ?_, rfl⟩, ?_⟩⟩
        · rw [List.length_map, List.length_map]
          exact Nat.lt_of_le_of_lt (show es.length ≤ 1000 by omega) (by decide)
        have d316 : Dr b H3 (upd H15 cd (.dK (putK ((es.map (·.c)).map CaA.kv) (.inr nm) (.ref sa)))) := d315.wr ncd3
        have S16 := S15.putC ⟨nm, sa, SS⟩ e15 sab (d316.bag hB3)
        have hcd : sa ≠ cd := by
          rintro rfl
          rw [S15.hc.at_] at e15
          cases e15
        have e16 : upd H15 cd (.dK (putK ((es.map (·.c)).map CaA.kv) (.inr nm) (.ref sa))) sa = some (.lst (SS.map V.str)) := by rw [upd_ne hcd]; exact e15
        change St72 K b nh cd fd ns _ _ (upd H15 cd (.dK (putK ((es.map (·.c)).map CaA.kv) (.inr nm) (.ref sa)))) at S16
        generalize upd H15 cd (.dK (putK ((es.map (·.c)).map CaA.kv) (.inr nm) (.ref sa))) = H16 at d316 S16 e16 ⊢
        clear S15 e15 d315
        -- rows
        refine ⟨.ref sa, rfl, sa, rfl, Or.inl ⟨⟨_, .inl (.inl e16)⟩, fun D nD => ?_⟩⟩
        have hDb : D ≠ b := S16.bag.fneq nD
        refine lc_list (K := K) (a := sa) (xs := SS.map V.str) (fun j H17 => ∃ (vs : List V) (ls : List Ln), H17 D = some (.lst vs) ∧ Ims K H17 vs (ls.map Ln.d) ∧ ls.length = j ∧ callsOf ls = SS.take j ∧ (∀ l ∈ ls, LnOk ns (SS.length + 1) l) ∧ Dr b H16 H17)
          ⟨[], [], upd_same, .nil, rfl, rfl, fun l hl => absurd hl List.not_mem_nil, .new nD⟩ (fun j H17 _ h17 => ?_) (fun j v H17 hv h17 => ?_) (fun H17 h17 => ?_)
        · obtain ⟨_, _, _, _, _, _, _, d17⟩ := h17
          exact .inl (.inl (d17.get sab e16))
        · obtain ⟨vs, ls, e17, i17, l17, c17, o17, d17⟩ := h17
          rw [List.getElem?_map] at hv
          obtain ⟨x, hx, rfl⟩ := Option.map_eq_some_iff.mp hv
          have hjl := (List.getElem?_eq_some_iff.mp hx).1
          have hB17 := d17.bag S16.bag
          refine ⟨rfl, .str x, rfl, Nat.zero_le _, fun t1 nt1 => ?_⟩
          have d18 : Dr b H17 (upd H17 t1 (.tup [])) := .new nt1
          have e18 : SqT K (upd H17 t1 (.tup [])) t1 [] := .inl (.inl upd_same)
          generalize upd H17 t1 (.tup []) = H18 at d18 e18 ⊢
          refine ⟨Nat.zero_le _, fun t2 nt2 => ?_⟩
          have d19 : Dr b H18 (upd H18 t2 (.tup [])) := .new nt2
          have e19 : SqT K (upd H18 t2 (.tup [])) t2 [] := .inl (.inl upd_same)
          generalize upd H18 t2 (.tup []) = H19 at d19 e19 ⊢
          have d1719 := d18.trans d19
          have hB19 := d1719.bag hB17
          refine ⟨.ref b, rfl, .ref sa, rfl, ?_⟩
          walk_at "nc"
          refine rd_len (.inl (.inl (.inl ((d17.trans d1719).get sab e16)))) (Or.inl ⟨_, 1, rfl, rfl, ?_⟩)
          refine ⟨b, ((SS.map V.str).length : Nat) + 1, rfl, hB19, by omega, by rw [List.length_map]; omega, fun g H20 g0 g1 d20 => ?_⟩
          rw [List.length_map] at g1
          refine ⟨(by decide : 5 ≤ sizeLine), fun t3 nt3 => ?_⟩
          have d1720 : Dr b H17 H20 := d1719.trans d20
          have d1721 : Dr b H17 (upd H20 t3 (.tup [.str "call", .str x, .ref t1, .ref t2, .int g])) := d1720.trans (.new nt3)
          have m21 : Mv [] H20 (upd H20 t3 (.tup [.str "call", .str x, .ref t1, .ref t2, .int g])) := .new nt3
          have e21 : SqT K (upd H20 t3 (.tup [.str "call", .str x, .ref t1, .ref t2, .int g])) t3 [.str "call", .str x, .ref t1, .ref t2, .int g] := .inl (.inl upd_same)
          generalize upd H20 t3 (.tup [.str "call", .str x, .ref t1, .ref t2, .int g]) = H21 at d1721 m21 e21 ⊢
          have eD := d1721.get hDb e17
          have hw : Mv [D] H21 (upd H21 D (.lst (vs ++ [.ref t3]))) := .set eD (by simp)
          have him : Im K H21 (.ref t3) (Ln.call x g).d := .tup e21 (.cons (.str _) (.cons (.str _) (.cons (.tup (m21.sqT (d20.mv.sqT (d19.mv.sqT e18))) .nil) (.cons (.tup (m21.sqT (d20.mv.sqT e19)) .nil) (.cons (.int _) .nil)))))
          refine ⟨vs, eD, ?_, vs ++ [.ref t3], ls ++ [.call x g], upd_same, ?_, by simp [l17], ?_, fun l hl => ?_, (d17.trans d1721).wr nD⟩
          · rw [i17.length, List.length_map, l17]
            exact Nat.lt_of_le_of_lt (show j ≤ 1000 by omega) (by decide)
          · rw [List.map_append]
            exact ((i17.mv d1721.mv).append (.cons him .nil)).mv hw
          · rw [List.take_add_one, hx, ← c17]
            exact List.filterMap_append
          · rcases List.mem_append.mp hl with hl | hl
            · exact o17 l hl
            · rw [List.mem_singleton] at hl
              rw [hl]
              exact ⟨hSS x (List.mem_of_getElem? hx), g0, by omega⟩
        obtain ⟨vs, ls, e17, i17, l17, c17, o17, d17⟩ := h17
        rw [List.length_map] at l17 c17
        rw [List.take_length] at c17
        -- + [('back', ())]
        refine ⟨Nat.zero_le _, fun t1 nt1 => ?_⟩
        have d18 : Dr b H17 (upd H17 t1 (.tup [])) := .new nt1
        have e18 : SqT K (upd H17 t1 (.tup [])) t1 [] := .inl (.inl upd_same)
        generalize upd H17 t1 (.tup []) = H18 at d18 e18 ⊢
        refine ⟨(by decide : 2 ≤ sizeLine), fun t2 nt2 => ?_⟩
        have m19 : Mv [] H18 (upd H18 t2 (.tup [.str "back", .ref t1])) := .new nt2
        have e19 : SqT K (upd H18 t2 (.tup [.str "back", .ref t1])) t2 [.str "back", .ref t1] := .inl (.inl upd_same)
        generalize upd H18 t2 (.tup [.str "back", .ref t1]) = H19 at m19 e19 ⊢
        refine ⟨(by decide : 1 ≤ sizeLine), fun p20 np20 => ?_⟩
        have m20 : Mv [] H19 (upd H19 p20 (.lst [.ref t2])) := .new np20
        have e20 : upd H19 p20 (.lst [.ref t2]) p20 = some (.lst [.ref t2]) := upd_same
        generalize upd H19 p20 (.lst [.ref t2]) = H20 at m20 e20 ⊢
        have d1720 : Dr b H17 H20 := d18.trans (.of (m19.trans m20))
        refine rd_catL (d1720.get hDb e17) e20 ?_ fun rw_ H21 nrw m21 e21 => ?_
        · rw [i17.length, List.length_map, l17, sizeLine_eq]
          show SS.length + 1 ≤ _
          omega
        have d1721 : Dr b H17 H21 := d1720.trans (.of m21)
        have d1621 := d17.trans d1721
        have S21 := S16.dr d1621
        have rwb : rw_ ≠ b := (d1720.bag (d17.bag S16.bag)).fneq nrw
        have hib : Im K H21 (.ref t2) Ln.back.d := .tup ((m20.trans m21).sqT e19) (.cons (.str _) (.cons (.tup ((m19.trans (m20.trans m21)).sqT e18) .nil) .nil))
        have i21 : Ims K H21 (vs ++ [.ref t2]) ((ls ++ [Ln.back]).map Ln.d) := by
          rw [List.map_append]
          exact (i17.mv d1721.mv).append (.cons hib .nil)
        have hvl : (vs ++ [V.ref t2]).length = SS.length + 1 := by
          rw [List.length_append, i17.length, List.length_map, l17]
          rfl
        -- functions[..] = (0, 0, 0, mixed)
        refine ⟨.ref b, rfl, .ref rw_, rfl, b, rw_, _, rfl, S21.bag, .inl ⟨e21, rwb⟩, by rw [hvl]; omega, fun pm ms H22 hms npm e22 d22 => ?_⟩
        have S22 := S21.dr d22
        have pmb : pm ≠ b := S21.bag.fneq npm
        obtain ⟨ls', hls', i22⟩ := (i21.mv d22.mv).permU hms
        refine ⟨(by decide : 4 ≤ sizeLine), fun p23 np23 => ?_⟩
        have m23 : Mv [] H22 (upd H22 p23 (.tup [.int 0, .int 0, .int 0, .ref pm])) := .new np23
        have e23 : SqT K (upd H22 p23 (.tup [.int 0, .int 0, .int 0, .ref pm])) p23 [.int 0, .int 0, .int 0, .ref pm] := .inl (.inl upd_same)
        generalize upd H22 p23 (.tup [.int 0, .int 0, .int 0, .ref pm]) = H23 at m23 e23 ⊢
        have S23 := S22.dr (.of m23)
        have d323 : Dr b H3 H23 := d316.trans (d1621.trans (d22.trans (.of m23)))
        refine ⟨.ref fd, rfl, .ref nh, rfl, .int i, rfl, rd_ixL (.inl (.inl S23.hn)) (by omega) (v := .str nm) hix ⟨fd, _, rfl, Or.inl ⟨_, .inr nm, S23.hf.at_, rfl, ?_, rfl⟩, ?_⟩⟩
        · rw [List.length_map, List.length_map]
          exact Nat.lt_of_le_of_lt (show es.length ≤ 1000 by omega) (by decide)
        have d324 : Dr b H3 (upd H23 fd (.dK (putK ((es.map (·.z)).map FnA.kv) (.inr nm) (.ref p23)))) := d323.wr nfd3
        have S24 := S23.putF ⟨⟨nm, ls'⟩, p23, pm, ms⟩ e23 (m23.same _ _ e22) (i22.mv m23) pmb (d324.bag hB3)
        obtain ⟨en, hen⟩ : ∃ en : Ent, en = ⟨⟨nm, sa, SS⟩, ⟨⟨nm, ls'⟩, p23, pm, ms⟩⟩ := ⟨_, rfl⟩
        have hll : ls'.length = SS.length + 1 := by rw [hls'.length_eq, List.length_append, l17]; rfl
        have hEn : EntOk b ns en := by
          rw [hen]
          refine ⟨rfl, hnn, sab, pmb, hS3, hSS, fun y => ?_, hll, fun l hl => ?_⟩
          · show y ∈ callsOf ls' ↔ y ∈ SS
            rw [show callsOf ls' = ls'.filterMap Ln.to from rfl, (hls'.filterMap Ln.to).mem_iff, List.filterMap_append]
            show y ∈ callsOf ls ++ [] ↔ _
            rw [List.append_nil, c17]
          · show LnOk ns ls'.length l
            rw [hll]
            rcases List.mem_append.mp (hls'.mem_iff.mp hl) with hl | hl
            · exact o17 l hl
            · rw [List.mem_singleton] at hl
              rw [hl]
              trivial
        refine ⟨putL (fun e => e.c.nm) es en, _, _, _, _, _, _, rfl, ?_, fun e he => ?_, ?_, fun _ => (putL_len es en).2, fun j x hj hx => ?_, d324⟩
        · rw [putL_map (kb := CaA.nm) (f := fun e : Ent => e.c) (fun _ => rfl)]
          rw [show (putL (fun e : Ent => e.c.nm) es en).map (·.z) = putL (fun z : FnA => z.r.nm) (es.map (·.z)) en.z from ?_]
          · rw [hen]
            exact S24
          · have hk : ∀ e ∈ es, e.z.r.nm = e.c.nm := fun e he => (hE e he).nm
            have h1 : (es.map (·.z)).map (fun z : FnA => z.r.nm) = es.map fun e => e.c.nm := by
              rw [List.map_map]
              exact List.map_congr_left hk
            unfold putL
            rw [h1]
            by_cases hm : en.c.nm ∈ es.map fun e => e.c.nm
            · rw [if_pos hm, if_pos (show en.z.r.nm ∈ es.map (fun e => e.c.nm) by rw [hEn.nm]; exact hm), List.map_map, List.map_map]
              refine List.map_congr_left fun e he => ?_
              simp only [Function.comp, hk e he, hEn.nm]
              split <;> rfl
            · rw [if_neg hm, if_neg (show ¬ en.z.r.nm ∈ es.map (fun e => e.c.nm) by rw [hEn.nm]; exact hm), List.map_append]
              rfl
        · rcases putL_mem he with he | rfl
          · exact hE e he
          · exact hEn
        · have := (putL_len (k := fun e : Ent => e.c.nm) es en).1
          omega
        · rcases Nat.lt_succ_iff_lt_or_eq.mp hj with h | h
          · exact putL_old (hea j x h hx)
          · rw [h, hnm] at hx
            cases hx
            have : (fun e : Ent => e.c.nm) en ∈ (putL (fun e : Ent => e.c.nm) es en).map (fun e : Ent => e.c.nm) := putL_has
            rw [show (fun e : Ent => e.c.nm) en = nm by rw [hen]] at this
            exact this
    -- told
    obtain ⟨es, y2, y7, y8, y9, y10, y11, rfl, S10, hE, hel, he0, hea, d310⟩ := h10
    rw [List.length_map] at hel he0 hea
    have hOk : EsOk b ns es := ⟨he0 (by omega), by omega, hNm, hE, fun x hx => by
      obtain ⟨j, hj⟩ := List.getElem?_of_mem hx
      exact hea j x (by have := (List.getElem?_eq_some_iff.mp hj).1; omega) hj⟩
    refine ⟨.ref b, rfl, .ref fd, rfl, fd, _, rfl, S10.hf.at_, fun H11 p11 ts k11 np11 nts npt e11 hp11 => ?_⟩
    have m11 : Mv [] H10 H11 := .of_same k11
    have S11 := S10.dr (.of m11)
    have p11b : p11 ≠ b := S10.bag.fneq np11
    have hp11' : Paired (fun (t : Addr) (q : L2.Key × V) => H11 t = some (.tup [kV q.1, q.2])) ts (es.map fun e => e.z.kv) := by
      rw [List.map_map] at hp11
      exact hp11
    obtain ⟨tw, etw, ezw, hrow⟩ := paired_split (f := fun e : Ent => e.z.kv) hp11'
    subst etw
    have htl : tw.length = es.length := by
      have := congrArg List.length ezw
      rwa [List.length_map] at this
    refine ⟨b, p11, _, rfl, S11.bag, .inl ⟨e11, p11b⟩, by rw [List.length_map, List.length_map]; omega, fun pm ms H12 hms npm e12 d12 => ?_⟩
    rw [List.map_map] at hms
    obtain ⟨tw', htw, rfl⟩ := perm_liftU (f := V.ref ∘ fun e : Addr × Ent => e.1) hms
    have S12 := S11.dr d12
    have hes' : (tw'.map (·.2)).Perm es := by
      have := htw.map (fun e : Addr × Ent => e.2)
      rwa [ezw] at this
    have hOk' := hOk.perm hes'
    have nz' : (((tw'.map (·.2)).map (·.z)).map fun z : FnA => z.r.nm).Nodup := ((hes'.map _).map _).nodup_iff.mpr S10.hf.nd
    refine Or.inl ⟨pm, tw'.map (·.1), (tw'.map (·.2)).map (fun e => e.z.kv), rfl, .inl (.inl (by rw [e12, List.map_map])), paired_join (f := fun e : Ent => e.z.kv) tw' (fun e he => d12.mv.sqT (.inl (.inl (hrow e (htw.mem_iff.mp he))))), fun dd ndd => ?_⟩
    rw [mergeK_nd _ _ (by
      rw [List.nil_append, show ((tw'.map (·.2)).map (fun e : Ent => e.z.kv)).map (·.1) = (((tw'.map (·.2)).map (·.z)).map fun z : FnA => z.r.nm).map Sum.inr by rw [List.map_map, List.map_map, List.map_map, List.map_map, List.map_map]; rfl]
      exact nd_inr nz'), List.nil_append]
    have m13 : Mv [] H12 (upd H12 dd (.dK ((tw'.map (·.2)).map (fun e => e.z.kv)))) := .new ndd
    have e13 : upd H12 dd (.dK ((tw'.map (·.2)).map (fun e => e.z.kv))) dd = some (.dK (((tw'.map (·.2)).map (·.z)).map FnA.kv)) := by rw [upd_same, List.map_map (g := FnA.kv)]; rfl
    generalize upd H12 dd (.dK ((tw'.map (·.2)).map (fun e => e.z.kv))) = H13 at m13 e13 ⊢
    have hzm : ∀ z ∈ (tw'.map (·.2)).map (·.z), z ∈ es.map (·.z) := fun z hz => (hes'.map _).mem_iff.mp hz
    have S13 := S12.dr (.of m13)
    refine ⟨dd, (tw'.map (·.2)).map (·.z), rfl, ⟨e13, nz', fun z hz => S13.hf.tup z (hzm z hz), fun z hz => S13.hf.lst z (hzm z hz), fun z hz => S13.hf.ims z (hzm z hz)⟩, hOk'.fns, fun H14 m14 => ?_⟩
    have S14 := S13.dr (.of m14)
    refine ⟨.ref cd, rfl, cd, es.map (·.c), rfl, S14.hc, hOk.cas, fun H15 m15 => ?_⟩
    rw [hOk.same hes' S10.hc.nd]
    refine ⟨_, _, badD _, rfl, bad_dp _, bad_dp _, bad_shw (fun y hy => ?_), ⟨_, rfl, ?_⟩⟩
    · have := ss_mem.mp (bad_mem hy)
      obtain ⟨c, hc, rfl⟩ := List.mem_map.mp this
      obtain ⟨e, he, rfl⟩ := List.mem_map.mp hc
      exact hNm _ (hE e he).on
    · exact ⟨_, _, _, _, _, _, _, _, _, _, rfl, (S14.dr (.of m15)).bag⟩
end
end Fm
namespace Fm
open PySem PySem.Spec PyProof.Rows L2 SlX
section
variable {l : PySem.W.OpenLaw} {w : World} {K : PySem.W.Frag} {mg : Str → Option Value} {fa : Addr}
theorem all_mk {h : Heap} (X : K.In h) (G : h.Ns mainGlobals mg) (hfa : mg "law" = some (.ref fa))
    {f0 : Addr} {od0 an0 : Option Addr} {sl0 : Array (Option Value)} {oc0 kV0 dc0 pm0 cd0 ct0 : Value}
    (a0 : PySem.W.nsIn K mainGlobals "is_integer" = some (some (.ref f0))) (l0 : K.lookup f0 = some ⟨oc0, od0, .func (PySem.W.fnOf "is_integer" "is_integer" (defArgs s_is_integer) (defBody s_is_integer) (defScope s_is_integer) .none kV0 dc0 pm0 an0 cd0 ct0), sl0⟩) (c0 : PySem.W.codeIn K cd0 "is_integer" = true) (k0 : PySem.W.keepIn K (.ref f0) = true)
    {f1 : Addr} {od1 an1 : Option Addr} {sl1 : Array (Option Value)} {oc1 kV1 dc1 pm1 cd1 ct1 : Value}
    (a1 : PySem.W.nsIn K mainGlobals "is_name" = some (some (.ref f1))) (l1 : K.lookup f1 = some ⟨oc1, od1, .func (PySem.W.fnOf "is_name" "is_name" (defArgs s_is_name) (defBody s_is_name) (defScope s_is_name) .none kV1 dc1 pm1 an1 cd1 ct1), sl1⟩) (c1 : PySem.W.codeIn K cd1 "is_name" = true) (k1 : PySem.W.keepIn K (.ref f1) = true)
    {f2 : Addr} {od2 an2 : Option Addr} {sl2 : Array (Option Value)} {oc2 kV2 dc2 pm2 cd2 ct2 : Value}
    (a2 : PySem.W.nsIn K mainGlobals "is_outcome" = some (some (.ref f2))) (l2 : K.lookup f2 = some ⟨oc2, od2, .func (PySem.W.fnOf "is_outcome" "is_outcome" (defArgs s_is_outcome) (defBody s_is_outcome) (defScope s_is_outcome) .none kV2 dc2 pm2 an2 cd2 ct2), sl2⟩) (c2 : PySem.W.codeIn K cd2 "is_outcome" = true) (k2 : PySem.W.keepIn K (.ref f2) = true)
    {f3 : Addr} {od3 an3 : Option Addr} {sl3 : Array (Option Value)} {oc3 kV3 dc3 pm3 cd3 ct3 : Value}
    (a3 : PySem.W.nsIn K mainGlobals "is_term" = some (some (.ref f3))) (l3 : K.lookup f3 = some ⟨oc3, od3, .func (PySem.W.fnOf "is_term" "is_term" (defArgs s_is_term) (defBody s_is_term) (defScope s_is_term) .none kV3 dc3 pm3 an3 cd3 ct3), sl3⟩) (c3 : PySem.W.codeIn K cd3 "is_term" = true) (k3 : PySem.W.keepIn K (.ref f3) = true)
    {f4 : Addr} {od4 an4 : Option Addr} {sl4 : Array (Option Value)} {oc4 kV4 dc4 pm4 cd4 ct4 : Value}
    (a4 : PySem.W.nsIn K mainGlobals "is_term_over" = some (some (.ref f4))) (l4 : K.lookup f4 = some ⟨oc4, od4, .func (PySem.W.fnOf "is_term_over" "is_term_over" (defArgs s_is_term_over) (defBody s_is_term_over) (defScope s_is_term_over) .none kV4 dc4 pm4 an4 cd4 ct4), sl4⟩) (c4 : PySem.W.codeIn K cd4 "is_term_over" = true) (k4 : PySem.W.keepIn K (.ref f4) = true)
    {f5 : Addr} {od5 an5 : Option Addr} {sl5 : Array (Option Value)} {oc5 kV5 dc5 pm5 cd5 ct5 : Value}
    (a5 : PySem.W.nsIn K mainGlobals "is_within" = some (some (.ref f5))) (l5 : K.lookup f5 = some ⟨oc5, od5, .func (PySem.W.fnOf "is_within" "is_within" (defArgs s_is_within) (defBody s_is_within) (defScope s_is_within) .none kV5 dc5 pm5 an5 cd5 ct5), sl5⟩) (c5 : PySem.W.codeIn K cd5 "is_within" = true) (k5 : PySem.W.keepIn K (.ref f5) = true)
    {f6 : Addr} {od6 an6 : Option Addr} {sl6 : Array (Option Value)} {oc6 kV6 dc6 pm6 cd6 ct6 : Value}
    (a6 : PySem.W.nsIn K mainGlobals "are_outcomes" = some (some (.ref f6))) (l6 : K.lookup f6 = some ⟨oc6, od6, .func (PySem.W.fnOf "are_outcomes" "are_outcomes" (defArgs s_are_outcomes) (defBody s_are_outcomes) (defScope s_are_outcomes) .none kV6 dc6 pm6 an6 cd6 ct6), sl6⟩) (c6 : PySem.W.codeIn K cd6 "are_outcomes" = true) (k6 : PySem.W.keepIn K (.ref f6) = true)
    {f7 : Addr} {od7 an7 : Option Addr} {sl7 : Array (Option Value)} {oc7 kV7 dc7 pm7 cd7 ct7 : Value}
    (a7 : PySem.W.nsIn K mainGlobals "is_act" = some (some (.ref f7))) (l7 : K.lookup f7 = some ⟨oc7, od7, .func (PySem.W.fnOf "is_act" "is_act" (defArgs s_is_act) (defBody s_is_act) (defScope s_is_act) .none kV7 dc7 pm7 an7 cd7 ct7), sl7⟩) (c7 : PySem.W.codeIn K cd7 "is_act" = true) (k7 : PySem.W.keepIn K (.ref f7) = true)
    {f8 : Addr} {od8 an8 : Option Addr} {sl8 : Array (Option Value)} {oc8 kV8 dc8 pm8 cd8 ct8 : Value}
    (a8 : PySem.W.nsIn K mainGlobals "are_different" = some (some (.ref f8))) (l8 : K.lookup f8 = some ⟨oc8, od8, .func (PySem.W.fnOf "are_different" "are_different" (defArgs s_are_different) (defBody s_are_different) (defScope s_are_different) .none kV8 dc8 pm8 an8 cd8 ct8), sl8⟩) (c8 : PySem.W.codeIn K cd8 "are_different" = true) (k8 : PySem.W.keepIn K (.ref f8) = true)
    {f9 : Addr} {od9 an9 : Option Addr} {sl9 : Array (Option Value)} {oc9 kV9 dc9 pm9 cd9 ct9 : Value}
    (a9 : PySem.W.nsIn K mainGlobals "are_terms_over" = some (some (.ref f9))) (l9 : K.lookup f9 = some ⟨oc9, od9, .func (PySem.W.fnOf "are_terms_over" "are_terms_over" (defArgs s_are_terms_over) (defBody s_are_terms_over) (defScope s_are_terms_over) .none kV9 dc9 pm9 an9 cd9 ct9), sl9⟩) (c9 : PySem.W.codeIn K cd9 "are_terms_over" = true) (k9 : PySem.W.keepIn K (.ref f9) = true)
    {f10 : Addr} {od10 an10 : Option Addr} {sl10 : Array (Option Value)} {oc10 kV10 dc10 pm10 cd10 ct10 : Value}
    (a10 : PySem.W.nsIn K mainGlobals "is_place" = some (some (.ref f10))) (l10 : K.lookup f10 = some ⟨oc10, od10, .func (PySem.W.fnOf "is_place" "is_place" (defArgs s_is_place) (defBody s_is_place) (defScope s_is_place) .none kV10 dc10 pm10 an10 cd10 ct10), sl10⟩) (c10 : PySem.W.codeIn K cd10 "is_place" = true) (k10 : PySem.W.keepIn K (.ref f10) = true)
    {f11 : Addr} {od11 an11 : Option Addr} {sl11 : Array (Option Value)} {oc11 kV11 dc11 pm11 cd11 ct11 : Value}
    (a11 : PySem.W.nsIn K mainGlobals "is_pair" = some (some (.ref f11))) (l11 : K.lookup f11 = some ⟨oc11, od11, .func (PySem.W.fnOf "is_pair" "is_pair" (defArgs s_is_pair) (defBody s_is_pair) (defScope s_is_pair) .none kV11 dc11 pm11 an11 cd11 ct11), sl11⟩) (c11 : PySem.W.codeIn K cd11 "is_pair" = true) (k11 : PySem.W.keepIn K (.ref f11) = true)
    {f12 : Addr} {od12 an12 : Option Addr} {sl12 : Array (Option Value)} {oc12 kV12 dc12 pm12 cd12 ct12 : Value}
    (a12 : PySem.W.nsIn K mainGlobals "is_set" = some (some (.ref f12))) (l12 : K.lookup f12 = some ⟨oc12, od12, .func (PySem.W.fnOf "is_set" "is_set" (defArgs s_is_set) (defBody s_is_set) (defScope s_is_set) .none kV12 dc12 pm12 an12 cd12 ct12), sl12⟩) (c12 : PySem.W.codeIn K cd12 "is_set" = true) (k12 : PySem.W.keepIn K (.ref f12) = true)
    {f13 : Addr} {od13 an13 : Option Addr} {sl13 : Array (Option Value)} {oc13 kV13 dc13 pm13 cd13 ct13 : Value}
    (a13 : PySem.W.nsIn K mainGlobals "is_way" = some (some (.ref f13))) (l13 : K.lookup f13 = some ⟨oc13, od13, .func (PySem.W.fnOf "is_way" "is_way" (defArgs s_is_way) (defBody s_is_way) (defScope s_is_way) .none kV13 dc13 pm13 an13 cd13 ct13), sl13⟩) (c13 : PySem.W.codeIn K cd13 "is_way" = true) (k13 : PySem.W.keepIn K (.ref f13) = true)
    {f14 : Addr} {od14 an14 : Option Addr} {sl14 : Array (Option Value)} {oc14 kV14 dc14 pm14 cd14 ct14 : Value}
    (a14 : PySem.W.nsIn K mainGlobals "is_ask" = some (some (.ref f14))) (l14 : K.lookup f14 = some ⟨oc14, od14, .func (PySem.W.fnOf "is_ask" "is_ask" (defArgs s_is_ask) (defBody s_is_ask) (defScope s_is_ask) .none kV14 dc14 pm14 an14 cd14 ct14), sl14⟩) (c14 : PySem.W.codeIn K cd14 "is_ask" = true) (k14 : PySem.W.keepIn K (.ref f14) = true)
    {f15 : Addr} {od15 an15 : Option Addr} {sl15 : Array (Option Value)} {oc15 kV15 dc15 pm15 cd15 ct15 : Value}
    (a15 : PySem.W.nsIn K mainGlobals "is_end" = some (some (.ref f15))) (l15 : K.lookup f15 = some ⟨oc15, od15, .func (PySem.W.fnOf "is_end" "is_end" (defArgs s_is_end) (defBody s_is_end) (defScope s_is_end) .none kV15 dc15 pm15 an15 cd15 ct15), sl15⟩) (c15 : PySem.W.codeIn K cd15 "is_end" = true) (k15 : PySem.W.keepIn K (.ref f15) = true)
    {f16 : Addr} {od16 an16 : Option Addr} {sl16 : Array (Option Value)} {oc16 kV16 dc16 pm16 cd16 ct16 : Value}
    (a16 : PySem.W.nsIn K mainGlobals "is_statement" = some (some (.ref f16))) (l16 : K.lookup f16 = some ⟨oc16, od16, .func (PySem.W.fnOf "is_statement" "is_statement" (defArgs s_is_statement) (defBody s_is_statement) (defScope s_is_statement) .none kV16 dc16 pm16 an16 cd16 ct16), sl16⟩) (c16 : PySem.W.codeIn K cd16 "is_statement" = true) (k16 : PySem.W.keepIn K (.ref f16) = true)
    {f17 : Addr} {od17 an17 : Option Addr} {sl17 : Array (Option Value)} {oc17 kV17 dc17 pm17 cd17 ct17 : Value}
    (a17 : PySem.W.nsIn K mainGlobals "ordered" = some (some (.ref f17))) (l17 : K.lookup f17 = some ⟨oc17, od17, .func (PySem.W.fnOf "ordered" "ordered" (defArgs s_ordered) (defBody s_ordered) (defScope s_ordered) .none kV17 dc17 pm17 an17 cd17 ct17), sl17⟩) (c17 : PySem.W.codeIn K cd17 "ordered" = true) (k17 : PySem.W.keepIn K (.ref f17) = true)
    {f18 : Addr} {od18 an18 : Option Addr} {sl18 : Array (Option Value)} {oc18 kV18 dc18 pm18 cd18 ct18 : Value}
    (a18 : PySem.W.nsIn K mainGlobals "first_of" = some (some (.ref f18))) (l18 : K.lookup f18 = some ⟨oc18, od18, .func (PySem.W.fnOf "first_of" "first_of" (defArgs s_first_of) (defBody s_first_of) (defScope s_first_of) .none kV18 dc18 pm18 an18 cd18 ct18), sl18⟩) (c18 : PySem.W.codeIn K cd18 "first_of" = true) (k18 : PySem.W.keepIn K (.ref f18) = true)
    {f19 : Addr} {od19 an19 : Option Addr} {sl19 : Array (Option Value)} {oc19 kV19 dc19 pm19 cd19 ct19 : Value}
    (a19 : PySem.W.nsIn K mainGlobals "is_function" = some (some (.ref f19))) (l19 : K.lookup f19 = some ⟨oc19, od19, .func (PySem.W.fnOf "is_function" "is_function" (defArgs s_is_function) (defBody s_is_function) (defScope s_is_function) .none kV19 dc19 pm19 an19 cd19 ct19), sl19⟩) (c19 : PySem.W.codeIn K cd19 "is_function" = true) (k19 : PySem.W.keepIn K (.ref f19) = true)
    {f20 : Addr} {od20 an20 : Option Addr} {sl20 : Array (Option Value)} {oc20 kV20 dc20 pm20 cd20 ct20 : Value}
    (a20 : PySem.W.nsIn K mainGlobals "is_call" = some (some (.ref f20))) (l20 : K.lookup f20 = some ⟨oc20, od20, .func (PySem.W.fnOf "is_call" "is_call" (defArgs s_is_call) (defBody s_is_call) (defScope s_is_call) .none kV20 dc20 pm20 an20 cd20 ct20), sl20⟩) (c20 : PySem.W.codeIn K cd20 "is_call" = true) (k20 : PySem.W.keepIn K (.ref f20) = true)
    {f21 : Addr} {od21 an21 : Option Addr} {sl21 : Array (Option Value)} {oc21 kV21 dc21 pm21 cd21 ct21 : Value}
    (a21 : PySem.W.nsIn K mainGlobals "is_back" = some (some (.ref f21))) (l21 : K.lookup f21 = some ⟨oc21, od21, .func (PySem.W.fnOf "is_back" "is_back" (defArgs s_is_back) (defBody s_is_back) (defScope s_is_back) .none kV21 dc21 pm21 an21 cd21 ct21), sl21⟩) (c21 : PySem.W.codeIn K cd21 "is_back" = true) (k21 : PySem.W.keepIn K (.ref f21) = true)
    {f22 : Addr} {od22 an22 : Option Addr} {sl22 : Array (Option Value)} {oc22 kV22 dc22 pm22 cd22 ct22 : Value}
    (a22 : PySem.W.nsIn K mainGlobals "is_line" = some (some (.ref f22))) (l22 : K.lookup f22 = some ⟨oc22, od22, .func (PySem.W.fnOf "is_line" "is_line" (defArgs s_is_line) (defBody s_is_line) (defScope s_is_line) .none kV22 dc22 pm22 an22 cd22 ct22), sl22⟩) (c22 : PySem.W.codeIn K cd22 "is_line" = true) (k22 : PySem.W.keepIn K (.ref f22) = true)
    {f23 : Addr} {od23 an23 : Option Addr} {sl23 : Array (Option Value)} {oc23 kV23 dc23 pm23 cd23 ct23 : Value}
    (a23 : PySem.W.nsIn K mainGlobals "called_by" = some (some (.ref f23))) (l23 : K.lookup f23 = some ⟨oc23, od23, .func (PySem.W.fnOf "called_by" "called_by" (defArgs s_called_by) (defBody s_called_by) (defScope s_called_by) .none kV23 dc23 pm23 an23 cd23 ct23), sl23⟩) (c23 : PySem.W.codeIn K cd23 "called_by" = true) (k23 : PySem.W.keepIn K (.ref f23) = true)
    {f24 : Addr} {od24 an24 : Option Addr} {sl24 : Array (Option Value)} {oc24 kV24 dc24 pm24 cd24 ct24 : Value}
    (a24 : PySem.W.nsIn K mainGlobals "all_called" = some (some (.ref f24))) (l24 : K.lookup f24 = some ⟨oc24, od24, .func (PySem.W.fnOf "all_called" "all_called" (defArgs s_all_called) (defBody s_all_called) (defScope s_all_called) .none kV24 dc24 pm24 an24 cd24 ct24), sl24⟩) (c24 : PySem.W.codeIn K cd24 "all_called" = true) (k24 : PySem.W.keepIn K (.ref f24) = true)
    {f25 : Addr} {od25 an25 : Option Addr} {sl25 : Array (Option Value)} {oc25 kV25 dc25 pm25 cd25 ct25 : Value}
    (a25 : PySem.W.nsIn K mainGlobals "open_at_once" = some (some (.ref f25))) (l25 : K.lookup f25 = some ⟨oc25, od25, .func (PySem.W.fnOf "open_at_once" "open_at_once" (defArgs s_open_at_once) (defBody s_open_at_once) (defScope s_open_at_once) .none kV25 dc25 pm25 an25 cd25 ct25), sl25⟩) (c25 : PySem.W.codeIn K cd25 "open_at_once" = true) (k25 : PySem.W.keepIn K (.ref f25) = true)
    {f26 : Addr} {od26 an26 : Option Addr} {sl26 : Array (Option Value)} {oc26 kV26 dc26 pm26 cd26 ct26 : Value}
    (a26 : PySem.W.nsIn K mainGlobals "first_bad" = some (some (.ref f26))) (l26 : K.lookup f26 = some ⟨oc26, od26, .func (PySem.W.fnOf "first_bad" "first_bad" (defArgs s_first_bad) (defBody s_first_bad) (defScope s_first_bad) .none kV26 dc26 pm26 an26 cd26 ct26), sl26⟩) (c26 : PySem.W.codeIn K cd26 "first_bad" = true) (k26 : PySem.W.keepIn K (.ref f26) = true)
    {f27 : Addr} {od27 an27 : Option Addr} {sl27 : Array (Option Value)} {oc27 kV27 dc27 pm27 cd27 ct27 : Value}
    (a27 : PySem.W.nsIn K mainGlobals "tidy" = some (some (.ref f27))) (l27 : K.lookup f27 = some ⟨oc27, od27, .func (PySem.W.fnOf "tidy" "tidy" (defArgs s_tidy) (defBody s_tidy) (defScope s_tidy) .none kV27 dc27 pm27 an27 cd27 ct27), sl27⟩) (c27 : PySem.W.codeIn K cd27 "tidy" = true) (k27 : PySem.W.keepIn K (.ref f27) = true)
    {f28 : Addr} {od28 an28 : Option Addr} {sl28 : Array (Option Value)} {oc28 kV28 dc28 pm28 cd28 ct28 : Value}
    (a28 : PySem.W.nsIn K mainGlobals "_law_bag" = some (some (.ref f28))) (l28 : K.lookup f28 = some ⟨oc28, od28, .func (PySem.W.fnOf "_law_bag" "_law_bag" (defArgs s__law_bag) (defBody s__law_bag) (defScope s__law_bag) .none kV28 dc28 pm28 an28 cd28 ct28), sl28⟩) (c28 : PySem.W.codeIn K cd28 "_law_bag" = true) (k28 : PySem.W.keepIn K (.ref f28) = true)
    {f29 : Addr} {od29 an29 : Option Addr} {sl29 : Array (Option Value)} {oc29 kV29 dc29 pm29 cd29 ct29 : Value}
    (a29 : PySem.W.nsIn K mainGlobals "_law_take" = some (some (.ref f29))) (l29 : K.lookup f29 = some ⟨oc29, od29, .func (PySem.W.fnOf "_law_take" "_law_take" (defArgs s__law_take) (defBody s__law_take) (defScope s__law_take) .none kV29 dc29 pm29 an29 cd29 ct29), sl29⟩) (c29 : PySem.W.codeIn K cd29 "_law_take" = true) (k29 : PySem.W.keepIn K (.ref f29) = true)
    {f30 : Addr} {od30 an30 : Option Addr} {sl30 : Array (Option Value)} {oc30 kV30 dc30 pm30 cd30 ct30 : Value}
    (a30 : PySem.W.nsIn K mainGlobals "_law_alike" = some (some (.ref f30))) (l30 : K.lookup f30 = some ⟨oc30, od30, .func (PySem.W.fnOf "_law_alike" "_law_alike" (defArgs s__law_alike) (defBody s__law_alike) (defScope s__law_alike) .none kV30 dc30 pm30 an30 cd30 ct30), sl30⟩) (c30 : PySem.W.codeIn K cd30 "_law_alike" = true) (k30 : PySem.W.keepIn K (.ref f30) = true)
    {f31 : Addr} {od31 an31 : Option Addr} {sl31 : Array (Option Value)} {oc31 kV31 dc31 pm31 cd31 ct31 : Value}
    (a31 : PySem.W.nsIn K mainGlobals "_law_mixed" = some (some (.ref f31))) (l31 : K.lookup f31 = some ⟨oc31, od31, .func (PySem.W.fnOf "_law_mixed" "_law_mixed" (defArgs s__law_mixed) (defBody s__law_mixed) (defScope s__law_mixed) .none kV31 dc31 pm31 an31 cd31 ct31), sl31⟩) (c31 : PySem.W.codeIn K cd31 "_law_mixed" = true) (k31 : PySem.W.keepIn K (.ref f31) = true)
    {f32 : Addr} {od32 an32 : Option Addr} {sl32 : Array (Option Value)} {oc32 kV32 dc32 pm32 cd32 ct32 : Value}
    (a32 : PySem.W.nsIn K mainGlobals "_law_names" = some (some (.ref f32))) (l32 : K.lookup f32 = some ⟨oc32, od32, .func (PySem.W.fnOf "_law_names" "_law_names" (defArgs s__law_names) (defBody s__law_names) (defScope s__law_names) .none kV32 dc32 pm32 an32 cd32 ct32), sl32⟩) (c32 : PySem.W.codeIn K cd32 "_law_names" = true) (k32 : PySem.W.keepIn K (.ref f32) = true)
    {f33 : Addr} {od33 an33 : Option Addr} {sl33 : Array (Option Value)} {oc33 kV33 dc33 pm33 cd33 ct33 : Value}
    (a33 : PySem.W.nsIn K mainGlobals "_law_reach" = some (some (.ref f33))) (l33 : K.lookup f33 = some ⟨oc33, od33, .func (PySem.W.fnOf "_law_reach" "_law_reach" (defArgs s__law_reach) (defBody s__law_reach) (defScope s__law_reach) .none kV33 dc33 pm33 an33 cd33 ct33), sl33⟩) (c33 : PySem.W.codeIn K cd33 "_law_reach" = true) (k33 : PySem.W.keepIn K (.ref f33) = true)
    {f34 : Addr} {od34 an34 : Option Addr} {sl34 : Array (Option Value)} {oc34 kV34 dc34 pm34 cd34 ct34 : Value}
    (a34 : PySem.W.nsIn K mainGlobals "_law_bad_calls" = some (some (.ref f34))) (l34 : K.lookup f34 = some ⟨oc34, od34, .func (PySem.W.fnOf "_law_bad_calls" "_law_bad_calls" (defArgs s__law_bad_calls) (defBody s__law_bad_calls) (defScope s__law_bad_calls) .none kV34 dc34 pm34 an34 cd34 ct34), sl34⟩) (c34 : PySem.W.codeIn K cd34 "_law_bad_calls" = true) (k34 : PySem.W.keepIn K (.ref f34) = true)
    {f35 : Addr} {od35 an35 : Option Addr} {sl35 : Array (Option Value)} {oc35 kV35 dc35 pm35 cd35 ct35 : Value}
    (a35 : PySem.W.nsIn K mainGlobals "_law_heard" = some (some (.ref f35))) (l35 : K.lookup f35 = some ⟨oc35, od35, .func (PySem.W.fnOf "_law_heard" "_law_heard" (defArgs s__law_heard) (defBody s__law_heard) (defScope s__law_heard) .none kV35 dc35 pm35 an35 cd35 ct35), sl35⟩) (c35 : PySem.W.codeIn K cd35 "_law_heard" = true) (k35 : PySem.W.keepIn K (.ref f35) = true)
    {f36 : Addr} {od36 an36 : Option Addr} {sl36 : Array (Option Value)} {oc36 kV36 dc36 pm36 cd36 ct36 : Value}
    (a36 : PySem.W.nsIn K mainGlobals "law" = some (some (.ref f36))) (l36 : K.lookup f36 = some ⟨oc36, od36, .func (PySem.W.fnOf "law" "law" (defArgs s_law) (defBody s_law) (defScope s_law) .none kV36 dc36 pm36 an36 cd36 ct36), sl36⟩) (c36 : PySem.W.codeIn K cd36 "law" = true) (k36 : PySem.W.keepIn K (.ref f36) = true)
    {C_World : Addr}
    (g_World : PySem.W.nsIn K mainGlobals "World" = some (some (.ref C_World)))
    (k_World : PySem.W.keepIn K (.ref C_World) = true)
    (pg_World : PySem.W.plainGet K C_World Str.empty = true)
    (ic_World : PySem.W.isClsIn K C_World = true)
    (po_World : PySem.W.plainOver K C_World = true)
    (sa_World : PySem.W.findIn K (.ref C_World) "__setattr__" = some (some (.builtin "object.__setattr__")))
    (mk_World : PySem.W.makesIn K C_World = true)
    (ca_World : PySem.W.findIn K (.ref C_World) "__class__" = some (some (.builtin "object.__class__")))
    (cn_World : PySem.W.specialIn K (.builtin "object.__class__") "__get__" = some (some (.builtin "getset_descriptor.__get__")))
    (ct_World : PySem.W.takesIn K (.builtin "object.__class__") = some true)
    (cm_World : PySem.W.mroIn K C_World (.type "object") = some true)
    {p_World_its_acts : Addr}
    (at_World_its_acts : PySem.W.findIn K (.ref C_World) "its_acts" = some (some (.ref p_World_its_acts)))
    (get_World_its_acts : PySem.W.specialIn K (.ref p_World_its_acts) "__get__" = some (some (.builtin "member_descriptor.__get__")))
    (tk_World_its_acts : PySem.W.takesIn K (.ref p_World_its_acts) = some true)
    (ty_World_its_acts : PySem.W.typeIn K (.ref p_World_its_acts) = some (.type "member_descriptor"))
    (ix_World_its_acts : PySem.W.slotIn K p_World_its_acts C_World = some 0)
    {f_World___init__ : Addr} {od_World___init__ an_World___init__ : Option Addr} {sl_World___init__ : Array (Option Value)} {oc_World___init__ kV_World___init__ dc_World___init__ pm_World___init__ cd_World___init__ cc_World___init__ : Value}
    (am_World___init__ : PySem.W.findIn K (.ref C_World) "__init__" = some (some (.ref f_World___init__)))
    (im_World___init__ : PySem.W.isFn K (.ref f_World___init__) = true)
    (lm_World___init__ : K.lookup f_World___init__ = some ⟨oc_World___init__, od_World___init__, .func (PySem.W.fnOf "__init__" "World.__init__" (defArgs s_World___init__) (defBody s_World___init__) (defScope s_World___init__) .none kV_World___init__ dc_World___init__ pm_World___init__ an_World___init__ cd_World___init__ cc_World___init__), sl_World___init__⟩)
    (co_World___init__ : PySem.W.codeIn K cd_World___init__ "World.__init__" = true)
    (km_World___init__ : PySem.W.keepIn K (.ref f_World___init__) = true)
    {f_World_acts : Addr} {od_World_acts an_World_acts : Option Addr} {sl_World_acts : Array (Option Value)} {oc_World_acts kV_World_acts dc_World_acts pm_World_acts cd_World_acts cc_World_acts : Value}
    (am_World_acts : PySem.W.findIn K (.ref C_World) "acts" = some (some (.ref f_World_acts)))
    (im_World_acts : PySem.W.isFn K (.ref f_World_acts) = true)
    (lm_World_acts : K.lookup f_World_acts = some ⟨oc_World_acts, od_World_acts, .func (PySem.W.fnOf "acts" "World.acts" (defArgs s_World_acts) (defBody s_World_acts) (defScope s_World_acts) .none kV_World_acts dc_World_acts pm_World_acts an_World_acts cd_World_acts cc_World_acts), sl_World_acts⟩)
    (co_World_acts : PySem.W.codeIn K cd_World_acts "World.acts" = true)
    (km_World_acts : PySem.W.keepIn K (.ref f_World_acts) = true)
    {f_World_arguments : Addr} {od_World_arguments an_World_arguments : Option Addr} {sl_World_arguments : Array (Option Value)} {oc_World_arguments kV_World_arguments dc_World_arguments pm_World_arguments cd_World_arguments cc_World_arguments : Value}
    (am_World_arguments : PySem.W.findIn K (.ref C_World) "arguments" = some (some (.ref f_World_arguments)))
    (im_World_arguments : PySem.W.isFn K (.ref f_World_arguments) = true)
    (lm_World_arguments : K.lookup f_World_arguments = some ⟨oc_World_arguments, od_World_arguments, .func (PySem.W.fnOf "arguments" "World.arguments" (defArgs s_World_arguments) (defBody s_World_arguments) (defScope s_World_arguments) .none kV_World_arguments dc_World_arguments pm_World_arguments an_World_arguments cd_World_arguments cc_World_arguments), sl_World_arguments⟩)
    (co_World_arguments : PySem.W.codeIn K cd_World_arguments "World.arguments" = true)
    (km_World_arguments : PySem.W.keepIn K (.ref f_World_arguments) = true)
    {f_World_outcomes : Addr} {od_World_outcomes an_World_outcomes : Option Addr} {sl_World_outcomes : Array (Option Value)} {oc_World_outcomes kV_World_outcomes dc_World_outcomes pm_World_outcomes cd_World_outcomes cc_World_outcomes : Value}
    (am_World_outcomes : PySem.W.findIn K (.ref C_World) "outcomes" = some (some (.ref f_World_outcomes)))
    (im_World_outcomes : PySem.W.isFn K (.ref f_World_outcomes) = true)
    (lm_World_outcomes : K.lookup f_World_outcomes = some ⟨oc_World_outcomes, od_World_outcomes, .func (PySem.W.fnOf "outcomes" "World.outcomes" (defArgs s_World_outcomes) (defBody s_World_outcomes) (defScope s_World_outcomes) .none kV_World_outcomes dc_World_outcomes pm_World_outcomes an_World_outcomes cd_World_outcomes cc_World_outcomes), sl_World_outcomes⟩)
    (co_World_outcomes : PySem.W.codeIn K cd_World_outcomes "World.outcomes" = true)
    (km_World_outcomes : PySem.W.keepIn K (.ref f_World_outcomes) = true)
    {f_World_brings : Addr} {od_World_brings an_World_brings : Option Addr} {sl_World_brings : Array (Option Value)} {oc_World_brings kV_World_brings dc_World_brings pm_World_brings cd_World_brings cc_World_brings : Value}
    (am_World_brings : PySem.W.findIn K (.ref C_World) "brings" = some (some (.ref f_World_brings)))
    (im_World_brings : PySem.W.isFn K (.ref f_World_brings) = true)
    (lm_World_brings : K.lookup f_World_brings = some ⟨oc_World_brings, od_World_brings, .func (PySem.W.fnOf "brings" "World.brings" (defArgs s_World_brings) (defBody s_World_brings) (defScope s_World_brings) .none kV_World_brings dc_World_brings pm_World_brings an_World_brings cd_World_brings cc_World_brings), sl_World_brings⟩)
    (co_World_brings : PySem.W.codeIn K cd_World_brings "World.brings" = true)
    (km_World_brings : PySem.W.keepIn K (.ref f_World_brings) = true)
    {f_World___eq__ : Addr} {od_World___eq__ an_World___eq__ : Option Addr} {sl_World___eq__ : Array (Option Value)} {oc_World___eq__ kV_World___eq__ dc_World___eq__ pm_World___eq__ cd_World___eq__ cc_World___eq__ : Value}
    (am_World___eq__ : PySem.W.findIn K (.ref C_World) "__eq__" = some (some (.ref f_World___eq__)))
    (im_World___eq__ : PySem.W.isFn K (.ref f_World___eq__) = true)
    (lm_World___eq__ : K.lookup f_World___eq__ = some ⟨oc_World___eq__, od_World___eq__, .func (PySem.W.fnOf "__eq__" "World.__eq__" (defArgs s_World___eq__) (defBody s_World___eq__) (defScope s_World___eq__) .none kV_World___eq__ dc_World___eq__ pm_World___eq__ an_World___eq__ cd_World___eq__ cc_World___eq__), sl_World___eq__⟩)
    (co_World___eq__ : PySem.W.codeIn K cd_World___eq__ "World.__eq__" = true)
    (km_World___eq__ : PySem.W.keepIn K (.ref f_World___eq__) = true)
    {C_Unit : Addr}
    (g_Unit : PySem.W.nsIn K mainGlobals "Unit" = some (some (.ref C_Unit)))
    (k_Unit : PySem.W.keepIn K (.ref C_Unit) = true)
    (pg_Unit : PySem.W.plainGet K C_Unit Str.empty = true)
    (ic_Unit : PySem.W.isClsIn K C_Unit = true)
    (po_Unit : PySem.W.plainOver K C_Unit = true)
    (sa_Unit : PySem.W.findIn K (.ref C_Unit) "__setattr__" = some (some (.builtin "object.__setattr__")))
    (mk_Unit : PySem.W.makesIn K C_Unit = true)
    (ca_Unit : PySem.W.findIn K (.ref C_Unit) "__class__" = some (some (.builtin "object.__class__")))
    (cn_Unit : PySem.W.specialIn K (.builtin "object.__class__") "__get__" = some (some (.builtin "getset_descriptor.__get__")))
    (ct_Unit : PySem.W.takesIn K (.builtin "object.__class__") = some true)
    (cm_Unit : PySem.W.mroIn K C_Unit (.type "object") = some true)
    {p_Unit_its_functions : Addr}
    (at_Unit_its_functions : PySem.W.findIn K (.ref C_Unit) "its_functions" = some (some (.ref p_Unit_its_functions)))
    (get_Unit_its_functions : PySem.W.specialIn K (.ref p_Unit_its_functions) "__get__" = some (some (.builtin "member_descriptor.__get__")))
    (tk_Unit_its_functions : PySem.W.takesIn K (.ref p_Unit_its_functions) = some true)
    (ty_Unit_its_functions : PySem.W.typeIn K (.ref p_Unit_its_functions) = some (.type "member_descriptor"))
    (ix_Unit_its_functions : PySem.W.slotIn K p_Unit_its_functions C_Unit = some 0)
    {p_Unit_its_world : Addr}
    (at_Unit_its_world : PySem.W.findIn K (.ref C_Unit) "its_world" = some (some (.ref p_Unit_its_world)))
    (get_Unit_its_world : PySem.W.specialIn K (.ref p_Unit_its_world) "__get__" = some (some (.builtin "member_descriptor.__get__")))
    (tk_Unit_its_world : PySem.W.takesIn K (.ref p_Unit_its_world) = some true)
    (ty_Unit_its_world : PySem.W.typeIn K (.ref p_Unit_its_world) = some (.type "member_descriptor"))
    (ix_Unit_its_world : PySem.W.slotIn K p_Unit_its_world C_Unit = some 1)
    {f_Unit___init__ : Addr} {od_Unit___init__ an_Unit___init__ : Option Addr} {sl_Unit___init__ : Array (Option Value)} {oc_Unit___init__ kV_Unit___init__ dc_Unit___init__ pm_Unit___init__ cd_Unit___init__ cc_Unit___init__ : Value}
    (am_Unit___init__ : PySem.W.findIn K (.ref C_Unit) "__init__" = some (some (.ref f_Unit___init__)))
    (im_Unit___init__ : PySem.W.isFn K (.ref f_Unit___init__) = true)
    (lm_Unit___init__ : K.lookup f_Unit___init__ = some ⟨oc_Unit___init__, od_Unit___init__, .func (PySem.W.fnOf "__init__" "Unit.__init__" (defArgs s_Unit___init__) (defBody s_Unit___init__) (defScope s_Unit___init__) .none kV_Unit___init__ dc_Unit___init__ pm_Unit___init__ an_Unit___init__ cd_Unit___init__ cc_Unit___init__), sl_Unit___init__⟩)
    (co_Unit___init__ : PySem.W.codeIn K cd_Unit___init__ "Unit.__init__" = true)
    (km_Unit___init__ : PySem.W.keepIn K (.ref f_Unit___init__) = true)
    {f_Unit_world : Addr} {od_Unit_world an_Unit_world : Option Addr} {sl_Unit_world : Array (Option Value)} {oc_Unit_world kV_Unit_world dc_Unit_world pm_Unit_world cd_Unit_world cc_Unit_world : Value}
    {p_Unit_world : Addr} {rs_Unit_world : List Value}
    (pa_Unit_world : PySem.W.findIn K (.ref C_Unit) "world" = some (some (.ref p_Unit_world)))
    (pg_Unit_world : PySem.W.specialIn K (.ref p_Unit_world) "__get__" = some (some (.builtin "property.__get__")))
    (pt_Unit_world : PySem.W.takesIn K (.ref p_Unit_world) = some true)
    (pr_Unit_world : PySem.W.recIn K p_Unit_world "property" = some (.ref f_Unit_world :: rs_Unit_world))
    (lm_Unit_world : K.lookup f_Unit_world = some ⟨oc_Unit_world, od_Unit_world, .func (PySem.W.fnOf "world" "Unit.world" (defArgs s_Unit_world) (defBody s_Unit_world) (defScope s_Unit_world) .none kV_Unit_world dc_Unit_world pm_Unit_world an_Unit_world cd_Unit_world cc_Unit_world), sl_Unit_world⟩)
    (co_Unit_world : PySem.W.codeIn K cd_Unit_world "Unit.world" = true)
    (km_Unit_world : PySem.W.keepIn K (.ref f_Unit_world) = true)
    {f_Unit_functions : Addr} {od_Unit_functions an_Unit_functions : Option Addr} {sl_Unit_functions : Array (Option Value)} {oc_Unit_functions kV_Unit_functions dc_Unit_functions pm_Unit_functions cd_Unit_functions cc_Unit_functions : Value}
    (am_Unit_functions : PySem.W.findIn K (.ref C_Unit) "functions" = some (some (.ref f_Unit_functions)))
    (im_Unit_functions : PySem.W.isFn K (.ref f_Unit_functions) = true)
    (lm_Unit_functions : K.lookup f_Unit_functions = some ⟨oc_Unit_functions, od_Unit_functions, .func (PySem.W.fnOf "functions" "Unit.functions" (defArgs s_Unit_functions) (defBody s_Unit_functions) (defScope s_Unit_functions) .none kV_Unit_functions dc_Unit_functions pm_Unit_functions an_Unit_functions cd_Unit_functions cc_Unit_functions), sl_Unit_functions⟩)
    (co_Unit_functions : PySem.W.codeIn K cd_Unit_functions "Unit.functions" = true)
    (km_Unit_functions : PySem.W.keepIn K (.ref f_Unit_functions) = true)
    {f_Unit_function : Addr} {od_Unit_function an_Unit_function : Option Addr} {sl_Unit_function : Array (Option Value)} {oc_Unit_function kV_Unit_function dc_Unit_function pm_Unit_function cd_Unit_function cc_Unit_function : Value}
    (am_Unit_function : PySem.W.findIn K (.ref C_Unit) "function" = some (some (.ref f_Unit_function)))
    (im_Unit_function : PySem.W.isFn K (.ref f_Unit_function) = true)
    (lm_Unit_function : K.lookup f_Unit_function = some ⟨oc_Unit_function, od_Unit_function, .func (PySem.W.fnOf "function" "Unit.function" (defArgs s_Unit_function) (defBody s_Unit_function) (defScope s_Unit_function) .none kV_Unit_function dc_Unit_function pm_Unit_function an_Unit_function cd_Unit_function cc_Unit_function), sl_Unit_function⟩)
    (co_Unit_function : PySem.W.codeIn K cd_Unit_function "Unit.function" = true)
    (km_Unit_function : PySem.W.keepIn K (.ref f_Unit_function) = true)
    {f_Unit___eq__ : Addr} {od_Unit___eq__ an_Unit___eq__ : Option Addr} {sl_Unit___eq__ : Array (Option Value)} {oc_Unit___eq__ kV_Unit___eq__ dc_Unit___eq__ pm_Unit___eq__ cd_Unit___eq__ cc_Unit___eq__ : Value}
    (am_Unit___eq__ : PySem.W.findIn K (.ref C_Unit) "__eq__" = some (some (.ref f_Unit___eq__)))
    (im_Unit___eq__ : PySem.W.isFn K (.ref f_Unit___eq__) = true)
    (lm_Unit___eq__ : K.lookup f_Unit___eq__ = some ⟨oc_Unit___eq__, od_Unit___eq__, .func (PySem.W.fnOf "__eq__" "Unit.__eq__" (defArgs s_Unit___eq__) (defBody s_Unit___eq__) (defScope s_Unit___eq__) .none kV_Unit___eq__ dc_Unit___eq__ pm_Unit___eq__ an_Unit___eq__ cd_Unit___eq__ cc_Unit___eq__), sl_Unit___eq__⟩)
    (co_Unit___eq__ : PySem.W.codeIn K cd_Unit___eq__ "Unit.__eq__" = true)
    (km_Unit___eq__ : PySem.W.keepIn K (.ref f_Unit___eq__) = true)
    (topS_ : (l.prog.main.scope.names.lookup ("super" : Str)).isSome = false)
    (sup_ : PySem.W.nsIn K mainGlobals "super" = some none)
    (opq_ : PySem.W.nsIn K PySem.cStatics "thirdparty.any" = some none)
    {C_MoveError : Addr}
    (g_MoveError : PySem.W.nsIn K mainGlobals "MoveError" = some (some (.ref C_MoveError)))
    (ex_MoveError : PySem.W.subIn K (.ref C_MoveError) (.type "BaseException") = some true)
    (hd_MoveError : PySem.W.hasDictIn K C_MoveError = true)
    (ty_MoveError : PySem.W.typeIn K (.ref C_MoveError) = some (.type "type"))
    {C_Wrong : Addr}
    (g_Wrong : PySem.W.nsIn K mainGlobals "Wrong" = some (some (.ref C_Wrong)))
    (ex_Wrong : PySem.W.subIn K (.ref C_Wrong) (.type "BaseException") = some true)
    (hd_Wrong : PySem.W.hasDictIn K C_Wrong = true)
    (ty_Wrong : PySem.W.typeIn K (.ref C_Wrong) = some (.type "type"))
    {nm_Wrong q_Wrong : Str} {N_Wrong : Addr} {bs_Wrong bm_Wrong sub_Wrong : List Value} {sn_Wrong : List Str} {ab_Wrong : Bool} {col_Wrong : Option Bool} {dd_Wrong : Option Addr} {k0_Wrong k1_Wrong k2_Wrong k3_Wrong k5_Wrong : Option Value}
    (cls_Wrong : K.lookup C_Wrong = some (excClassObj nm_Wrong q_Wrong C_Wrong N_Wrong bs_Wrong bm_Wrong true sn_Wrong sub_Wrong ab_Wrong col_Wrong dd_Wrong k0_Wrong k1_Wrong k2_Wrong k3_Wrong k5_Wrong "ValueError.__new__"))
    (ve_Wrong : PySem.HandSPX.refsVE bm_Wrong = true)
    (sa_Wrong : PySem.W.findIn K (.ref C_Wrong) "__setattr__" = some (some (.builtin "object.__setattr__")))
    (no_Wrong : PySem.W.findIn K (.ref C_Wrong) "place" = some none)
    (k_Wrong : PySem.W.keepIn K (.ref C_Wrong) = true)
    (vs_Wrong : PySem.W.subIn K (.ref C_Wrong) (.type "ValueError") = some true)
    (up_Wrong : PySem.W.ks_superIn K C_Wrong C_Wrong "__init__" = some (some (.builtin "ValueError.__init__")))
    (self_Wrong : PySem.W.mroIn K C_Wrong (.ref C_Wrong) = some true)
    {fI_Wrong cda_Wrong cc_Wrong : Addr} {oc_Wrong kV_Wrong doc_Wrong pm_Wrong ct_Wrong cl_Wrong ccl_Wrong : Value} {od_Wrong an_Wrong cld_Wrong cdd_Wrong : Option Addr} {osl_Wrong csl_Wrong ccs_Wrong : Array (Option Value)} {ql_Wrong file_Wrong : Str} {vv_Wrong : Array Value} {tf_Wrong : Tok} {p1_Wrong p2_Wrong q1_Wrong q2_Wrong q3_Wrong q4_Wrong q5_Wrong q6_Wrong q7_Wrong q8_Wrong q9_Wrong q10_Wrong : Pos}
    (fi_Wrong : PySem.W.findIn K (.ref C_Wrong) "__init__" = some (some (.ref fI_Wrong)))
    (tI_Wrong : PySem.W.typeIn K (.ref fI_Wrong) = some (.type "function"))
    (lI_Wrong : K.lookup fI_Wrong = some ⟨oc_Wrong, od_Wrong, .func (PySem.W.ksFn "__init__" ql_Wrong (xA "place" p1_Wrong p2_Wrong) (xB "place" q1_Wrong q2_Wrong q3_Wrong q4_Wrong q5_Wrong q6_Wrong q7_Wrong q8_Wrong q9_Wrong q10_Wrong) (xS "place") .none kV_Wrong doc_Wrong pm_Wrong an_Wrong (.ref cda_Wrong) ct_Wrong cc_Wrong), osl_Wrong⟩)
    (cd_Wrong : PySem.W.codeIn K (.ref cda_Wrong) ql_Wrong = true)
    (ce_Wrong : K.lookup cc_Wrong = some ⟨cl_Wrong, cld_Wrong, .cell (some (.ref C_Wrong)), csl_Wrong⟩)
    (co_Wrong : K.lookup cda_Wrong = some ⟨ccl_Wrong, cdd_Wrong, .fields vv_Wrong, ccs_Wrong⟩)
    (cv_Wrong : vv_Wrong[2]? = some (.str file_Wrong tf_Wrong))
    (cf_Wrong : ((l.prog.main.file : Str) == file_Wrong) = true)
    (bi_Wrong : ∀ e v, bindArgs (PySem.W.ksFn "__init__" ql_Wrong (xA "place" p1_Wrong p2_Wrong) (xB "place" q1_Wrong q2_Wrong q3_Wrong q4_Wrong q5_Wrong q6_Wrong q7_Wrong q8_Wrong q9_Wrong q10_Wrong) (xS "place") .none kV_Wrong doc_Wrong pm_Wrong an_Wrong (.ref cda_Wrong) ct_Wrong cc_Wrong) ⟨[.ref e, v], []⟩ = pure [((PySem.Str.ofString "self" : Str), .ref e), ("place", v)])
    (ev_Wrong : ∀ L : Addr, ∃ pl, eval (xCall "place" q1_Wrong q2_Wrong q3_Wrong q4_Wrong q5_Wrong) (PySem.W.ksEnv ql_Wrong (xS "place") L fI_Wrong (.ref cda_Wrong) cc_Wrong) = (do
      let ov ← attributeBase (.Call (.Name "super" q1_Wrong) [] [] q2_Wrong) "__init__" (PySem.W.ksEnv ql_Wrong (xS "place") L fI_Wrong (.ref cda_Wrong) cc_Wrong) (eval (.Call (.Name "super" q1_Wrong) [] [] q2_Wrong) (PySem.W.ksEnv ql_Wrong (xS "place") L fI_Wrong (.ref cda_Wrong) cc_Wrong))
      standAt q3_Wrong.atName
      let (g, first) ← holding [ov] (getMethod ov "__init__" pl)
      callWith q5_Wrong g first (backTo q5_Wrong (starEach [.Name "place" q4_Wrong] (PySem.W.ksEnv ql_Wrong (xS "place") L fI_Wrong (.ref cda_Wrong) cc_Wrong))) []))
    {C_BadAct : Addr}
    (g_BadAct : PySem.W.nsIn K mainGlobals "BadAct" = some (some (.ref C_BadAct)))
    (ex_BadAct : PySem.W.subIn K (.ref C_BadAct) (.type "BaseException") = some true)
    (hd_BadAct : PySem.W.hasDictIn K C_BadAct = true)
    (ty_BadAct : PySem.W.typeIn K (.ref C_BadAct) = some (.type "type"))
    {nm_BadAct q_BadAct : Str} {N_BadAct : Addr} {bs_BadAct bm_BadAct sub_BadAct : List Value} {sn_BadAct : List Str} {ab_BadAct : Bool} {col_BadAct : Option Bool} {dd_BadAct : Option Addr} {k0_BadAct k1_BadAct k2_BadAct k3_BadAct k5_BadAct : Option Value}
    (cls_BadAct : K.lookup C_BadAct = some (excClassObj nm_BadAct q_BadAct C_BadAct N_BadAct bs_BadAct bm_BadAct true sn_BadAct sub_BadAct ab_BadAct col_BadAct dd_BadAct k0_BadAct k1_BadAct k2_BadAct k3_BadAct k5_BadAct "ValueError.__new__"))
    (ve_BadAct : PySem.HandSPX.refsVE bm_BadAct = true)
    (sa_BadAct : PySem.W.findIn K (.ref C_BadAct) "__setattr__" = some (some (.builtin "object.__setattr__")))
    (no_BadAct : PySem.W.findIn K (.ref C_BadAct) "name" = some none)
    (k_BadAct : PySem.W.keepIn K (.ref C_BadAct) = true)
    (vs_BadAct : PySem.W.subIn K (.ref C_BadAct) (.type "ValueError") = some true)
    (up_BadAct : PySem.W.ks_superIn K C_BadAct C_BadAct "__init__" = some (some (.builtin "ValueError.__init__")))
    (self_BadAct : PySem.W.mroIn K C_BadAct (.ref C_BadAct) = some true)
    {fI_BadAct cda_BadAct cc_BadAct : Addr} {oc_BadAct kV_BadAct doc_BadAct pm_BadAct ct_BadAct cl_BadAct ccl_BadAct : Value} {od_BadAct an_BadAct cld_BadAct cdd_BadAct : Option Addr} {osl_BadAct csl_BadAct ccs_BadAct : Array (Option Value)} {ql_BadAct file_BadAct : Str} {vv_BadAct : Array Value} {tf_BadAct : Tok} {p1_BadAct p2_BadAct q1_BadAct q2_BadAct q3_BadAct q4_BadAct q5_BadAct q6_BadAct q7_BadAct q8_BadAct q9_BadAct q10_BadAct : Pos}
    (fi_BadAct : PySem.W.findIn K (.ref C_BadAct) "__init__" = some (some (.ref fI_BadAct)))
    (tI_BadAct : PySem.W.typeIn K (.ref fI_BadAct) = some (.type "function"))
    (lI_BadAct : K.lookup fI_BadAct = some ⟨oc_BadAct, od_BadAct, .func (PySem.W.ksFn "__init__" ql_BadAct (xA "name" p1_BadAct p2_BadAct) (xB "name" q1_BadAct q2_BadAct q3_BadAct q4_BadAct q5_BadAct q6_BadAct q7_BadAct q8_BadAct q9_BadAct q10_BadAct) (xS "name") .none kV_BadAct doc_BadAct pm_BadAct an_BadAct (.ref cda_BadAct) ct_BadAct cc_BadAct), osl_BadAct⟩)
    (cd_BadAct : PySem.W.codeIn K (.ref cda_BadAct) ql_BadAct = true)
    (ce_BadAct : K.lookup cc_BadAct = some ⟨cl_BadAct, cld_BadAct, .cell (some (.ref C_BadAct)), csl_BadAct⟩)
    (co_BadAct : K.lookup cda_BadAct = some ⟨ccl_BadAct, cdd_BadAct, .fields vv_BadAct, ccs_BadAct⟩)
    (cv_BadAct : vv_BadAct[2]? = some (.str file_BadAct tf_BadAct))
    (cf_BadAct : ((l.prog.main.file : Str) == file_BadAct) = true)
    (bi_BadAct : ∀ e v, bindArgs (PySem.W.ksFn "__init__" ql_BadAct (xA "name" p1_BadAct p2_BadAct) (xB "name" q1_BadAct q2_BadAct q3_BadAct q4_BadAct q5_BadAct q6_BadAct q7_BadAct q8_BadAct q9_BadAct q10_BadAct) (xS "name") .none kV_BadAct doc_BadAct pm_BadAct an_BadAct (.ref cda_BadAct) ct_BadAct cc_BadAct) ⟨[.ref e, v], []⟩ = pure [((PySem.Str.ofString "self" : Str), .ref e), ("name", v)])
    (ev_BadAct : ∀ L : Addr, ∃ pl, eval (xCall "name" q1_BadAct q2_BadAct q3_BadAct q4_BadAct q5_BadAct) (PySem.W.ksEnv ql_BadAct (xS "name") L fI_BadAct (.ref cda_BadAct) cc_BadAct) = (do
      let ov ← attributeBase (.Call (.Name "super" q1_BadAct) [] [] q2_BadAct) "__init__" (PySem.W.ksEnv ql_BadAct (xS "name") L fI_BadAct (.ref cda_BadAct) cc_BadAct) (eval (.Call (.Name "super" q1_BadAct) [] [] q2_BadAct) (PySem.W.ksEnv ql_BadAct (xS "name") L fI_BadAct (.ref cda_BadAct) cc_BadAct))
      standAt q3_BadAct.atName
      let (g, first) ← holding [ov] (getMethod ov "__init__" pl)
      callWith q5_BadAct g first (backTo q5_BadAct (starEach [.Name "name" q4_BadAct] (PySem.W.ksEnv ql_BadAct (xS "name") L fI_BadAct (.ref cda_BadAct) cc_BadAct))) []))
    {C_BadFunction : Addr}
    (g_BadFunction : PySem.W.nsIn K mainGlobals "BadFunction" = some (some (.ref C_BadFunction)))
    (ex_BadFunction : PySem.W.subIn K (.ref C_BadFunction) (.type "BaseException") = some true)
    (hd_BadFunction : PySem.W.hasDictIn K C_BadFunction = true)
    (ty_BadFunction : PySem.W.typeIn K (.ref C_BadFunction) = some (.type "type"))
    {nm_BadFunction q_BadFunction : Str} {N_BadFunction : Addr} {bs_BadFunction bm_BadFunction sub_BadFunction : List Value} {sn_BadFunction : List Str} {ab_BadFunction : Bool} {col_BadFunction : Option Bool} {dd_BadFunction : Option Addr} {k0_BadFunction k1_BadFunction k2_BadFunction k3_BadFunction k5_BadFunction : Option Value}
    (cls_BadFunction : K.lookup C_BadFunction = some (excClassObj nm_BadFunction q_BadFunction C_BadFunction N_BadFunction bs_BadFunction bm_BadFunction true sn_BadFunction sub_BadFunction ab_BadFunction col_BadFunction dd_BadFunction k0_BadFunction k1_BadFunction k2_BadFunction k3_BadFunction k5_BadFunction "ValueError.__new__"))
    (ve_BadFunction : PySem.HandSPX.refsVE bm_BadFunction = true)
    (sa_BadFunction : PySem.W.findIn K (.ref C_BadFunction) "__setattr__" = some (some (.builtin "object.__setattr__")))
    (no_BadFunction : PySem.W.findIn K (.ref C_BadFunction) "name" = some none)
    (k_BadFunction : PySem.W.keepIn K (.ref C_BadFunction) = true)
    (vs_BadFunction : PySem.W.subIn K (.ref C_BadFunction) (.type "ValueError") = some true)
    (up_BadFunction : PySem.W.ks_superIn K C_BadFunction C_BadFunction "__init__" = some (some (.builtin "ValueError.__init__")))
    (self_BadFunction : PySem.W.mroIn K C_BadFunction (.ref C_BadFunction) = some true)
    {fI_BadFunction cda_BadFunction cc_BadFunction : Addr} {oc_BadFunction kV_BadFunction doc_BadFunction pm_BadFunction ct_BadFunction cl_BadFunction ccl_BadFunction : Value} {od_BadFunction an_BadFunction cld_BadFunction cdd_BadFunction : Option Addr} {osl_BadFunction csl_BadFunction ccs_BadFunction : Array (Option Value)} {ql_BadFunction file_BadFunction : Str} {vv_BadFunction : Array Value} {tf_BadFunction : Tok} {p1_BadFunction p2_BadFunction q1_BadFunction q2_BadFunction q3_BadFunction q4_BadFunction q5_BadFunction q6_BadFunction q7_BadFunction q8_BadFunction q9_BadFunction q10_BadFunction : Pos}
    (fi_BadFunction : PySem.W.findIn K (.ref C_BadFunction) "__init__" = some (some (.ref fI_BadFunction)))
    (tI_BadFunction : PySem.W.typeIn K (.ref fI_BadFunction) = some (.type "function"))
    (lI_BadFunction : K.lookup fI_BadFunction = some ⟨oc_BadFunction, od_BadFunction, .func (PySem.W.ksFn "__init__" ql_BadFunction (xA "name" p1_BadFunction p2_BadFunction) (xB "name" q1_BadFunction q2_BadFunction q3_BadFunction q4_BadFunction q5_BadFunction q6_BadFunction q7_BadFunction q8_BadFunction q9_BadFunction q10_BadFunction) (xS "name") .none kV_BadFunction doc_BadFunction pm_BadFunction an_BadFunction (.ref cda_BadFunction) ct_BadFunction cc_BadFunction), osl_BadFunction⟩)
    (cd_BadFunction : PySem.W.codeIn K (.ref cda_BadFunction) ql_BadFunction = true)
    (ce_BadFunction : K.lookup cc_BadFunction = some ⟨cl_BadFunction, cld_BadFunction, .cell (some (.ref C_BadFunction)), csl_BadFunction⟩)
    (co_BadFunction : K.lookup cda_BadFunction = some ⟨ccl_BadFunction, cdd_BadFunction, .fields vv_BadFunction, ccs_BadFunction⟩)
    (cv_BadFunction : vv_BadFunction[2]? = some (.str file_BadFunction tf_BadFunction))
    (cf_BadFunction : ((l.prog.main.file : Str) == file_BadFunction) = true)
    (bi_BadFunction : ∀ e v, bindArgs (PySem.W.ksFn "__init__" ql_BadFunction (xA "name" p1_BadFunction p2_BadFunction) (xB "name" q1_BadFunction q2_BadFunction q3_BadFunction q4_BadFunction q5_BadFunction q6_BadFunction q7_BadFunction q8_BadFunction q9_BadFunction q10_BadFunction) (xS "name") .none kV_BadFunction doc_BadFunction pm_BadFunction an_BadFunction (.ref cda_BadFunction) ct_BadFunction cc_BadFunction) ⟨[.ref e, v], []⟩ = pure [((PySem.Str.ofString "self" : Str), .ref e), ("name", v)])
    (ev_BadFunction : ∀ L : Addr, ∃ pl, eval (xCall "name" q1_BadFunction q2_BadFunction q3_BadFunction q4_BadFunction q5_BadFunction) (PySem.W.ksEnv ql_BadFunction (xS "name") L fI_BadFunction (.ref cda_BadFunction) cc_BadFunction) = (do
      let ov ← attributeBase (.Call (.Name "super" q1_BadFunction) [] [] q2_BadFunction) "__init__" (PySem.W.ksEnv ql_BadFunction (xS "name") L fI_BadFunction (.ref cda_BadFunction) cc_BadFunction) (eval (.Call (.Name "super" q1_BadFunction) [] [] q2_BadFunction) (PySem.W.ksEnv ql_BadFunction (xS "name") L fI_BadFunction (.ref cda_BadFunction) cc_BadFunction))
      standAt q3_BadFunction.atName
      let (g, first) ← holding [ov] (getMethod ov "__init__" pl)
      callWith q5_BadFunction g first (backTo q5_BadFunction (starEach [.Name "name" q4_BadFunction] (PySem.W.ksEnv ql_BadFunction (xS "name") L fI_BadFunction (.ref cda_BadFunction) cc_BadFunction))) []))
    {C_NoFunction : Addr}
    (g_NoFunction : PySem.W.nsIn K mainGlobals "NoFunction" = some (some (.ref C_NoFunction)))
    (ex_NoFunction : PySem.W.subIn K (.ref C_NoFunction) (.type "BaseException") = some true)
    (hd_NoFunction : PySem.W.hasDictIn K C_NoFunction = true)
    (ty_NoFunction : PySem.W.typeIn K (.ref C_NoFunction) = some (.type "type"))
    {nm_NoFunction q_NoFunction : Str} {N_NoFunction : Addr} {bs_NoFunction bm_NoFunction sub_NoFunction : List Value} {sn_NoFunction : List Str} {ab_NoFunction : Bool} {col_NoFunction : Option Bool} {dd_NoFunction : Option Addr} {k0_NoFunction k1_NoFunction k2_NoFunction k3_NoFunction k5_NoFunction : Option Value}
    (cls_NoFunction : K.lookup C_NoFunction = some (excClassObj nm_NoFunction q_NoFunction C_NoFunction N_NoFunction bs_NoFunction bm_NoFunction true sn_NoFunction sub_NoFunction ab_NoFunction col_NoFunction dd_NoFunction k0_NoFunction k1_NoFunction k2_NoFunction k3_NoFunction k5_NoFunction "ValueError.__new__"))
    (ve_NoFunction : PySem.HandSPX.refsVE bm_NoFunction = true)
    (sa_NoFunction : PySem.W.findIn K (.ref C_NoFunction) "__setattr__" = some (some (.builtin "object.__setattr__")))
    (no_NoFunction : PySem.W.findIn K (.ref C_NoFunction) "name" = some none)
    (k_NoFunction : PySem.W.keepIn K (.ref C_NoFunction) = true)
    (vs_NoFunction : PySem.W.subIn K (.ref C_NoFunction) (.type "ValueError") = some true)
    (up_NoFunction : PySem.W.ks_superIn K C_NoFunction C_NoFunction "__init__" = some (some (.builtin "ValueError.__init__")))
    (self_NoFunction : PySem.W.mroIn K C_NoFunction (.ref C_NoFunction) = some true)
    {fI_NoFunction cda_NoFunction cc_NoFunction : Addr} {oc_NoFunction kV_NoFunction doc_NoFunction pm_NoFunction ct_NoFunction cl_NoFunction ccl_NoFunction : Value} {od_NoFunction an_NoFunction cld_NoFunction cdd_NoFunction : Option Addr} {osl_NoFunction csl_NoFunction ccs_NoFunction : Array (Option Value)} {ql_NoFunction file_NoFunction : Str} {vv_NoFunction : Array Value} {tf_NoFunction : Tok} {p1_NoFunction p2_NoFunction q1_NoFunction q2_NoFunction q3_NoFunction q4_NoFunction q5_NoFunction q6_NoFunction q7_NoFunction q8_NoFunction q9_NoFunction q10_NoFunction : Pos}
    (fi_NoFunction : PySem.W.findIn K (.ref C_NoFunction) "__init__" = some (some (.ref fI_NoFunction)))
    (tI_NoFunction : PySem.W.typeIn K (.ref fI_NoFunction) = some (.type "function"))
    (lI_NoFunction : K.lookup fI_NoFunction = some ⟨oc_NoFunction, od_NoFunction, .func (PySem.W.ksFn "__init__" ql_NoFunction (xA "name" p1_NoFunction p2_NoFunction) (xB "name" q1_NoFunction q2_NoFunction q3_NoFunction q4_NoFunction q5_NoFunction q6_NoFunction q7_NoFunction q8_NoFunction q9_NoFunction q10_NoFunction) (xS "name") .none kV_NoFunction doc_NoFunction pm_NoFunction an_NoFunction (.ref cda_NoFunction) ct_NoFunction cc_NoFunction), osl_NoFunction⟩)
    (cd_NoFunction : PySem.W.codeIn K (.ref cda_NoFunction) ql_NoFunction = true)
    (ce_NoFunction : K.lookup cc_NoFunction = some ⟨cl_NoFunction, cld_NoFunction, .cell (some (.ref C_NoFunction)), csl_NoFunction⟩)
    (co_NoFunction : K.lookup cda_NoFunction = some ⟨ccl_NoFunction, cdd_NoFunction, .fields vv_NoFunction, ccs_NoFunction⟩)
    (cv_NoFunction : vv_NoFunction[2]? = some (.str file_NoFunction tf_NoFunction))
    (cf_NoFunction : ((l.prog.main.file : Str) == file_NoFunction) = true)
    (bi_NoFunction : ∀ e v, bindArgs (PySem.W.ksFn "__init__" ql_NoFunction (xA "name" p1_NoFunction p2_NoFunction) (xB "name" q1_NoFunction q2_NoFunction q3_NoFunction q4_NoFunction q5_NoFunction q6_NoFunction q7_NoFunction q8_NoFunction q9_NoFunction q10_NoFunction) (xS "name") .none kV_NoFunction doc_NoFunction pm_NoFunction an_NoFunction (.ref cda_NoFunction) ct_NoFunction cc_NoFunction) ⟨[.ref e, v], []⟩ = pure [((PySem.Str.ofString "self" : Str), .ref e), ("name", v)])
    (ev_NoFunction : ∀ L : Addr, ∃ pl, eval (xCall "name" q1_NoFunction q2_NoFunction q3_NoFunction q4_NoFunction q5_NoFunction) (PySem.W.ksEnv ql_NoFunction (xS "name") L fI_NoFunction (.ref cda_NoFunction) cc_NoFunction) = (do
      let ov ← attributeBase (.Call (.Name "super" q1_NoFunction) [] [] q2_NoFunction) "__init__" (PySem.W.ksEnv ql_NoFunction (xS "name") L fI_NoFunction (.ref cda_NoFunction) cc_NoFunction) (eval (.Call (.Name "super" q1_NoFunction) [] [] q2_NoFunction) (PySem.W.ksEnv ql_NoFunction (xS "name") L fI_NoFunction (.ref cda_NoFunction) cc_NoFunction))
      standAt q3_NoFunction.atName
      let (g, first) ← holding [ov] (getMethod ov "__init__" pl)
      callWith q5_NoFunction g first (backTo q5_NoFunction (starEach [.Name "name" q4_NoFunction] (PySem.W.ksEnv ql_NoFunction (xS "name") L fI_NoFunction (.ref cda_NoFunction) cc_NoFunction))) []))
    (z0 : PySem.W.nsIn K mainGlobals "ValueError" = some none)
    (z1 : PySem.W.nsIn K mainGlobals "abs" = some none)
    (z2 : PySem.W.nsIn K mainGlobals "all" = some none)
    (z3 : PySem.W.nsIn K mainGlobals "bool" = some none)
    (z4 : PySem.W.nsIn K mainGlobals "dict" = some none)
    (z5 : PySem.W.nsIn K mainGlobals "int" = some none)
    (z6 : PySem.W.nsIn K mainGlobals "isinstance" = some none)
    (z7 : PySem.W.nsIn K mainGlobals "len" = some none)
    (z8 : PySem.W.nsIn K mainGlobals "list" = some none)
    (z9 : PySem.W.nsIn K mainGlobals "max" = some none)
    (z10 : PySem.W.nsIn K mainGlobals "range" = some none)
    (z11 : PySem.W.nsIn K mainGlobals "repr" = some none)
    (z12 : PySem.W.nsIn K mainGlobals "set" = some none)
    (z13 : PySem.W.nsIn K mainGlobals "sorted" = some none)
    (z14 : PySem.W.nsIn K mainGlobals "str" = some none)
    (z15 : PySem.W.nsIn K mainGlobals "sum" = some none)
    (z16 : PySem.W.nsIn K mainGlobals "tuple" = some none)
    {tk0 : Tok}
    (y0 : PySem.W.nsIn K mainGlobals "LETTERS" = some (some (.str "abcdefghijklmnopqrstuvwxyz" tk0)))
    {tk1 : Tok}
    (y1 : PySem.W.nsIn K mainGlobals "MOST_LETTERS" = some (some (.int 8 tk1)))
    {tk2 : Tok}
    (y2 : PySem.W.nsIn K mainGlobals "MOST_PARTS" = some (some (.int 3 tk2)))
    {tk3 : Tok}
    (y3 : PySem.W.nsIn K mainGlobals "MOST_ARGUMENTS" = some (some (.int 2 tk3)))
    {tk4 : Tok}
    (y4 : PySem.W.nsIn K mainGlobals "MOST_OUTCOMES" = some (some (.int 6 tk4)))
    {tk5 : Tok}
    (y5 : PySem.W.nsIn K mainGlobals "MOST_BROUGHT" = some (some (.int 2 tk5)))
    {tk6 : Tok}
    (y6 : PySem.W.nsIn K mainGlobals "MOST_TOLD" = some (some (.int 2 tk6)))
    {tk7 : Tok}
    (y7 : PySem.W.nsIn K mainGlobals "MOST_VARIABLES" = some (some (.int 8 tk7)))
    {tk8 : Tok}
    (y8 : PySem.W.nsIn K mainGlobals "MOST_RESULTS" = some (some (.int 2 tk8)))
    {tk9 : Tok}
    (y9 : PySem.W.nsIn K mainGlobals "MOST_DEEP" = some (some (.int 3 tk9)))
    (xa_BadFunction : PySem.W.findIn K (.ref C_BadFunction) "__getattribute__" = some (some (.builtin "BaseException.__getattribute__")))
    (xg_BadFunction : PySem.W.findIn K (.ref C_BadFunction) "__getattr__" = some none)
    (xl_BadFunction : PySem.W.findIn K (.ref C_BadFunction) "__class__" = some (some (.builtin "object.__class__")))
    (xn_BadFunction : PySem.W.specialIn K (.builtin "object.__class__") "__get__" = some (some (.builtin "getset_descriptor.__get__")))
    (xt_BadFunction : PySem.W.takesIn K (.builtin "object.__class__") = some true)
    (xm_BadFunction : PySem.W.mroIn K C_BadFunction (.type "object") = some true)
    (sb_BadFunction_MoveError : PySem.W.subIn K (.ref C_BadFunction) (.ref C_MoveError) = some true)
    : ∃ fd : FuncData, (∀ (t : Shared) (u : Value), BindsTo t fd ⟨[u], []⟩ [("_law_script", u)]) ∧ ∀ base : Heap, K.In base → base.Ns mainGlobals mg → FnOkG l.prog w K mg base CX0 60 fa fd P_law (sp_law K) := by
  have e := hfa.symm.trans (PySem.W.mg_of X G a36)
  cases e
  exact ⟨_, fun s v => .of_eq rfl, fun base _ _ => ok_law (T := {
    d_is_integer := ⟨_, _, fun_mk l0 c0 k0, PySem.W.mg_of X G a0, (fun_mk l0 c0 k0).binds fun _ _ _ _ _ _ us hl => match us, hl with | [_], _ => rfl⟩
    d_is_name := ⟨_, _, fun_mk l1 c1 k1, PySem.W.mg_of X G a1, (fun_mk l1 c1 k1).binds fun _ _ _ _ _ _ us hl => match us, hl with | [_], _ => rfl⟩
    d_is_outcome := ⟨_, _, fun_mk l2 c2 k2, PySem.W.mg_of X G a2, (fun_mk l2 c2 k2).binds fun _ _ _ _ _ _ us hl => match us, hl with | [_], _ => rfl⟩
    d_is_term := ⟨_, _, fun_mk l3 c3 k3, PySem.W.mg_of X G a3, (fun_mk l3 c3 k3).binds fun _ _ _ _ _ _ us hl => match us, hl with | [_], _ => rfl⟩
    d_is_term_over := ⟨_, _, fun_mk l4 c4 k4, PySem.W.mg_of X G a4, (fun_mk l4 c4 k4).binds fun _ _ _ _ _ _ us hl => match us, hl with | [_, _], _ => rfl⟩
    d_is_within := ⟨_, _, fun_mk l5 c5 k5, PySem.W.mg_of X G a5, (fun_mk l5 c5 k5).binds fun _ _ _ _ _ _ us hl => match us, hl with | [_, _], _ => rfl⟩
    d_are_outcomes := ⟨_, _, fun_mk l6 c6 k6, PySem.W.mg_of X G a6, (fun_mk l6 c6 k6).binds fun _ _ _ _ _ _ us hl => match us, hl with | [_], _ => rfl⟩
    d_is_act := ⟨_, _, fun_mk l7 c7 k7, PySem.W.mg_of X G a7, (fun_mk l7 c7 k7).binds fun _ _ _ _ _ _ us hl => match us, hl with | [_], _ => rfl⟩
    d_are_different := ⟨_, _, fun_mk l8 c8 k8, PySem.W.mg_of X G a8, (fun_mk l8 c8 k8).binds fun _ _ _ _ _ _ us hl => match us, hl with | [_, _], _ => rfl⟩
    d_are_terms_over := ⟨_, _, fun_mk l9 c9 k9, PySem.W.mg_of X G a9, (fun_mk l9 c9 k9).binds fun _ _ _ _ _ _ us hl => match us, hl with | [_, _], _ => rfl⟩
    d_is_place := ⟨_, _, fun_mk l10 c10 k10, PySem.W.mg_of X G a10, (fun_mk l10 c10 k10).binds fun _ _ _ _ _ _ us hl => match us, hl with | [_, _], _ => rfl⟩
    d_is_pair := ⟨_, _, fun_mk l11 c11 k11, PySem.W.mg_of X G a11, (fun_mk l11 c11 k11).binds fun _ _ _ _ _ _ us hl => match us, hl with | [_], _ => rfl⟩
    d_is_set := ⟨_, _, fun_mk l12 c12 k12, PySem.W.mg_of X G a12, (fun_mk l12 c12 k12).binds fun _ _ _ _ _ _ us hl => match us, hl with | [_, _, _], _ => rfl⟩
    d_is_way := ⟨_, _, fun_mk l13 c13 k13, PySem.W.mg_of X G a13, (fun_mk l13 c13 k13).binds fun _ _ _ _ _ _ us hl => match us, hl with | [_, _, _, _, _], _ => rfl⟩
    d_is_ask := ⟨_, _, fun_mk l14 c14 k14, PySem.W.mg_of X G a14, (fun_mk l14 c14 k14).binds fun _ _ _ _ _ _ us hl => match us, hl with | [_, _, _, _], _ => rfl⟩
    d_is_end := ⟨_, _, fun_mk l15 c15 k15, PySem.W.mg_of X G a15, (fun_mk l15 c15 k15).binds fun _ _ _ _ _ _ us hl => match us, hl with | [_, _], _ => rfl⟩
    d_is_statement := ⟨_, _, fun_mk l16 c16 k16, PySem.W.mg_of X G a16, (fun_mk l16 c16 k16).binds fun _ _ _ _ _ _ us hl => match us, hl with | [_, _, _, _], _ => rfl⟩
    d_ordered := ⟨_, _, fun_mk l17 c17 k17, PySem.W.mg_of X G a17, (fun_mk l17 c17 k17).binds fun _ _ _ _ _ _ us hl => match us, hl with | [_], _ => rfl⟩
    d_first_of := ⟨_, _, fun_mk l18 c18 k18, PySem.W.mg_of X G a18, (fun_mk l18 c18 k18).binds fun _ _ _ _ _ _ us hl => match us, hl with | [_], _ => rfl⟩
    d_is_function := ⟨_, _, fun_mk l19 c19 k19, PySem.W.mg_of X G a19, (fun_mk l19 c19 k19).binds fun _ _ _ _ _ _ us hl => match us, hl with | [_], _ => rfl⟩
    d_is_call := ⟨_, _, fun_mk l20 c20 k20, PySem.W.mg_of X G a20, (fun_mk l20 c20 k20).binds fun _ _ _ _ _ _ us hl => match us, hl with | [_, _, _, _], _ => rfl⟩
    d_is_back := ⟨_, _, fun_mk l21 c21 k21, PySem.W.mg_of X G a21, (fun_mk l21 c21 k21).binds fun _ _ _ _ _ _ us hl => match us, hl with | [_, _, _], _ => rfl⟩
    d_is_line := ⟨_, _, fun_mk l22 c22 k22, PySem.W.mg_of X G a22, (fun_mk l22 c22 k22).binds fun _ _ _ _ _ _ us hl => match us, hl with | [_, _, _, _], _ => rfl⟩
    d_called_by := ⟨_, _, fun_mk l23 c23 k23, PySem.W.mg_of X G a23, (fun_mk l23 c23 k23).binds fun _ _ _ _ _ _ us hl => match us, hl with | [_], _ => rfl⟩
    d_all_called := ⟨_, _, fun_mk l24 c24 k24, PySem.W.mg_of X G a24, (fun_mk l24 c24 k24).binds fun _ _ _ _ _ _ us hl => match us, hl with | [_, _], _ => rfl⟩
    d_open_at_once := ⟨_, _, fun_mk l25 c25 k25, PySem.W.mg_of X G a25, (fun_mk l25 c25 k25).binds fun _ _ _ _ _ _ us hl => match us, hl with | [_, _], _ => rfl⟩
    d_first_bad := ⟨_, _, fun_mk l26 c26 k26, PySem.W.mg_of X G a26, (fun_mk l26 c26 k26).binds fun _ _ _ _ _ _ us hl => match us, hl with | [_, _], _ => rfl⟩
    d_tidy := ⟨_, _, fun_mk l27 c27 k27, PySem.W.mg_of X G a27, (fun_mk l27 c27 k27).binds fun _ _ _ _ _ _ us hl => match us, hl with | [_], _ => rfl⟩
    d__law_bag := ⟨_, _, fun_mk l28 c28 k28, PySem.W.mg_of X G a28, (fun_mk l28 c28 k28).binds fun _ _ _ _ _ _ us hl => match us, hl with | [_], _ => rfl⟩
    d__law_take := ⟨_, _, fun_mk l29 c29 k29, PySem.W.mg_of X G a29, (fun_mk l29 c29 k29).binds fun _ _ _ _ _ _ us hl => match us, hl with | [_, _], _ => rfl⟩
    d__law_alike := ⟨_, _, fun_mk l30 c30 k30, PySem.W.mg_of X G a30, (fun_mk l30 c30 k30).binds fun _ _ _ _ _ _ us hl => match us, hl with | [_, _], _ => rfl⟩
    d__law_mixed := ⟨_, _, fun_mk l31 c31 k31, PySem.W.mg_of X G a31, (fun_mk l31 c31 k31).binds fun _ _ _ _ _ _ us hl => match us, hl with | [_, _], _ => rfl⟩
    d__law_names := ⟨_, _, fun_mk l32 c32 k32, PySem.W.mg_of X G a32, (fun_mk l32 c32 k32).binds fun _ _ _ _ _ _ us hl => match us, hl with | [_, _], _ => rfl⟩
    d__law_reach := ⟨_, _, fun_mk l33 c33 k33, PySem.W.mg_of X G a33, (fun_mk l33 c33 k33).binds fun _ _ _ _ _ _ us hl => match us, hl with | [_, _, _], _ => rfl⟩
    d__law_bad_calls := ⟨_, _, fun_mk l34 c34 k34, PySem.W.mg_of X G a34, (fun_mk l34 c34 k34).binds fun _ _ _ _ _ _ us hl => match us, hl with | [_], _ => rfl⟩
    d__law_heard := ⟨_, _, fun_mk l35 c35 k35, PySem.W.mg_of X G a35, (fun_mk l35 c35 k35).binds fun _ _ _ _ _ _ us hl => match us, hl with | [_], _ => rfl⟩
    d_law := ⟨_, _, fun_mk l36 c36 k36, PySem.W.mg_of X G a36, (fun_mk l36 c36 k36).binds fun _ _ _ _ _ _ us hl => match us, hl with | [_], _ => rfl⟩
    C_World := C_World
    g_World := PySem.W.mg_of X G g_World
    k_World := k_World
    c_World := ⟨pg_World, ic_World, po_World, sa_World⟩
    mk_World := mk_World
    is_World := ⟨ca_World, cn_World, ct_World, cm_World⟩
    p_World_its_acts := p_World_its_acts
    sl_World_its_acts := ⟨at_World_its_acts, get_World_its_acts, tk_World_its_acts, ty_World_its_acts, ix_World_its_acts, by decide⟩
    d_World___init__ := ⟨_, _, fun_mk lm_World___init__ co_World___init__ km_World___init__, ⟨am_World___init__, im_World___init__, km_World___init__⟩, (fun_mk lm_World___init__ co_World___init__ km_World___init__).binds fun _ _ _ _ _ _ us hl => match us, hl with | [_, _], _ => rfl⟩
    d_World_acts := ⟨_, _, fun_mk lm_World_acts co_World_acts km_World_acts, ⟨am_World_acts, im_World_acts, km_World_acts⟩, (fun_mk lm_World_acts co_World_acts km_World_acts).binds fun _ _ _ _ _ _ us hl => match us, hl with | [_], _ => rfl⟩
    d_World_arguments := ⟨_, _, fun_mk lm_World_arguments co_World_arguments km_World_arguments, ⟨am_World_arguments, im_World_arguments, km_World_arguments⟩, (fun_mk lm_World_arguments co_World_arguments km_World_arguments).binds fun _ _ _ _ _ _ us hl => match us, hl with | [_, _], _ => rfl⟩
    d_World_outcomes := ⟨_, _, fun_mk lm_World_outcomes co_World_outcomes km_World_outcomes, ⟨am_World_outcomes, im_World_outcomes, km_World_outcomes⟩, (fun_mk lm_World_outcomes co_World_outcomes km_World_outcomes).binds fun _ _ _ _ _ _ us hl => match us, hl with | [_, _], _ => rfl⟩
    d_World_brings := ⟨_, _, fun_mk lm_World_brings co_World_brings km_World_brings, ⟨am_World_brings, im_World_brings, km_World_brings⟩, (fun_mk lm_World_brings co_World_brings km_World_brings).binds fun _ _ _ _ _ _ us hl => match us, hl with | [_, _, _], _ => rfl⟩
    d_World___eq__ := ⟨_, _, fun_mk lm_World___eq__ co_World___eq__ km_World___eq__, ⟨am_World___eq__, im_World___eq__, km_World___eq__⟩, (fun_mk lm_World___eq__ co_World___eq__ km_World___eq__).binds fun _ _ _ _ _ _ us hl => match us, hl with | [_, _], _ => rfl⟩
    C_Unit := C_Unit
    g_Unit := PySem.W.mg_of X G g_Unit
    k_Unit := k_Unit
    c_Unit := ⟨pg_Unit, ic_Unit, po_Unit, sa_Unit⟩
    mk_Unit := mk_Unit
    is_Unit := ⟨ca_Unit, cn_Unit, ct_Unit, cm_Unit⟩
    p_Unit_its_world := p_Unit_its_world
    sl_Unit_its_world := ⟨at_Unit_its_world, get_Unit_its_world, tk_Unit_its_world, ty_Unit_its_world, ix_Unit_its_world, by decide⟩
    p_Unit_its_functions := p_Unit_its_functions
    sl_Unit_its_functions := ⟨at_Unit_its_functions, get_Unit_its_functions, tk_Unit_its_functions, ty_Unit_its_functions, ix_Unit_its_functions, by decide⟩
    d_Unit___init__ := ⟨_, _, fun_mk lm_Unit___init__ co_Unit___init__ km_Unit___init__, ⟨am_Unit___init__, im_Unit___init__, km_Unit___init__⟩, (fun_mk lm_Unit___init__ co_Unit___init__ km_Unit___init__).binds fun _ _ _ _ _ _ us hl => match us, hl with | [_, _, _], _ => rfl⟩
    d_Unit_world := ⟨_, _, fun_mk lm_Unit_world co_Unit_world km_Unit_world, _, pa_Unit_world, pg_Unit_world, pt_Unit_world, ⟨_, pr_Unit_world⟩, (fun_mk lm_Unit_world co_Unit_world km_Unit_world).binds fun _ _ _ _ _ _ us hl => match us, hl with | [_], _ => rfl⟩
    d_Unit_functions := ⟨_, _, fun_mk lm_Unit_functions co_Unit_functions km_Unit_functions, ⟨am_Unit_functions, im_Unit_functions, km_Unit_functions⟩, (fun_mk lm_Unit_functions co_Unit_functions km_Unit_functions).binds fun _ _ _ _ _ _ us hl => match us, hl with | [_], _ => rfl⟩
    d_Unit_function := ⟨_, _, fun_mk lm_Unit_function co_Unit_function km_Unit_function, ⟨am_Unit_function, im_Unit_function, km_Unit_function⟩, (fun_mk lm_Unit_function co_Unit_function km_Unit_function).binds fun _ _ _ _ _ _ us hl => match us, hl with | [_, _], _ => rfl⟩
    d_Unit___eq__ := ⟨_, _, fun_mk lm_Unit___eq__ co_Unit___eq__ km_Unit___eq__, ⟨am_Unit___eq__, im_Unit___eq__, km_Unit___eq__⟩, (fun_mk lm_Unit___eq__ co_Unit___eq__ km_Unit___eq__).binds fun _ _ _ _ _ _ us hl => match us, hl with | [_, _], _ => rfl⟩
    b_ValueError := PySem.W.mg_none_of X G z0
    b_abs := PySem.W.mg_none_of X G z1
    b_all := PySem.W.mg_none_of X G z2
    b_bool := PySem.W.mg_none_of X G z3
    b_dict := PySem.W.mg_none_of X G z4
    b_int := PySem.W.mg_none_of X G z5
    b_isinstance := PySem.W.mg_none_of X G z6
    b_len := PySem.W.mg_none_of X G z7
    b_list := PySem.W.mg_none_of X G z8
    b_max := PySem.W.mg_none_of X G z9
    b_range := PySem.W.mg_none_of X G z10
    b_repr := PySem.W.mg_none_of X G z11
    b_set := PySem.W.mg_none_of X G z12
    b_sorted := PySem.W.mg_none_of X G z13
    b_str := PySem.W.mg_none_of X G z14
    b_sum := PySem.W.mg_none_of X G z15
    b_tuple := PySem.W.mg_none_of X G z16
    v_LETTERS := _
    c_LETTERS := PySem.W.mg_of X G y0
    r_LETTERS := ⟨_, rfl⟩
    v_MOST_LETTERS := _
    c_MOST_LETTERS := PySem.W.mg_of X G y1
    r_MOST_LETTERS := ⟨_, rfl⟩
    v_MOST_PARTS := _
    c_MOST_PARTS := PySem.W.mg_of X G y2
    r_MOST_PARTS := ⟨_, rfl⟩
    v_MOST_ARGUMENTS := _
    c_MOST_ARGUMENTS := PySem.W.mg_of X G y3
    r_MOST_ARGUMENTS := ⟨_, rfl⟩
    v_MOST_OUTCOMES := _
    c_MOST_OUTCOMES := PySem.W.mg_of X G y4
    r_MOST_OUTCOMES := ⟨_, rfl⟩
    v_MOST_BROUGHT := _
    c_MOST_BROUGHT := PySem.W.mg_of X G y5
    r_MOST_BROUGHT := ⟨_, rfl⟩
    v_MOST_TOLD := _
    c_MOST_TOLD := PySem.W.mg_of X G y6
    r_MOST_TOLD := ⟨_, rfl⟩
    v_MOST_VARIABLES := _
    c_MOST_VARIABLES := PySem.W.mg_of X G y7
    r_MOST_VARIABLES := ⟨_, rfl⟩
    v_MOST_RESULTS := _
    c_MOST_RESULTS := PySem.W.mg_of X G y8
    r_MOST_RESULTS := ⟨_, rfl⟩
    v_MOST_DEEP := _
    c_MOST_DEEP := PySem.W.mg_of X G y9
    r_MOST_DEEP := ⟨_, rfl⟩
  }) (Y := {
    C_MoveError := C_MoveError
    x_MoveError := ⟨PySem.W.mg_of X G g_MoveError, ex_MoveError, hd_MoveError, ty_MoveError⟩
    C_Wrong := C_Wrong
    x_Wrong := ⟨PySem.W.mg_of X G g_Wrong, ⟨_, _, _, _, _, _, _, _, _, _, _, _, _, _, _, cls_Wrong, ve_Wrong⟩, sa_Wrong, no_Wrong, k_Wrong, ex_Wrong, vs_Wrong, ty_Wrong, hd_Wrong, up_Wrong, opq_, self_Wrong, ⟨_, _, _, _, _, _, _, _, _, _, _, _, _, _, _, _, _, _, _, _, _, _, _, _, fi_Wrong, tI_Wrong, lI_Wrong, cd_Wrong, ⟨_, _, _, ce_Wrong⟩, _, _, _, _, _, _, co_Wrong, cv_Wrong, cf_Wrong, bi_Wrong, ev_Wrong⟩, topS_, PySem.W.mg_none_of X G sup_, by decide +kernel, by decide +kernel, by decide +kernel, by decide +kernel, by decide +kernel⟩
    C_BadAct := C_BadAct
    x_BadAct := ⟨PySem.W.mg_of X G g_BadAct, ⟨_, _, _, _, _, _, _, _, _, _, _, _, _, _, _, cls_BadAct, ve_BadAct⟩, sa_BadAct, no_BadAct, k_BadAct, ex_BadAct, vs_BadAct, ty_BadAct, hd_BadAct, up_BadAct, opq_, self_BadAct, ⟨_, _, _, _, _, _, _, _, _, _, _, _, _, _, _, _, _, _, _, _, _, _, _, _, fi_BadAct, tI_BadAct, lI_BadAct, cd_BadAct, ⟨_, _, _, ce_BadAct⟩, _, _, _, _, _, _, co_BadAct, cv_BadAct, cf_BadAct, bi_BadAct, ev_BadAct⟩, topS_, PySem.W.mg_none_of X G sup_, by decide +kernel, by decide +kernel, by decide +kernel, by decide +kernel, by decide +kernel⟩
    C_BadFunction := C_BadFunction
    x_BadFunction := ⟨PySem.W.mg_of X G g_BadFunction, ⟨_, _, _, _, _, _, _, _, _, _, _, _, _, _, _, cls_BadFunction, ve_BadFunction⟩, sa_BadFunction, no_BadFunction, k_BadFunction, ex_BadFunction, vs_BadFunction, ty_BadFunction, hd_BadFunction, up_BadFunction, opq_, self_BadFunction, ⟨_, _, _, _, _, _, _, _, _, _, _, _, _, _, _, _, _, _, _, _, _, _, _, _, fi_BadFunction, tI_BadFunction, lI_BadFunction, cd_BadFunction, ⟨_, _, _, ce_BadFunction⟩, _, _, _, _, _, _, co_BadFunction, cv_BadFunction, cf_BadFunction, bi_BadFunction, ev_BadFunction⟩, topS_, PySem.W.mg_none_of X G sup_, by decide +kernel, by decide +kernel, by decide +kernel, by decide +kernel, by decide +kernel⟩
    C_NoFunction := C_NoFunction
    x_NoFunction := ⟨PySem.W.mg_of X G g_NoFunction, ⟨_, _, _, _, _, _, _, _, _, _, _, _, _, _, _, cls_NoFunction, ve_NoFunction⟩, sa_NoFunction, no_NoFunction, k_NoFunction, ex_NoFunction, vs_NoFunction, ty_NoFunction, hd_NoFunction, up_NoFunction, opq_, self_NoFunction, ⟨_, _, _, _, _, _, _, _, _, _, _, _, _, _, _, _, _, _, _, _, _, _, _, _, fi_NoFunction, tI_NoFunction, lI_NoFunction, cd_NoFunction, ⟨_, _, _, ce_NoFunction⟩, _, _, _, _, _, _, co_NoFunction, cv_NoFunction, cf_NoFunction, bi_NoFunction, ev_NoFunction⟩, topS_, PySem.W.mg_none_of X G sup_, by decide +kernel, by decide +kernel, by decide +kernel, by decide +kernel, by decide +kernel⟩
    xc_BadFunction := ⟨xa_BadFunction, xg_BadFunction, ex_BadFunction, hd_BadFunction, xl_BadFunction, xn_BadFunction, xt_BadFunction, xm_BadFunction⟩
    ev_BadFunction := kitOne_ve vs_BadFunction
    em_BadFunction_MoveError := PySem.W.exm_ref ex_MoveError hd_MoveError ty_MoveError sb_BadFunction_MoveError
  })⟩
end
end Fm
open PySem PySem.W PyProof.Rows
set_option maxHeartbeats 0 in
theorem PySem.Challenge.cw_framemoves_k72_rings_and_depth_holds : PySem.Challenge.rw_framemoves_k72_rings_and_depth.Holds := by
  w_on; o_law; k_head; (case hw => w_witness2)
  k_fill
  refine Fm.walk_G (l := PySem.Challenge.rw_framemoves_k72_rings_and_depth) (n := 63) (k := 60) (x := "_law_script") (sp := Fm.sp_law) rfl (by decide) rfl ⟨rfl, by decide, by decide⟩ (fun w h Y => PySem.W.kIn_of Y) ?F (fun K H a ns hl hS => ⟨a, ns, rfl, hS, hl, fun _ => rfl⟩)
  case F =>
    intro w mg fa h KX G hmg
    refine' Fm.all_mk KX G hmg ?a0 ?l0 ?c0 ?k0 ?a1 ?l1 ?c1 ?k1 ?a2 ?l2 ?c2 ?k2 ?a3 ?l3 ?c3 ?k3 ?a4 ?l4 ?c4 ?k4 ?a5 ?l5 ?c5 ?k5 ?a6 ?l6 ?c6 ?k6 ?a7 ?l7 ?c7 ?k7 ?a8 ?l8 ?c8 ?k8 ?a9 ?l9 ?c9 ?k9 ?a10 ?l10 ?c10 ?k10 ?a11 ?l11 ?c11 ?k11 ?a12 ?l12 ?c12 ?k12 ?a13 ?l13 ?c13 ?k13 ?a14 ?l14 ?c14 ?k14 ?a15 ?l15 ?c15 ?k15 ?a16 ?l16 ?c16 ?k16 ?a17 ?l17 ?c17 ?k17 ?a18 ?l18 ?c18 ?k18 ?a19 ?l19 ?c19 ?k19 ?a20 ?l20 ?c20 ?k20 ?a21 ?l21 ?c21 ?k21 ?a22 ?l22 ?c22 ?k22 ?a23 ?l23 ?c23 ?k23 ?a24 ?l24 ?c24 ?k24 ?a25 ?l25 ?c25 ?k25 ?a26 ?l26 ?c26 ?k26 ?a27 ?l27 ?c27 ?k27 ?a28 ?l28 ?c28 ?k28 ?a29 ?l29 ?c29 ?k29 ?a30 ?l30 ?c30 ?k30 ?a31 ?l31 ?c31 ?k31 ?a32 ?l32 ?c32 ?k32 ?a33 ?l33 ?c33 ?k33 ?a34 ?l34 ?c34 ?k34 ?a35 ?l35 ?c35 ?k35 ?a36 ?l36 ?c36 ?k36 ?g_World ?k_World ?pg_World ?ic_World ?po_World ?sa_World ?mk_World ?ca_World ?cn_World ?ct_World ?cm_World ?at_World_its_acts ?get_World_its_acts ?tk_World_its_acts ?ty_World_its_acts ?ix_World_its_acts ?am_World___init__ ?im_World___init__ ?lm_World___init__ ?co_World___init__ ?km_World___init__ ?am_World_acts ?im_World_acts ?lm_World_acts ?co_World_acts ?km_World_acts ?am_World_arguments ?im_World_arguments ?lm_World_arguments ?co_World_arguments ?km_World_arguments ?am_World_outcomes ?im_World_outcomes ?lm_World_outcomes ?co_World_outcomes ?km_World_outcomes ?am_World_brings ?im_World_brings ?lm_World_brings ?co_World_brings ?km_World_brings ?am_World___eq__ ?im_World___eq__ ?lm_World___eq__ ?co_World___eq__ ?km_World___eq__ ?g_Unit ?k_Unit ?pg_Unit ?ic_Unit ?po_Unit ?sa_Unit ?mk_Unit ?ca_Unit ?cn_Unit ?ct_Unit ?cm_Unit ?at_Unit_its_functions ?get_Unit_its_functions ?tk_Unit_its_functions ?ty_Unit_its_functions ?ix_Unit_its_functions ?at_Unit_its_world ?get_Unit_its_world ?tk_Unit_its_world ?ty_Unit_its_world ?ix_Unit_its_world ?am_Unit___init__ ?im_Unit___init__ ?lm_Unit___init__ ?co_Unit___init__ ?km_Unit___init__ ?pa_Unit_world ?pg_Unit_world ?pt_Unit_world ?pr_Unit_world ?lm_Unit_world ?co_Unit_world ?km_Unit_world ?am_Unit_functions ?im_Unit_functions ?lm_Unit_functions ?co_Unit_functions ?km_Unit_functions ?am_Unit_function ?im_Unit_function ?lm_Unit_function ?co_Unit_function ?km_Unit_function ?am_Unit___eq__ ?im_Unit___eq__ ?lm_Unit___eq__ ?co_Unit___eq__ ?km_Unit___eq__ ?topS_ ?sup_ ?opq_ ?g_MoveError ?ex_MoveError ?hd_MoveError ?ty_MoveError ?g_Wrong ?ex_Wrong ?hd_Wrong ?ty_Wrong ?cls_Wrong ?ve_Wrong ?sa_Wrong ?no_Wrong ?k_Wrong ?vs_Wrong ?up_Wrong ?self_Wrong ?fi_Wrong ?tI_Wrong ?lI_Wrong ?cd_Wrong ?ce_Wrong ?co_Wrong ?cv_Wrong ?cf_Wrong ?bi_Wrong ?ev_Wrong ?g_BadAct ?ex_BadAct ?hd_BadAct ?ty_BadAct ?cls_BadAct ?ve_BadAct ?sa_BadAct ?no_BadAct ?k_BadAct ?vs_BadAct ?up_BadAct ?self_BadAct ?fi_BadAct ?tI_BadAct ?lI_BadAct ?cd_BadAct ?ce_BadAct ?co_BadAct ?cv_BadAct ?cf_BadAct ?bi_BadAct ?ev_BadAct ?g_BadFunction ?ex_BadFunction ?hd_BadFunction ?ty_BadFunction ?cls_BadFunction ?ve_BadFunction ?sa_BadFunction ?no_BadFunction ?k_BadFunction ?vs_BadFunction ?up_BadFunction ?self_BadFunction ?fi_BadFunction ?tI_BadFunction ?lI_BadFunction ?cd_BadFunction ?ce_BadFunction ?co_BadFunction ?cv_BadFunction ?cf_BadFunction ?bi_BadFunction ?ev_BadFunction ?g_NoFunction ?ex_NoFunction ?hd_NoFunction ?ty_NoFunction ?cls_NoFunction ?ve_NoFunction ?sa_NoFunction ?no_NoFunction ?k_NoFunction ?vs_NoFunction ?up_NoFunction ?self_NoFunction ?fi_NoFunction ?tI_NoFunction ?lI_NoFunction ?cd_NoFunction ?ce_NoFunction ?co_NoFunction ?cv_NoFunction ?cf_NoFunction ?bi_NoFunction ?ev_NoFunction ?z0 ?z1 ?z2 ?z3 ?z4 ?z5 ?z6 ?z7 ?z8 ?z9 ?z10 ?z11 ?z12 ?z13 ?z14 ?z15 ?z16 ?y0 ?y1 ?y2 ?y3 ?y4 ?y5 ?y6 ?y7 ?y8 ?y9 ?xa_BadFunction ?xg_BadFunction ?xl_BadFunction ?xn_BadFunction ?xt_BadFunction ?xm_BadFunction ?sb_BadFunction_MoveError
    (case a0 => k_is); (case l0 => k_is); (case c0 => k_is); (case k0 => k_is); (case a1 => k_is); (case l1 => k_is); (case c1 => k_is); (case k1 => k_is); (case a2 => k_is); (case l2 => k_is); (case c2 => k_is); (case k2 => k_is); (case a3 => k_is); (case l3 => k_is); (case c3 => k_is); (case k3 => k_is); (case a4 => k_is); (case l4 => k_is); (case c4 => k_is); (case k4 => k_is); (case a5 => k_is); (case l5 => k_is); (case c5 => k_is); (case k5 => k_is); (case a6 => k_is); (case l6 => k_is); (case c6 => k_is); (case k6 => k_is); (case a7 => k_is); (case l7 => k_is); (case c7 => k_is); (case k7 => k_is); (case a8 => k_is); (case l8 => k_is); (case c8 => k_is); (case k8 => k_is); (case a9 => k_is); (case l9 => k_is); (case c9 => k_is); (case k9 => k_is); (case a10 => k_is); (case l10 => k_is); (case c10 => k_is); (case k10 => k_is); (case a11 => k_is); (case l11 => k_is); (case c11 => k_is); (case k11 => k_is); (case a12 => k_is); (case l12 => k_is); (case c12 => k_is); (case k12 => k_is); (case a13 => k_is); (case l13 => k_is); (case c13 => k_is); (case k13 => k_is); (case a14 => k_is); (case l14 => k_is); (case c14 => k_is); (case k14 => k_is); (case a15 => k_is); (case l15 => k_is); (case c15 => k_is); (case k15 => k_is); (case a16 => k_is); (case l16 => k_is); (case c16 => k_is); (case k16 => k_is); (case a17 => k_is); (case l17 => k_is); (case c17 => k_is); (case k17 => k_is); (case a18 => k_is); (case l18 => k_is); (case c18 => k_is); (case k18 => k_is); (case a19 => k_is); (case l19 => k_is); (case c19 => k_is); (case k19 => k_is); (case a20 => k_is); (case l20 => k_is); (case c20 => k_is); (case k20 => k_is); (case a21 => k_is); (case l21 => k_is); (case c21 => k_is); (case k21 => k_is); (case a22 => k_is); (case l22 => k_is); (case c22 => k_is); (case k22 => k_is); (case a23 => k_is); (case l23 => k_is); (case c23 => k_is); (case k23 => k_is); (case a24 => k_is); (case l24 => k_is); (case c24 => k_is); (case k24 => k_is); (case a25 => k_is); (case l25 => k_is); (case c25 => k_is); (case k25 => k_is); (case a26 => k_is); (case l26 => k_is); (case c26 => k_is); (case k26 => k_is); (case a27 => k_is); (case l27 => k_is); (case c27 => k_is); (case k27 => k_is); (case a28 => k_is); (case l28 => k_is); (case c28 => k_is); (case k28 => k_is); (case a29 => k_is); (case l29 => k_is); (case c29 => k_is); (case k29 => k_is); (case a30 => k_is); (case l30 => k_is); (case c30 => k_is); (case k30 => k_is); (case a31 => k_is); (case l31 => k_is); (case c31 => k_is); (case k31 => k_is); (case a32 => k_is); (case l32 => k_is); (case c32 => k_is); (case k32 => k_is); (case a33 => k_is); (case l33 => k_is); (case c33 => k_is); (case k33 => k_is); (case a34 => k_is); (case l34 => k_is); (case c34 => k_is); (case k34 => k_is); (case a35 => k_is); (case l35 => k_is); (case c35 => k_is); (case k35 => k_is); (case a36 => k_is); (case l36 => k_is); (case c36 => k_is); (case k36 => k_is); (case g_World => k_is); (case k_World => k_is); (case pg_World => k_is); (case ic_World => k_is); (case po_World => k_is); (case sa_World => k_is); (case mk_World => k_is); (case ca_World => k_is); (case cn_World => k_is); (case ct_World => k_is); (case cm_World => k_is); (case at_World_its_acts => k_is); (case get_World_its_acts => k_is); (case tk_World_its_acts => k_is); (case ty_World_its_acts => k_is); (case ix_World_its_acts => k_is); (case am_World___init__ => k_is); (case im_World___init__ => k_is); (case lm_World___init__ => k_is); (case co_World___init__ => k_is); (case km_World___init__ => k_is); (case am_World_acts => k_is); (case im_World_acts => k_is); (case lm_World_acts => k_is); (case co_World_acts => k_is); (case km_World_acts => k_is); (case am_World_arguments => k_is); (case im_World_arguments => k_is); (case lm_World_arguments => k_is); (case co_World_arguments => k_is); (case km_World_arguments => k_is); (case am_World_outcomes => k_is); (case im_World_outcomes => k_is); (case lm_World_outcomes => k_is); (case co_World_outcomes => k_is); (case km_World_outcomes => k_is); (case am_World_brings => k_is); (case im_World_brings => k_is); (case lm_World_brings => k_is); (case co_World_brings => k_is); (case km_World_brings => k_is); (case am_World___eq__ => k_is); (case im_World___eq__ => k_is); (case lm_World___eq__ => k_is); (case co_World___eq__ => k_is); (case km_World___eq__ => k_is); (case g_Unit => k_is); (case k_Unit => k_is); (case pg_Unit => k_is); (case ic_Unit => k_is); (case po_Unit => k_is); (case sa_Unit => k_is); (case mk_Unit => k_is); (case ca_Unit => k_is); (case cn_Unit => k_is); (case ct_Unit => k_is); (case cm_Unit => k_is); (case at_Unit_its_functions => k_is); (case get_Unit_its_functions => k_is); (case tk_Unit_its_functions => k_is); (case ty_Unit_its_functions => k_is); (case ix_Unit_its_functions => k_is); (case at_Unit_its_world => k_is); (case get_Unit_its_world => k_is); (case tk_Unit_its_world => k_is); (case ty_Unit_its_world => k_is); (case ix_Unit_its_world => k_is); (case am_Unit___init__ => k_is); (case im_Unit___init__ => k_is); (case lm_Unit___init__ => k_is); (case co_Unit___init__ => k_is); (case km_Unit___init__ => k_is); (case pa_Unit_world => k_is); (case pg_Unit_world => k_is); (case pt_Unit_world => k_is); (case pr_Unit_world => k_is); (case lm_Unit_world => k_is); (case co_Unit_world => k_is); (case km_Unit_world => k_is); (case am_Unit_functions => k_is); (case im_Unit_functions => k_is); (case lm_Unit_functions => k_is); (case co_Unit_functions => k_is); (case km_Unit_functions => k_is); (case am_Unit_function => k_is); (case im_Unit_function => k_is); (case lm_Unit_function => k_is); (case co_Unit_function => k_is); (case km_Unit_function => k_is); (case am_Unit___eq__ => k_is); (case im_Unit___eq__ => k_is); (case lm_Unit___eq__ => k_is); (case co_Unit___eq__ => k_is); (case km_Unit___eq__ => k_is); (case topS_ => rfl); (case sup_ => k_is); (case opq_ => k_is); (case g_MoveError => k_is); (case ex_MoveError => k_is); (case hd_MoveError => k_is); (case ty_MoveError => k_is); (case g_Wrong => k_is); (case ex_Wrong => k_is); (case hd_Wrong => k_is); (case ty_Wrong => k_is); (case cls_Wrong => k_is); (case ve_Wrong => decide +kernel); (case sa_Wrong => k_is); (case no_Wrong => k_is); (case k_Wrong => k_is); (case vs_Wrong => k_is); (case up_Wrong => ks_is); (case self_Wrong => k_is); (case fi_Wrong => k_is); (case tI_Wrong => k_is); (case lI_Wrong => k_is); (case cd_Wrong => k_is); (case ce_Wrong => k_is); (case co_Wrong => k_is); (case cv_Wrong => rfl); (case cf_Wrong => decide +kernel); (case bi_Wrong => exact fun _ _ => rfl); (case ev_Wrong => exact fun _ => ⟨_, rfl⟩); (case g_BadAct => k_is); (case ex_BadAct => k_is); (case hd_BadAct => k_is); (case ty_BadAct => k_is); (case cls_BadAct => k_is); (case ve_BadAct => decide +kernel); (case sa_BadAct => k_is); (case no_BadAct => k_is); (case k_BadAct => k_is); (case vs_BadAct => k_is); (case up_BadAct => ks_is); (case self_BadAct => k_is); (case fi_BadAct => k_is); (case tI_BadAct => k_is); (case lI_BadAct => k_is); (case cd_BadAct => k_is); (case ce_BadAct => k_is); (case co_BadAct => k_is); (case cv_BadAct => rfl); (case cf_BadAct => decide +kernel); (case bi_BadAct => exact fun _ _ => rfl); (case ev_BadAct => exact fun _ => ⟨_, rfl⟩); (case g_BadFunction => k_is); (case ex_BadFunction => k_is); (case hd_BadFunction => k_is); (case ty_BadFunction => k_is); (case cls_BadFunction => k_is); (case ve_BadFunction => decide +kernel); (case sa_BadFunction => k_is); (case no_BadFunction => k_is); (case k_BadFunction => k_is); (case vs_BadFunction => k_is); (case up_BadFunction => ks_is); (case self_BadFunction => k_is); (case fi_BadFunction => k_is); (case tI_BadFunction => k_is); (case lI_BadFunction => k_is); (case cd_BadFunction => k_is); (case ce_BadFunction => k_is); (case co_BadFunction => k_is); (case cv_BadFunction => rfl); (case cf_BadFunction => decide +kernel); (case bi_BadFunction => exact fun _ _ => rfl); (case ev_BadFunction => exact fun _ => ⟨_, rfl⟩); (case g_NoFunction => k_is); (case ex_NoFunction => k_is); (case hd_NoFunction => k_is); (case ty_NoFunction => k_is); (case cls_NoFunction => k_is); (case ve_NoFunction => decide +kernel); (case sa_NoFunction => k_is); (case no_NoFunction => k_is); (case k_NoFunction => k_is); (case vs_NoFunction => k_is); (case up_NoFunction => ks_is); (case self_NoFunction => k_is); (case fi_NoFunction => k_is); (case tI_NoFunction => k_is); (case lI_NoFunction => k_is); (case cd_NoFunction => k_is); (case ce_NoFunction => k_is); (case co_NoFunction => k_is); (case cv_NoFunction => rfl); (case cf_NoFunction => decide +kernel); (case bi_NoFunction => exact fun _ _ => rfl); (case ev_NoFunction => exact fun _ => ⟨_, rfl⟩); (case z0 => k_is); (case z1 => k_is); (case z2 => k_is); (case z3 => k_is); (case z4 => k_is); (case z5 => k_is); (case z6 => k_is); (case z7 => k_is); (case z8 => k_is); (case z9 => k_is); (case z10 => k_is); (case z11 => k_is); (case z12 => k_is); (case z13 => k_is); (case z14 => k_is); (case z15 => k_is); (case z16 => k_is); (case y0 => k_is); (case y1 => k_is); (case y2 => k_is); (case y3 => k_is); (case y4 => k_is); (case y5 => k_is); (case y6 => k_is); (case y7 => k_is); (case y8 => k_is); (case y9 => k_is); (case xa_BadFunction => k_is); (case xg_BadFunction => k_is); (case xl_BadFunction => k_is); (case xn_BadFunction => k_is); (case xt_BadFunction => k_is); (case xm_BadFunction => k_is); (case sb_BadFunction_MoveError => k_is)
