import PyProof.Rows.All
import Wide.All
import OpenK.AllK
import Wide.FinOn
import HandS.ForMost
import HandS.IsInst
import HandS.TupAny
import HandS.Wide
import HandS.Deep
import HandS.SetKeys
import HandS.Style
import HandS.Conv
import PyProof.ReprRoads
import HandS.SetFor
import HandS.Strs
import HandS.Evl
import HandS.Walk
import HandS.Sort
import HandS.TupLe
import PyProof.NeKinds
import PyProof.EqAt
import HandS.ForExc
import HandS.ExcField
import HandS.ExcIs
import KE.KExcSuper
import HandS.SlotsOwn
import KE.KExcIs
import PyProof.Draws
import PyProof.EnumMake
import HandS.Slots
import KE.KDictOf
import HandS.More
import HandS.ExcOwn
import HandS.DictTup
import HandS.ListItems
import HandS.SortOrd
import PyProof.Rows.SortKeyStr
import HandS.SortInts
import HandS.SortKw
import KE.KSortKey
import PyProof.Rows.SortStr
import PyProof.TupleOfSeq
import PyProof.InstNe
import HandS.DictComp
import PySem.Challenge.RW_framemoves_k22_codes_made
import HandS.WordsExc
import HandS.OwnEq
import KE.KEqDict
import HandS.TupMul
import KE.KDictPairs
set_option Elab.async false
set_option linter.all false
set_option maxRecDepth 100000
set_option maxHeartbeats 8000000
namespace Fm
open PySem PySem.Spec PyProof.Rows L2

/-! built-in names -/
theorem bt_len : bootBuiltins "len" = some (.builtin "len") := by decide +kernel
theorem bt_abs : bootBuiltins "abs" = some (.builtin "abs") := by decide +kernel
theorem bt_isinstance : bootBuiltins "isinstance" = some (.builtin "isinstance") := by decide +kernel
theorem bt_repr : bootBuiltins "repr" = some (.builtin "repr") := by decide +kernel
theorem bt_sum : bootBuiltins "sum" = some (.builtin "sum") := by decide +kernel
theorem bt_sorted : bootBuiltins "sorted" = some (.builtin "sorted") := by decide +kernel
theorem bt_all : bootBuiltins "all" = some (.builtin "all") := by decide +kernel
theorem bt_int : bootBuiltins "int" = some (.type "int") := by decide +kernel
theorem bt_tuple : bootBuiltins "tuple" = some (.type "tuple") := by decide +kernel
theorem bt_list : bootBuiltins "list" = some (.type "list") := by decide +kernel
theorem bt_dict : bootBuiltins "dict" = some (.type "dict") := by decide +kernel
theorem bt_set : bootBuiltins "set" = some (.type "set") := by decide +kernel
theorem bt_str : bootBuiltins "str" = some (.type "str") := by decide +kernel
theorem bt_bool : bootBuiltins "bool" = some (.type "bool") := by decide +kernel

section
variable {X : Cx} {e l : Expr} {pos : Pos}
theorem pe_ty {x : Str} {n : String} (hm : X.mg x = none) (hv : bootBuiltins x = some (.type n)) (hg : Gl X x := by rfl)
    (h1 : x ≠ "__name__" := by decide) (h2 : (x == ("__debug__" : Str)) = false := by decide) : PE X (.Name x pos) (tC (.ty n)) :=
  pe_bltn hg hm hv rfl h1 h2
/-- one of two readings, chosen ahead -/
theorem pe_or2 {t u : TE} (h : PE X e t) (k : PE X e u) : PE X e (fun σ H Q => t σ H Q ∨ u σ H Q) :=
  ⟨fun pins s σ H Q I q => q.elim (h.run pins s σ H Q I) (k.run pins s σ H Q I)⟩
theorem pi_or2 {tg : Expr} {t u : TI} (h : PI X tg e t) (k : PI X tg e u) : PI X tg e (fun σ H R => t σ H R ∨ u σ H R) :=
  ⟨fun pins s σ H R I q => q.elim (h.run pins s σ H R I) (k.run pins s σ H R I)⟩

def iSeq (K : PySem.W.Frag) (tl : TE) : TI := fun σ H R => tl σ H fun x H1 => ∃ a, x = .ref a ∧
  (((∃ xs, SqL K H1 a xs) ∧ R (Itl K a) H1) ∨ ((∃ xs, SqT K H1 a xs) ∧ R (Itt K a) H1))
theorem pi_seq {tg : Expr} {tl : TE} (hl : PE X l tl) : PI X tg l (iSeq X.K tl) := by
  refine ⟨fun pins s σ H R I h => thn (hl.run pins s σ H _ I h) ?_⟩
  rintro v s1 ⟨x, H1, I1, r1, a, rfl, q⟩
  cases r1
  have fp : ∀ b ∈ [s1.heap.objs.size], FpOk X pins H1 b := fun b hb => by
    rw [List.mem_singleton.mp hb]
    exact I1.fpOk (Nat.le_refl _) (I1.hok.fresh (Nat.le_refl _))
  rcases q with ⟨⟨xs, hq⟩, q⟩ | ⟨⟨xs, hq⟩, q⟩
  · obtain ⟨its, rv, p, hz⟩ := I1.list hq
    exact wpAny_pyIter_list p.isList ⟨_, _, _, _, H1, rfl, I1.kept (t' := s1.toks) fun b o e => Heap.get?_push_of_some _ e, turn_list a _,
      ⟨_, Heap.get?_push_size _ rfl, rfl, rfl⟩, fp, q⟩
  · obtain ⟨its, rv, p, hz⟩ := I1.tuple hq
    exact wpAny_pyIter_tuple (show s1.heap.IsTuple a its.toArray from p) ⟨_, _, _, _, H1, rfl, I1.kept (t' := s1.toks) fun b o e => Heap.get?_push_of_some _ e, turn_tuple a _,
      ⟨_, Heap.get?_push_size _ rfl, rfl, rfl⟩, fp, q⟩

/-! operators by what stands there -/
def rAddS : R2 := fun x y H Q => ∃ i j, x = .str i ∧ y = .str j ∧ i.length + j.length ≤ sizeLine ∧ Q (.str (i ++ j)) H
def rAddG (K : PySem.W.Frag) : R2 := fun x y H Q => rI0 (fun i j => .int (i + j)) x y H Q ∨ (rAddS x y H Q ∨ (rCatA K x y H Q ∨ rCat x y H Q))
theorem op_addG : OpR X (binaryOp .Add) (rAddG X.K) := OpR.or op_add (OpR.or op_add_str (OpR.or op_catA op_cat))
def rMulG : R2 := fun x y H Q => rI CMul (fun i j => .int (i * j)) x y H Q ∨ rRep x y H Q
theorem op_mulG : OpR X (binaryOp .Mult) rMulG := OpR.or op_mul op_rep
def rEqG (K : PySem.W.Frag) : R2 := fun x y H Q => rEq x y H Q ∨ rEqD K x y H Q
theorem op_eqG (hu : X.A.units + 64 < cLine) : OpR X (compareOp .Eq) (rEqG X.K) := OpR.or op_eq (op_eqD hu)
def rNeG (K : PySem.W.Frag) : R2 := fun x y H Q => rNe x y H Q ∨ rNeD K x y H Q
theorem op_neG (hu : X.A.units + 64 < cLine) : OpR X (compareOp .NotEq) (rNeG X.K) := OpR.or op_ne (op_neD hu)
def rInSig : R2 := fun x y H Q => ∃ (c : Nat) (z : Str), x = .str ⟨#[c]⟩ ∧ y = .str z ∧ Q (.bl (decide (c ∈ z.cps.toList))) H
def rInG (K : PySem.W.Frag) : R2 := fun x y H Q => rInD K x y H Q ∨ rInSig x y H Q
theorem op_inG (hu : X.A.units + 65 < cLine) : OpR X (compareOp .In) (rInG X.K) := OpR.or (op_inD hu) op_in_sign
def rNotInSig : R2 := fun x y H Q => ∃ (c : Nat) (z : Str), x = .str ⟨#[c]⟩ ∧ y = .str z ∧ Q (.bl (!decide (c ∈ z.cps.toList))) H
def rNotInG (K : PySem.W.Frag) : R2 := fun x y H Q => rNotInD K x y H Q ∨ rNotInSig x y H Q
theorem op_notInG (hu : X.A.units + 65 < cLine) : OpR X (compareOp .NotIn) (rNotInG X.K) := OpR.or (op_notInD hu) op_notIn_sign
/-- len -/
def rLenG (K : PySem.W.Frag) : List V → Hp → VK → Prop := fun xs H Q =>
  (∃ p ys, xs = [.ref p] ∧ (SqL K H p ys ∨ SqT K H p ys) ∧ Q (.int ys.length) H) ∨ ((∃ z : Str, xs = [.str z] ∧ z.length ≤ sizeLine ∧ Q (.int z.length) H) ∨
    (∃ a kvs, xs = [V.ref a] ∧ H a = some (.dK kvs) ∧ Q (.int kvs.length) H))
theorem call_lenG : CallR X (.builtin "len") (rLenG X.K) := CallR.or call_len_seq (CallR.or call_len_str call_lenD)
/-- tuple(x), list(x) -/
def rTupOf (K : PySem.W.Frag) : List V → Hp → VK → Prop := fun xs H Q => ∃ p ys, xs = [.ref p] ∧ ((SqL K H p ys ∧ ∀ l, H l = none → Q (.ref l) (upd H l (.tup ys))) ∨ (SqT K H p ys ∧ Q (.ref p) H))
theorem call_tupG : CallR X (.type "tuple") (rTupOf X.K) := call_tuple_of
def rListOf (K : PySem.W.Frag) : List V → Hp → VK → Prop := fun xs H Q => ∃ p ys, xs = [.ref p] ∧ (SqL K H p ys ∨ SqT K H p ys) ∧ ∀ l, H l = none → Q (.ref l) (upd H l (.lst ys))
theorem call_listG : CallR X (.type "list") (rListOf X.K) := call_list_of
/-- slices -/
def rSlG (K : PySem.W.Frag) : V → Option Int → Option Int → Hp → VK → Prop := fun x lo hi H Q => rSlL K x lo hi H Q ∨ (rSlA K x lo hi H Q ∨ rSlS x lo hi H Q)
theorem sl_G : SlR X (rSlG X.K) := SlR.or sl_list (SlR.or sl_tupA sl_str)
end
end Fm
namespace Fm
open PySem PySem.Spec PyProof.Rows L2
/-! list.extend by a tuple, whatever its own dict and slots -/
theorem ext_tup (l b : Addr) (as bs : Array Value) (n m : Nat) (dd : Option Addr) (sl : Array (Option Value))
    (h0 : ¬(!as.isEmpty && Builtin.List.listTooLong (as.size + bs.size)) = true) (h1 : as.size ≤ sizeLine) (h2 : as.size + bs.size ≤ sizeLine + 1) :
    Meets (Builtin.«list.extend» ⟨[.ref l, .ref b], []⟩) (fun _ R s =>
      s.heap.get? l = some { cls := .type "list", dict := none, data := .seq as n, slots := #[] } ∧
      s.heap.get? b = some { cls := .type "tuple", dict := dd, data := .seq bs m, slots := sl } ∧
      R (.ok (.ret Value.none)) { s with heap := s.heap.update l (Obj.mapSeq fun x => x ++ bs), toks := s.toks }) := by
  refine .of_wp fun prog w A R s h => ?_
  obtain ⟨hp, g, d, tk, os⟩ := s
  obtain ⟨ha, hb, hr⟩ := h
  have q1 := AutoSeq1.idx_int
  have q2 := AutoSeq1.sub_tuple_tuple
  have q3 := AutoSeq1.sub_list_list
  have q4 := AutoSeq1.sub_tuple_list
  have q5 := AutoSeq1.sub_list_tuple
  have hz : (as ++ bs).size ≤ sizeLine + 1 := by
    rw [Array.size_append]
    exact h2
  wp_walk using (wpAny_updateSeq ha rfl (hz := h1) (_hz' := hz)), AutoSeq1.wpAny_loadPart' ha, AutoSeq1.wpAny_loadPart' hb
  exact ⟨_, rfl, hr⟩
section
variable {X : Cx}
def rExtT (K : PySem.W.Frag) : V → List V → Hp → VK → Prop := fun x vs H Q => ∃ l b xs zs, x = .ref l ∧ vs = [.ref b] ∧ H l = some (.lst xs) ∧ SqT K H b zs ∧
  xs.length + zs.length ≤ sizeLine ∧ Q .non (upd H l (.lst (xs ++ zs)))
theorem mt_extT : MtR X "list.extend" (rExtT X.K) := by
  intro pins s σ H x vs v us Q I rx rv h
  obtain ⟨l, b, xs, zs, rfl, rfl, hH, hB, hz, q⟩ := h
  cases rx
  obtain ⟨u, rfl, ru⟩ := rv.one
  cases ru
  obtain ⟨z, its, n, r, hl, e⟩ := I.lstM hH
  obtain ⟨its2, r2, ⟨⟨cls, dd, data, sl⟩, ho, hc, m, hd⟩, hz2⟩ := I.tuple hB
  simp only at hc hd
  subst hc hd
  have e1 := r.length
  have e2 := r2.length
  have hs : its.toArray.size + its2.toArray.size ≤ sizeLine := by
    rw [List.size_toArray, List.size_toArray]
    omega
  have hlong : ¬ (!its.toArray.isEmpty && Builtin.List.listTooLong (its.toArray.size + its2.toArray.size)) = true := by
    rw [notLongL hs, Bool.and_false]
    exact Bool.false_ne_true
  refine call_meets PySem.F.slot_list_extend ⟨_, e, rfl⟩ PySem.F.entry_list_extend (PySem.F.args_list_extend_2 _ _)
    (ext_tup l b its.toArray its2.toArray n m dd sl hlong (by rw [List.size_toArray]; omega) (by omega)) ⟨e, ho, ?_⟩
  refine ⟨.non, _, I.lset (its' := its ++ its2) hH e (by simp) (r.append r2) ?_, rfl, q⟩
  rw [List.length_append]
  omega
def rExtG (K : PySem.W.Frag) : V → List V → Hp → VK → Prop := fun x vs H Q => rExtend x vs H Q ∨ rExtT K x vs H Q
theorem mt_extendG : MtR X "list.extend" (rExtG X.K) := MtR.or mt_extend mt_extT

/-! repr of data, where no repr is under way -/
def rReprG (K : PySem.W.Frag) : List V → Hp → VK → Prop := fun xs H Q => ∃ (x : V) (d : PyData), xs = [x] ∧ Dp K H x d ∧ d.showable = true ∧ d.hasDict = false ∧ d.depth ≤ 60 ∧ d.shown.length ≤ sizeLine ∧ Q (.str d.shown) H
theorem call_reprG (hg : X.A.guards = some []) (hu : X.A.units + 64 < cLine) : CallR X (.builtin "repr") (rReprG X.K) := by
  intro pins s σ H xs us Q I rv h
  obtain ⟨x, d, rfl, hd, hs, hn, hdp, hz, q⟩ := h
  obtain ⟨u, rfl, ru⟩ := rv.one
  obtain ⟨as, R⟩ := Dp.reads I d x u hd ru
  have fin : ∀ h' (t : Tok) tk, (∀ b o, s.heap.get? b = some o → h'.get? b = some o) → EP X pins σ Q (.str d.shown t) { s with heap := h', toks := tk } := fun h' t tk hk =>
    ⟨.str d.shown, H, I.kept (h' := h') (t' := tk) hk, ⟨t, rfl⟩, q⟩
  cases hd with
  | non =>
    cases ru
    exact PySem.P.repr_of_none (fin s.heap _ _ fun _ _ e => e)
  | bl b =>
    cases ru
    exact PySem.P.repr_of_bool (fin s.heap _ _ fun _ _ e => e)
  | int i =>
    obtain ⟨t, rfl⟩ := ru
    exact PySem.P.repr_of_int (by simpa [PyData.showable] using hs) (fin s.heap _ _ fun _ _ e => e)
  | str y =>
    obtain ⟨t, rfl⟩ := ru
    exact PySem.P.repr_of_str (fin s.heap _ _ fun _ _ e => e) hz
  | lst h1 h2 =>
    cases ru
    exact PySem.repr_of_reads' R hs (fun c => by rw [hn] at c; cases c) hg (by omega) (fun _ _ e => e) (fun h' t tk hk => fin h' t tk hk) hz
  | tup h1 h2 =>
    cases ru
    exact PySem.repr_of_reads' R hs (fun c => by rw [hn] at c; cases c) hg (by omega) (fun _ _ e => e) (fun h' t tk hk => fin h' t tk hk) hz
end

/-! defs that may ask for a repr: called where none is under way -/
structure FnOkG (P : Program) (w : World) (K : PySem.W.Frag) (mg : Str → Option Value) (base : Heap) (CX : CXT) (k : Nat) (f : Addr) (fd : FuncData) (ps : List Str) (sp : Sp) : Prop where
  len : ∀ vs H Q E, sp vs H Q E → vs.length = ps.length
  run : ∀ (A : Around) (outer : List Env) (s : Shared) (H : Hp) (args : Args) (us : List Value) (vs : List V) (Q : VK) (E : XK), A.guards = some [] → Room k A →
    Env0 P w K mg base A outer s H → BindsTo s fd args (ps.zip us) → Vals vs us → sp vs H Q E → codeAny (model P w) A (.call (.ref f) args) (CR CX outer P w H s Q E) s
section
variable {P : Program} {w : World} {K : PySem.W.Frag} {mg : Str → Option Value} {base : Heap} {CX : CXT}
theorem FnOkG.mono {j k : Nat} {f : Addr} {fd : FuncData} {ps : List Str} {sp : Sp} (F : FnOkG P w K mg base CX j f fd ps sp) (h : j ≤ k) : FnOkG P w K mg base CX k f fd ps sp :=
  ⟨F.len, fun A outer s H args us vs Q E hg hr => F.run A outer s H args us vs Q E hg (hr.mono h)⟩
theorem guards_deeper (A : Around) (env : Env) (h : A.guards = some []) : (A.deeper env).guards = some [] := by
  first | exact h | simpa [Around.deeper] using h
/-- a def's promise by its body, as Fun.ok says it, with the guards known -/
theorem okG {x qual : Str} {st : Stmt} {f : Addr} {fd : FuncData} {N ps : List Str} {k : Nat} {sp : Sp} (F : Fun K x qual st f fd) (S : FnScope N ps (defScope st))
    (len : ∀ vs H Q E, sp vs H Q E → vs.length = ps.length)
    (body : ∀ (cdv : Value) (A : Around) (outer : List Env) (s : Shared) (H : Hp) (vs : List V) (Q : VK) (E : XK),
      (A.deeper (envOfC qual (defScope st) s.heap.objs.size f cdv)).guards = some [] → Room k (A.deeper (envOfC qual (defScope st) s.heap.objs.size f cdv)) → sp vs H Q E →
      ∃ t, PSs (cxOf CX0 P w K mg base N qual (defScope st) f cdv A outer s H E).nox (defBody st) t ∧ t { nx := fun _ H' => Q .non H', rt := Q } (start N vs) H) :
    FnOkG P w K mg base CX0 (k + 1) f fd ps sp := by
  obtain ⟨oc, od, kV, doc, pm, an, cdv, ct, osl, rfl, lk, hcd⟩ := F.ex
  refine ⟨len, fun A outer s H args us vs Q E hg hr e0 hb rv hsp => ?_⟩
  have KX : K.In s.heap := e0.mod.kin.keeps fun b o e => (e0.bs b o e).1
  have lim : s.heap.NoLimit := e0.mod.nolimit.keeps fun b o e => (e0.bs b o e).1
  refine codeAny_call_function hr.depth (KX _ _ lk) rfl S.co S.gen rfl (PySem.W.codeRec_of KX hcd) (hb _ _ _ _ ?_)
  refine wpAny_newFunctionEnv_cells S.kind (fun y hy => ?_) fun env he s1 ic => ?_
  · rcases S.par y.1 (List.of_mem_zip (show (y.1, y.2) ∈ ps.zip us from hy)).1 with q | q
    · exact .inl q
    · exact .inr ⟨q, PySem.W.cellsFrom_some _ _ _ (.inl q)⟩
  · subst he
    refine ⟨lim.keeps ic.toInCall.keep, codeAny_func ?_⟩
    obtain ⟨t, ht, hq⟩ := body cdv A outer s H vs Q E (guards_deeper A _ hg) (hr.deeper _) hsp
    have I := inv_start (CX := CX0) (N := N) (E := E) S hr.hd e0 (len _ _ _ _ hsp) rv ic
    refine wpAny_mono (ht.nox.run [] s1 (start N vs) H _ I hq) (fun fl s' hs => ?_) fun e s' hs => hs
    cases fl with
    | ret u =>
      obtain ⟨v, σ', H', J, r', q⟩ := hs
      exact ⟨v, H', J.os, J.bare, J.base, J.hok, r', q⟩
    | next =>
      obtain ⟨σ', H', J, q⟩ := hs
      exact ⟨.non, H', J.os, J.bare, J.base, J.hok, rfl, q⟩
    | brk =>
      obtain ⟨_, _, _, q⟩ := hs
      exact q.elim
    | cont =>
      obtain ⟨_, _, _, q⟩ := hs
      exact q.elim
end
section
variable {X : Cx} {CX : CXT} {k : Nat} {f : Addr} {fd : FuncData} {ps : List Str} {sp : Sp} {dvs : List V} {ds : List Value} {E : XK} {x : Str} {p pos : Pos} {e : Expr} {es : List Expr} {t : TA}
theorem pe_callG (F : FnOkG X.prog X.w X.K X.mg X.base CX k f fd ps sp) (hgd : X.A.guards = some []) (hr : Room k X.A) (hg : Gl X x) (hm : X.mg x = some (.ref f))
    (hk : PySem.W.keepIn X.K (.ref f) = true) (hb : Binds X.K fd ps ds) (hd : Vals dvs ds) (hx : Passes CX X E) (ha : PA X (e :: es) t) (hdb : (x == ("__debug__" : Str)) = false := by decide)
    (he : starEach (e :: es) X.env = (false, eval e X.env) :: starEach es X.env := by rfl) (hpl : (backTo pos (starEach es X.env)).any (·.1) = false := by rfl) :
    PE X (.Call (.Name x p) (e :: es) [] pos) (tCall sp dvs E t) := by
  refine ⟨fun pins s σ H Q I h => wpAny_Call_Name_kw (ld_glob I hg hm ?_ hdb)⟩
  refine PySem.W.callWith_K (h₀ := X.base) I.ok.mod.kin hk (thn (ha.run pos pins s σ H _ I h) ?_) he hpl
  rintro us s1 ⟨vs, H1, I1, rv, q⟩
  refine ⟨I1.kIn, ?_⟩
  have r2 := rv.append hd
  have hl : (us ++ ds).length = ps.length := by
    rw [← r2.length]
    exact F.len _ _ _ _ q
  refine wpAny_call (codeAny_mono (F.run X.A X.stack s1 H1 ⟨us, []⟩ _ _ Q E hgd hr I1.env0 (hb s1 us I1.kIn hl) r2 q) fun r s' hq => ?_)
  match r, hq with
  | .error e, hq => exact hx pins σ H1 s1 e s' I1 hq
  | .ok (.ret u), hq => exact I1.after hq
end
end Fm
namespace Fm
open PySem PySem.Spec PyProof.Rows L2

/-! heaps: what a step leaves -/
/-- tuples stay; all else stays but what stands in S -/
structure Mv (S : List Addr) (H H' : Hp) : Prop where
  tk : ∀ a xs, Rd H a (.tup xs) → Rd H' a (.tup xs)
  keep : ∀ a o, a ∉ S → H a = some o → H' a = some o
section
variable {S T : List Addr} {H H1 H2 : Hp} {p : Addr} {o : HO}
theorem Mv.refl : Mv S H H := ⟨fun _ _ h => h, fun _ _ _ h => h⟩
theorem Mv.trans (a : Mv S H H1) (b : Mv S H1 H2) : Mv S H H2 := ⟨fun c xs h => b.tk c xs (a.tk c xs h), fun c u n h => b.keep c u n (a.keep c u n h)⟩
theorem Mv.mono (a : Mv S H H1) (h : ∀ x ∈ S, x ∈ T) : Mv T H H1 := ⟨a.tk, fun c u n e => a.keep c u (fun z => n (h c z)) e⟩
theorem Mv.of_same (h : Same H H1) : Mv S H H1 := ⟨fun a xs r => r.elim (fun r => .inl (h _ _ r)) fun ⟨o, r⟩ => .inr ⟨o, h _ _ r⟩, fun a o _ e => h a o e⟩
theorem same_new (h : H p = none) : Same H (upd H p o) := fun a u e => by
  rw [upd_ne (ne_of_none e h)]
  exact e
theorem Mv.new (h : H p = none) : Mv S H (upd H p o) := .of_same (same_new h)
theorem Mv.free (a : Mv [] H H1) (h : H1 p = none) : H p = none := by
  cases q : H p with
  | none => rfl
  | some u =>
    rw [a.keep p u (List.not_mem_nil) q] at h
    cases h
theorem Mv.same (a : Mv [] H H1) : Same H H1 := fun c u e => a.keep c u List.not_mem_nil e
/-- what H does not know may be written -/
theorem Mv.wr (a : Mv S H H1) (h : H p = none) : Mv S H (upd H1 p o) := by
  refine ⟨fun c xs r => ?_, fun c u n e => ?_⟩
  · have hc : c ≠ p := by
      rintro rfl
      rcases r with r | ⟨u, r⟩ <;> (rw [h] at r; cases r)
    rcases a.tk c xs r with r | ⟨u, r⟩
    · exact .inl (by rw [upd_ne hc]; exact r)
    · exact .inr ⟨u, by rw [upd_ne hc]; exact r⟩
  · rw [upd_ne (ne_of_none e h)]
    exact a.keep c u n e
/-- a list that stands in S may be written -/
theorem Mv.set {xs : List V} (h : H p = some (.lst xs)) (hp : p ∈ S) : Mv S H (upd H p o) := by
  refine ⟨fun c ys r => ?_, fun c u n e => ?_⟩
  · have hc : c ≠ p := by
      rintro rfl
      rcases r with r | ⟨u, r⟩ <;> (rw [h] at r; cases r)
    rcases r with r | ⟨u, r⟩
    · exact .inl (by rw [upd_ne hc]; exact r)
    · exact .inr ⟨u, by rw [upd_ne hc]; exact r⟩
  · have hc : c ≠ p := fun z => n (by rw [z]; exact hp)
    rw [upd_ne hc]
    exact e
theorem Mv.sqT {K : PySem.W.Frag} {a : Addr} {xs : List V} (m : Mv S H H1) (h : SqT K H a xs) : SqT K H1 a xs := h.elim (fun h => .inl (m.tk a xs h)) .inr
end

/-! data without lists and dicts -/
mutual
def imm : PyData → Bool
  | .none | .bool _ | .int _ | .str _ => true
  | .tuple xs => immAll xs
  | .list _ => false
  | .dict _ => false
def immAll : List PyData → Bool
  | [] => true
  | x :: xs => imm x && immAll xs
end
theorem immAll_iff : ∀ {xs : List PyData}, immAll xs = true ↔ ∀ x ∈ xs, imm x = true
  | [] => by simp [immAll]
  | x :: xs => by simp [immAll, immAll_iff]
structure Im (K : PySem.W.Frag) (H : Hp) (v : V) (d : PyData) : Prop where
  dp : Dp K H v d
  im : imm d = true
structure Ims (K : PySem.W.Frag) (H : Hp) (vs : List V) (ds : List PyData) : Prop where
  dp : DpAll K H vs ds
  im : immAll ds = true
section
variable {K : PySem.W.Frag} {S : List Addr} {H H' : Hp}
mutual
theorem dp_mv (m : Mv S H H') : ∀ (d : PyData) (v : V), imm d = true → Dp K H v d → Dp K H' v d
  | .none, _, _, h => by cases h; exact .non
  | .bool b, _, _, h => by cases h; exact .bl b
  | .int i, _, _, h => by cases h; exact .int i
  | .str x, _, _, h => by cases h; exact .str x
  | .tuple ds, _, i, h => by
    cases h with
    | tup hs ha => exact .tup (m.sqT hs) (dps_mv m ds _ (by simpa [imm] using i) ha)
  | .list ds, _, i, _ => by simp [imm] at i
  | .dict _, _, _, h => by cases h
theorem dps_mv (m : Mv S H H') : ∀ (ds : List PyData) (vs : List V), immAll ds = true → DpAll K H vs ds → DpAll K H' vs ds
  | [], _, _, h => by cases h; exact .nil
  | d :: ds, _, i, h => by
    cases h with
    | cons h1 h2 =>
      have i' : imm d = true ∧ immAll ds = true := by simpa [immAll] using i
      exact .cons (dp_mv m d _ i'.1 h1) (dps_mv m ds _ i'.2 h2)
end
theorem Im.mv {v : V} {d : PyData} (h : Im K H v d) (m : Mv S H H') : Im K H' v d := ⟨dp_mv m d v h.im h.dp, h.im⟩
theorem Ims.mv {vs : List V} {ds : List PyData} (h : Ims K H vs ds) (m : Mv S H H') : Ims K H' vs ds := ⟨dps_mv m ds vs h.im h.dp, h.im⟩
theorem Ims.nil : Ims K H [] [] := ⟨.nil, rfl⟩
theorem Ims.cons {v : V} {vs : List V} {d : PyData} {ds : List PyData} (h : Im K H v d) (k : Ims K H vs ds) : Ims K H (v :: vs) (d :: ds) := ⟨.cons h.dp k.dp, by simp [immAll, h.im, k.im]⟩
theorem Ims.inv {v : V} {vs : List V} {ds : List PyData} (h : Ims K H (v :: vs) ds) : ∃ d ds', ds = d :: ds' ∧ Im K H v d ∧ Ims K H vs ds' := by
  obtain ⟨h, i⟩ := h
  cases h with
  | cons h1 h2 =>
    simp only [immAll, Bool.and_eq_true] at i
    exact ⟨_, _, rfl, ⟨h1, i.1⟩, h2, i.2⟩
theorem Ims.invD {vs : List V} {d : PyData} {ds : List PyData} (h : Ims K H vs (d :: ds)) : ∃ v vs', vs = v :: vs' ∧ Im K H v d ∧ Ims K H vs' ds := by
  obtain ⟨h, i⟩ := h
  cases h with
  | cons h1 h2 =>
    simp only [immAll, Bool.and_eq_true] at i
    exact ⟨_, _, rfl, ⟨h1, i.1⟩, h2, i.2⟩
theorem Ims.nilV {ds : List PyData} (h : Ims K H [] ds) : ds = [] := by
  obtain ⟨h, i⟩ := h
  cases h
  rfl
theorem Ims.nilD {vs : List V} (h : Ims K H vs []) : vs = [] := by
  obtain ⟨h, i⟩ := h
  cases h
  rfl
theorem Ims.length : ∀ {ds : List PyData} {vs : List V}, Ims K H vs ds → vs.length = ds.length
  | [], _, h => by rw [h.nilD]; rfl
  | d :: ds, _, h => by
    obtain ⟨v, vs', rfl, _, k⟩ := h.invD
    simp [k.length]
theorem Ims.append : ∀ {ds es : List PyData} {vs us : List V}, Ims K H vs ds → Ims K H us es → Ims K H (vs ++ us) (ds ++ es)
  | [], _, _, _, h, k => by rw [h.nilD]; exact k
  | d :: ds, _, _, _, h, k => by
    obtain ⟨v, vs', rfl, h1, h2⟩ := h.invD
    exact .cons h1 (h2.append k)
theorem Ims.get : ∀ {ds : List PyData} {vs : List V} {i : Nat} {v : V}, Ims K H vs ds → vs[i]? = some v → ∃ d, ds[i]? = some d ∧ Im K H v d
  | [], _, _, _, h, e => by rw [h.nilD] at e; simp at e
  | d :: ds, _, 0, _, h, e => by
    obtain ⟨v, vs', rfl, h1, h2⟩ := h.invD
    simp at e
    subst e
    exact ⟨d, rfl, h1⟩
  | d :: ds, _, i + 1, _, h, e => by
    obtain ⟨v, vs', rfl, h1, h2⟩ := h.invD
    exact h2.get (i := i) (by simpa using e)
theorem Ims.getD : ∀ {ds : List PyData} {vs : List V} {i : Nat} {d : PyData}, Ims K H vs ds → ds[i]? = some d → ∃ v, vs[i]? = some v ∧ Im K H v d
  | [], _, _, _, h, e => by simp at e
  | d :: ds, _, 0, _, h, e => by
    obtain ⟨v, vs', rfl, h1, h2⟩ := h.invD
    simp at e
    subst e
    exact ⟨v, rfl, h1⟩
  | d :: ds, _, i + 1, _, h, e => by
    obtain ⟨v, vs', rfl, h1, h2⟩ := h.invD
    exact h2.getD (i := i) (by simpa using e)
theorem Im.tupI {v : V} {ds : List PyData} (h : Im K H v (.tuple ds)) : ∃ a xs, v = .ref a ∧ SqT K H a xs ∧ Ims K H xs ds := by
  obtain ⟨h, i⟩ := h
  cases h with
  | tup hs ha => exact ⟨_, _, rfl, hs, ha, by simpa [imm] using i⟩
theorem Im.tup {a : Addr} {xs : List V} {ds : List PyData} (h : SqT K H a xs) (k : Ims K H xs ds) : Im K H (.ref a) (.tuple ds) := ⟨.tup h k.dp, by simpa [imm] using k.im⟩
theorem Im.int (i : Int) : Im K H (.int i) (.int i) := ⟨.int i, rfl⟩
theorem Im.str (x : Str) : Im K H (.str x) (.str x) := ⟨.str x, rfl⟩
theorem Im.bl (b : Bool) : Im K H (.bl b) (.bool b) := ⟨.bl b, rfl⟩
theorem Im.non : Im K H .non .none := ⟨.non, rfl⟩
theorem Im.intI {v : V} {i : Int} (h : Im K H v (.int i)) : v = .int i := by
  obtain ⟨h, _⟩ := h
  cases h
  rfl
theorem Im.strI {v : V} {x : Str} (h : Im K H v (.str x)) : v = .str x := by
  obtain ⟨h, _⟩ := h
  cases h
  rfl
end

/-! the bag of draws -/
def BagC (H : Hp) (b c : Addr) : Prop := ∃ (s m k : Int) (ns : List Int), H b = some (.lst [.int s, .int m, .int k, .ref c]) ∧ H c = some (.lst (ns.map V.int)) ∧ ns.length ≤ 63 ∧
  (∀ n ∈ ns, 0 ≤ n) ∧ 0 ≤ s ∧ 0 ≤ k ∧ 0 ≤ m
def Bag (H : Hp) (b : Addr) : Prop := ∃ c, BagC H b c
theorem BagC.lst {H : Hp} {b c : Addr} (h : BagC H b c) : ∃ xs, H b = some (.lst xs) := by
  obtain ⟨s, m, k, ns, h, _⟩ := h
  exact ⟨_, h⟩
theorem Bag.lst {H : Hp} {b : Addr} (h : Bag H b) : ∃ xs, H b = some (.lst xs) := h.elim fun _ h => h.lst
theorem Bag.ne {H : Hp} {b c : Addr} {xs : List V} {ns : List Int} (h : H b = some (.lst (xs ++ [.ref c]))) (k : H c = some (.lst (ns.map V.int))) : c ≠ b := by
  rintro rfl
  rw [h] at k
  have e : xs ++ [V.ref c] = ns.map V.int := by
    have := Option.some.inj k
    injection this
  have : V.ref c ∈ ns.map V.int := by
    rw [← e]
    simp
  obtain ⟨n, _, q⟩ := List.mem_map.mp this
  cases q
theorem BagC.mv {H H' : Hp} {b c : Addr} (h : BagC H b c) (m : Mv [] H H') : BagC H' b c := by
  obtain ⟨s, m', k, ns, h1, h2, r⟩ := h
  exact ⟨s, m', k, ns, m.same _ _ h1, m.same _ _ h2, r⟩
theorem Bag.mv {H H' : Hp} {b : Addr} (h : Bag H b) (m : Mv [] H H') : Bag H' b := h.elim fun c h => ⟨c, h.mv m⟩
/-- a step that may draw from the bag -/
structure Dr (b : Addr) (H H' : Hp) : Prop where
  mv : Mv [b] H H'
  bagC : ∀ c, BagC H b c → BagC H' b c
section
variable {b p : Addr} {H H' H1 H2 : Hp} {o : HO}
theorem Dr.bag (x : Dr b H H') (h : Bag H b) : Bag H' b := h.elim fun c h => ⟨c, x.bagC c h⟩
theorem Dr.refl : Dr b H H := ⟨.refl, fun _ h => h⟩
theorem Dr.trans (x : Dr b H H1) (y : Dr b H1 H2) : Dr b H H2 := ⟨x.mv.trans y.mv, fun c h => y.bagC c (x.bagC c h)⟩
theorem Dr.of (x : Mv [] H H1) : Dr b H H1 := ⟨x.mono (by simp), fun _ h => h.mv x⟩
theorem Dr.new (h : H p = none) : Dr b H (upd H p o) := .of (.new h)
theorem Dr.free (d : Dr b H H') (hB : Bag H b) (h : H' p = none) : H p = none := by
  cases q : H p with
  | none => rfl
  | some u =>
    by_cases e : p = b
    · subst e
      obtain ⟨xs, hx⟩ := (d.bag hB).lst
      rw [hx] at h
      cases h
    · rw [d.mv.keep p u (by simpa using e) q] at h
      cases h
theorem Dr.get (d : Dr b H H') (hp : p ≠ b) (h : H p = some o) : H' p = some o := d.mv.keep p o (by simpa using hp) h
theorem Dr.wr (d : Dr b H H') (hp : H p = none) : Dr b H (upd H' p o) := by
  refine ⟨d.mv.wr hp, fun c hB => ?_⟩
  obtain ⟨s', m', k', ns', h1', h2', r'⟩ := d.bagC c hB
  obtain ⟨s, m, k, ns, h1, h2, r⟩ := hB
  exact ⟨s', m', k', ns', by rw [upd_ne (ne_of_none h1 hp)]; exact h1', by rw [upd_ne (ne_of_none h2 hp)]; exact h2', r'⟩
theorem Dr.mkc {c : Addr} (m : Mv [b] H H') (h : BagC H b c) (h' : BagC H' b c) : Dr b H H' := ⟨m, fun d k => by
  obtain ⟨_, _, _, _, h1, _⟩ := h
  obtain ⟨_, _, _, _, k1, _⟩ := k
  rw [h1] at k1
  have e := Option.some.inj k1
  injection e with e
  injection e with _ e
  injection e with _ e
  injection e with _ e
  injection e with e _
  injection e with e
  rw [← e]
  exact h'⟩
theorem Bag.fneq (h : Bag H b) (hp : H p = none) : p ≠ b := by
  rintro rfl
  obtain ⟨xs, e⟩ := h.lst
  rw [e] at hp
  cases hp
end

/-! items of a list, by values -/
section
variable {X : Cx}
def rGetL (K : PySem.W.Frag) : V → V → Hp → VK → Prop := fun o i H Q => ∃ (p : Addr) (xs : List V) (j : Nat) (v : V), o = .ref p ∧ i = .int (j : Nat) ∧ SqL K H p xs ∧ xs[j]? = some v ∧ Q v H
theorem get_G : PGet X (rGetL X.K) := by
  intro pins s σ H o i ov iv Q I ro ri h
  obtain ⟨p, xs, j, v, rfl, rfl, hq, he, q⟩ := h
  cases ro
  obtain ⟨t, rfl⟩ := ri
  obtain ⟨its, r, pl, hz⟩ := I.list hq
  obtain ⟨w, ew, rw'⟩ := r.get he
  have hl := r.length
  have hn := line63
  have hj : j < its.length := (List.getElem?_eq_some_iff.mp ew).1
  exact wpAny_getItem_list pl.isList (by omega) (by omega) (by simpa using ew) ⟨v, H, I, rw', q⟩
end
end Fm
namespace Fm
open PySem PySem.Spec PyProof.Rows L2
/-- small letters, one to eight -/
def Nm (x : Str) : Prop := 1 ≤ x.length ∧ x.length ≤ 8 ∧ ∀ c ∈ x.cps.toList, 97 ≤ c ∧ c ≤ 122
instance (x : Str) : Decidable (Nm x) := by unfold Nm; infer_instance
/-! terms -/
inductive Tm where
  | var (i : Int)
  | op (x : Str) (ts : List Tm)
namespace Tm
mutual
def d : Tm → PyData
  | .var i => .int i
  | .op x ts => .tuple (.str x :: ds ts)
def ds : List Tm → List PyData
  | [] => []
  | t :: ts => d t :: ds ts
end
theorem ds_map : ∀ ts : List Tm, ds ts = ts.map d
  | [] => by simp [ds]
  | t :: ts => by simp [ds, ds_map ts]
mutual
def dep : Tm → Nat
  | .var _ => 0
  | .op _ ts => deps ts + 1
def deps : List Tm → Nat
  | [] => 0
  | t :: ts => max (dep t) (deps ts)
end
mutual
/-- how many unknowns stand there -/
def lv : Tm → Nat
  | .var _ => 1
  | .op _ ts => lvs ts
def lvs : List Tm → Nat
  | [] => 0
  | t :: ts => lv t + lvs ts
end
mutual
/-- the unknowns from left to right -/
def leaves : Tm → List Int
  | .var i => [i]
  | .op _ ts => leavesL ts
def leavesL : List Tm → List Int
  | [] => []
  | t :: ts => leaves t ++ leavesL ts
end
mutual
/-- how many operations -/
def size : Tm → Nat
  | .var _ => 0
  | .op _ ts => sizes ts + 1
def sizes : List Tm → Nat
  | [] => 0
  | t :: ts => size t + sizes ts
end
mutual
def put (f : Int → Tm) : Tm → Tm
  | .var i => f i
  | .op x ts => .op x (puts f ts)
def puts (f : Int → Tm) : List Tm → List Tm
  | [] => []
  | t :: ts => put f t :: puts f ts
end
mutual
/-- names are names, at most three parts, the unknowns keep P -/
def ok (P : Int → Prop) : Tm → Prop
  | .var i => P i
  | .op x ts => Nm x ∧ ts.length ≤ 3 ∧ oks P ts
def oks (P : Int → Prop) : List Tm → Prop
  | [] => True
  | t :: ts => ok P t ∧ oks P ts
end
theorem puts_map (f : Int → Tm) : ∀ ts : List Tm, puts f ts = ts.map (put f)
  | [] => by simp [puts]
  | t :: ts => by simp [puts, puts_map f ts]
theorem oks_iff {P : Int → Prop} : ∀ {ts : List Tm}, oks P ts ↔ ∀ t ∈ ts, ok P t
  | [] => by simp [oks]
  | t :: ts => by simp [oks, oks_iff]
theorem deps_le {n : Nat} : ∀ {ts : List Tm}, deps ts ≤ n ↔ ∀ t ∈ ts, dep t ≤ n
  | [] => by simp [deps]
  | t :: ts => by
    have := deps_le (n := n) (ts := ts)
    simp only [deps, List.mem_cons, forall_eq_or_imp, ← this]
    omega
theorem leavesL_append : ∀ ts us : List Tm, leavesL (ts ++ us) = leavesL ts ++ leavesL us
  | [], _ => by simp [leavesL]
  | t :: ts, us => by simp [leavesL, leavesL_append ts us]
theorem sizes_append : ∀ ts us : List Tm, sizes (ts ++ us) = sizes ts + sizes us
  | [], _ => by simp [sizes]
  | t :: ts, us => by
    simp only [List.cons_append, sizes, sizes_append ts us]
    omega
theorem lvs_append : ∀ ts us : List Tm, lvs (ts ++ us) = lvs ts + lvs us
  | [], _ => by simp [lvs]
  | t :: ts, us => by
    simp only [List.cons_append, lvs, lvs_append ts us]
    omega
mutual
theorem leaves_len : ∀ t : Tm, (leaves t).length = lv t
  | .var _ => by simp [leaves, lv]
  | .op _ ts => by simp [leaves, lv, leavesL_len ts]
theorem leavesL_len : ∀ ts : List Tm, (leavesL ts).length = lvs ts
  | [] => by simp [leavesL, lvs]
  | t :: ts => by simp [leavesL, lvs, leaves_len t, leavesL_len ts]
end
mutual
theorem ok_leaves {P : Int → Prop} : ∀ t : Tm, ok P t → ∀ i ∈ leaves t, P i
  | .var j, h, i, hi => by
    simp only [leaves, List.mem_singleton] at hi
    rw [hi]
    exact h
  | .op _ ts, h, i, hi => oks_leaves ts h.2.2 i (by simpa [leaves] using hi)
theorem oks_leaves {P : Int → Prop} : ∀ ts : List Tm, oks P ts → ∀ i ∈ leavesL ts, P i
  | [], _, i, hi => by simp [leavesL] at hi
  | t :: ts, h, i, hi => by
    rcases List.mem_append.mp (show i ∈ leaves t ++ leavesL ts by simpa [leavesL] using hi) with hi | hi
    · exact ok_leaves t h.1 i hi
    · exact oks_leaves ts h.2 i hi
end
mutual
theorem ok_mono {P R : Int → Prop} (h : ∀ i, P i → R i) : ∀ t : Tm, ok P t → ok R t
  | .var i, k => h i k
  | .op _ ts, k => ⟨k.1, k.2.1, oks_mono h ts k.2.2⟩
theorem oks_mono {P R : Int → Prop} (h : ∀ i, P i → R i) : ∀ ts : List Tm, oks P ts → oks R ts
  | [], _ => trivial
  | t :: ts, k => ⟨ok_mono h t k.1, oks_mono h ts k.2⟩
end
mutual
theorem ok_put {P R : Int → Prop} {f : Int → Tm} (h : ∀ i, P i → ok R (f i)) : ∀ t : Tm, ok P t → ok R (put f t)
  | .var i, k => h i k
  | .op _ ts, k => by
    refine ⟨k.1, ?_, oks_puts h ts k.2.2⟩
    rw [puts_map, List.length_map]
    exact k.2.1
theorem oks_puts {P R : Int → Prop} {f : Int → Tm} (h : ∀ i, P i → ok R (f i)) : ∀ ts : List Tm, oks P ts → oks R (puts f ts)
  | [], _ => trivial
  | t :: ts, k => ⟨ok_put h t k.1, oks_puts h ts k.2⟩
end
mutual
theorem dep_put {P : Int → Prop} {f : Int → Tm} {n : Nat} (h : ∀ i, P i → dep (f i) ≤ n) : ∀ t : Tm, ok P t → dep (put f t) ≤ dep t + n
  | .var i, k => by simpa [put, dep] using h i k
  | .op _ ts, k => by
    have := deps_puts h ts k.2.2
    simp only [put, dep]
    omega
theorem deps_puts {P : Int → Prop} {f : Int → Tm} {n : Nat} (h : ∀ i, P i → dep (f i) ≤ n) : ∀ ts : List Tm, oks P ts → deps (puts f ts) ≤ deps ts + n
  | [], _ => by simp [puts, deps]
  | t :: ts, k => by
    have h1 := dep_put h t k.1
    have h2 := deps_puts h ts k.2
    simp only [puts, deps]
    omega
end
mutual
/-- what a term's text may come to, without its unknowns' figures -/
def cst : Tm → Nat
  | .var _ => 0
  | .op _ ts => csts ts + 90
def csts : List Tm → Nat
  | [] => 0
  | t :: ts => cst t + 2 + csts ts
end
mutual
theorem cst_put {P : Int → Prop} {f : Int → Tm} {c : Nat} (h : ∀ i, P i → cst (f i) ≤ c) : ∀ t : Tm, ok P t → cst (put f t) ≤ cst t + lv t * c
  | .var i, k => by simpa [put, cst, lv] using h i k
  | .op _ ts, k => by
    have := csts_puts h ts k.2.2
    simp only [put, cst, lv]
    omega
theorem csts_puts {P : Int → Prop} {f : Int → Tm} {c : Nat} (h : ∀ i, P i → cst (f i) ≤ c) : ∀ ts : List Tm, oks P ts → csts (puts f ts) ≤ csts ts + lvs ts * c
  | [], _ => by simp [puts, csts]
  | t :: ts, k => by
    have h1 := cst_put h t k.1
    have h2 := csts_puts h ts k.2
    simp only [puts, csts, lvs, Nat.add_mul]
    omega
end
mutual
theorem lv_put {P : Int → Prop} {f : Int → Tm} {c : Nat} (h : ∀ i, P i → lv (f i) ≤ c) : ∀ t : Tm, ok P t → lv (put f t) ≤ lv t * c
  | .var i, k => by simpa [put, lv] using h i k
  | .op _ ts, k => by simpa [put, lv] using lvs_puts h ts k.2.2
theorem lvs_puts {P : Int → Prop} {f : Int → Tm} {c : Nat} (h : ∀ i, P i → lv (f i) ≤ c) : ∀ ts : List Tm, oks P ts → lvs (puts f ts) ≤ lvs ts * c
  | [], _ => by simp [puts, lvs]
  | t :: ts, k => by
    have h1 := lv_put h t k.1
    have h2 := lvs_puts h ts k.2
    simp only [puts, lvs, Nat.add_mul]
    omega
end
mutual
theorem put_congr {f g : Int → Tm} : ∀ t : Tm, (∀ i ∈ leaves t, f i = g i) → put f t = put g t
  | .var i, h => h i (by simp [leaves])
  | .op x ts, h => by
    show Tm.op x (puts f ts) = .op x (puts g ts)
    rw [puts_congr ts fun i hi => h i (by simpa [leaves] using hi)]
theorem puts_congr {f g : Int → Tm} : ∀ ts : List Tm, (∀ i ∈ leavesL ts, f i = g i) → puts f ts = puts g ts
  | [], _ => rfl
  | t :: ts, h => by
    show put f t :: puts f ts = put g t :: puts g ts
    rw [put_congr t fun i hi => h i (by simp [leavesL, hi]), puts_congr ts fun i hi => h i (by simp [leavesL, hi])]
end
/-- trees of bounded depth are small -/
theorem small {P : Int → Prop} : ∀ (n : Nat) (t : Tm), ok P t → dep t ≤ n → lv t ≤ 3 ^ n ∧ cst t + 48 ≤ 48 * 3 ^ n
  | 0, .var i, _, _ => by simp [lv, cst]
  | 0, .op x ts, _, h => by simp [dep] at h
  | n + 1, .var i, _, _ => by
    have := Nat.one_le_pow (n + 1) 3 (by decide)
    simp only [lv, cst]
    omega
  | n + 1, .op x ts, k, h => by
    have hd : ∀ t ∈ ts, dep t ≤ n := deps_le.mp (by simp only [dep] at h; omega)
    have ho := oks_iff.mp k.2.2
    have hl := k.2.1
    have ih : ∀ t ∈ ts, lv t ≤ 3 ^ n ∧ cst t + 48 ≤ 48 * 3 ^ n := fun t ht => small n t (ho t ht) (hd t ht)
    have h1 := Nat.one_le_pow n 3 (by decide)
    rw [Nat.pow_succ]
    simp only [lv, cst]
    match ts, hl, ih with
    | [], _, _ => simp only [lvs, csts]; omega
    | [a], _, ih =>
      have := ih a (by simp)
      simp only [lvs, csts]; omega
    | [a, b], _, ih =>
      have := ih a (by simp)
      have := ih b (by simp)
      simp only [lvs, csts]; omega
    | [a, b, c], _, ih =>
      have := ih a (by simp)
      have := ih b (by simp)
      have := ih c (by simp)
      simp only [lvs, csts]; omega
end Tm
mutual
theorem imm_d : ∀ t : Tm, imm t.d = true
  | .var _ => by simp [Tm.d, imm]
  | .op _ ts => by simp [Tm.d, imm, immAll, imm_ds ts]
theorem imm_ds : ∀ ts : List Tm, immAll (Tm.ds ts) = true
  | [] => by simp [Tm.ds, immAll]
  | t :: ts => by simp [Tm.ds, immAll, imm_d t, imm_ds ts]
end
end Fm
namespace Fm
open PySem PySem.Spec PyProof.Rows L2
/-! what is worth a value, the heap as it is -/
structure TV (t : TE) (σ : L2.St) (H : Hp) (v : V) : Prop where
  go : ∀ Q : VK, Q v H → t σ H Q
structure TB (t : TT) (σ : L2.St) (H : Hp) (b : Bool) : Prop where
  go : ∀ Q : Bool → Hp → Prop, Q b H → t σ H Q
theorem vint_eq {i j : Int} : decide (V.int i = V.int j) = decide (i = j) := by
  by_cases e : i = j
  · rw [e, decide_eq_true rfl, decide_eq_true rfl]
  · rw [decide_eq_false e, decide_eq_false fun z => e (V.int.inj z)]
section
variable {K : PySem.W.Frag} {σ : L2.St} {H : Hp} {ta tb : TE} {t u : TT} {a b : Bool} {i j : Int} {x y v : V} {Q : VK}
theorem tv_var {m : Nat} (h : σ[m]? = some (some v)) : TV (tVar m) σ H v := ⟨fun Q q => ⟨v, h, q⟩⟩
theorem tv_c : TV (tC v) σ H v := ⟨fun Q q => q⟩
theorem tv_I {g : Int → Int → V} (ha : TV ta σ H (.int i)) (hb : TV tb σ H (.int j)) : TV (tOp (rI0 g) ta tb) σ H (g i j) := ⟨fun Q q => ha.go _ (hb.go _ ⟨i, j, rfl, rfl, q⟩)⟩
theorem tv_eq (ha : TV ta σ H x) (hb : TV tb σ H y) (hs : scal x y = true) : TV (tOp (rEqG K) ta tb) σ H (.bl (decide (x = y))) := ⟨fun Q q => ha.go _ (hb.go _ (Or.inl ⟨hs, q⟩))⟩
theorem tv_ne (ha : TV ta σ H x) (hb : TV tb σ H y) (hs : scal x y = true) : TV (tOp (rNeG K) ta tb) σ H (.bl (!decide (x = y))) := ⟨fun Q q => ha.go _ (hb.go _ (Or.inl ⟨hs, q⟩))⟩
theorem tv_eqI (ha : TV ta σ H (.int i)) (hb : TV tb σ H (.int j)) : TV (tOp (rEqG K) ta tb) σ H (.bl (decide (i = j))) := by
  rw [← vint_eq]
  exact tv_eq ha hb rfl
theorem tv_neI (ha : TV ta σ H (.int i)) (hb : TV tb σ H (.int j)) : TV (tOp (rNeG K) ta tb) σ H (.bl (!decide (i = j))) := by
  rw [← vint_eq]
  exact tv_ne ha hb rfl
theorem tb_test (h : TV ta σ H (.bl a)) : TB (tTest ta) σ H a := ⟨fun Q q => h.go _ ⟨a, rfl, q⟩⟩
theorem tb_B (h : TV ta σ H (.bl a)) : TB (tB ta) σ H a := ⟨fun Q q => h.go _ ⟨a, rfl, q⟩⟩
theorem tb_and (h : TB t σ H a) (k : TB u σ H b) : TB (tAnd t u) σ H (a && b) := ⟨fun Q q => h.go _ (by
  cases a with
  | true => exact k.go _ q
  | false => exact q)⟩
theorem tb_or (h : TB t σ H a) (k : TB u σ H b) : TB (tOr t u) σ H (a || b) := ⟨fun Q q => h.go _ (by
  cases a with
  | true => exact q
  | false => exact k.go _ q)⟩
theorem tb_not (h : TB t σ H a) : TB (tNot t) σ H (!a) := ⟨fun Q q => h.go _ q⟩
theorem tv_is {w : V} (h : TV ta σ H v) (e : v = w) : TV ta σ H w := by rw [← e]; exact h
theorem st_if {c : TT} {t u : TS} {D : Ends} (h : TB c σ H b) (h1 : b = true → t D σ H) (h2 : b = false → u D σ H) : tIfS c t u D σ H := h.go _ (by
  cases b with
  | true => exact h1 rfl
  | false => exact h2 rfl)
theorem te_if {c : TT} (h : TB c σ H b) (h1 : b = true → ta σ H Q) (h2 : b = false → tb σ H Q) : tIf c ta tb σ H Q := h.go _ (by
  cases b with
  | true => exact h1 rfl
  | false => exact h2 rfl)
/-- isinstance(x, int) of data -/
def isInt : PyData → Bool
  | .int _ => true
  | .bool _ => true
  | _ => false
theorem tyx_dp {d : PyData} (h : Dp K H v d) (hd : imm d = true) : ∃ t : String, TyX K H v (.type t) ∧ (t = "int" ∧ (∃ i, d = .int i) ∨ t = "bool" ∧ (∃ b, d = .bool b) ∨ t = "str" ∧ (∃ x, d = .str x) ∨ t = "NoneType" ∧ d = .none ∨ t = "tuple" ∧ (∃ ds, d = .tuple ds)) := by
  cases h with
  | non => exact ⟨_, .base .non, .inr (.inr (.inr (.inl ⟨rfl, rfl⟩)))⟩
  | bl b => exact ⟨_, .base (.bl b), .inr (.inl ⟨rfl, b, rfl⟩)⟩
  | int i => exact ⟨_, .base (.int i), .inl ⟨rfl, i, rfl⟩⟩
  | str x => exact ⟨_, .base (.str x), .inr (.inr (.inl ⟨rfl, x, rfl⟩))⟩
  | lst h1 h2 => simp [imm] at hd
  | tup h1 h2 =>
    refine ⟨"tuple", ?_, .inr (.inr (.inr (.inr ⟨rfl, _, rfl⟩)))⟩
    rcases h1 with (h1 | ⟨o, h1⟩) | ⟨o, its, n, hk, hc, _⟩
    · exact .base (.tup h1)
    · exact .fTuple h1
    · exact .kTuple hk hc
theorem kit_i1 : kitB "int" "int" = some true := by decide +kernel
theorem kit_i2 : kitB "bool" "int" = some true := by decide +kernel
theorem kit_i3 : kitB "str" "int" = some false := by decide +kernel
theorem kit_i4 : kitB "NoneType" "int" = some false := by decide +kernel
theorem kit_i5 : kitB "tuple" "int" = some false := by decide +kernel
theorem rd_isInt {d : PyData} (h : Im K H v d) (q : Q (.bl (isInt d)) H) : rIsi K [v, .ty "int"] H Q := by
  obtain ⟨t, ht, k⟩ := tyx_dp h.dp h.im
  refine ⟨v, .ty "int", _, _, isInt d, rfl, .ty "int", ht, ?_, q⟩
  rcases k with ⟨rfl, i, rfl⟩ | ⟨rfl, i, rfl⟩ | ⟨rfl, i, rfl⟩ | ⟨rfl, rfl⟩ | ⟨rfl, i, rfl⟩
  · exact kit_ty kit_i1
  · exact kit_ty kit_i2
  · exact kit_ty kit_i3
  · exact kit_ty kit_i4
  · exact kit_ty kit_i5
/-- t + u of tuples -/
theorem rd_cat {a b : Addr} {xs ys : List V} (ha : SqT K H a xs) (hb : SqT K H b ys) (hs : xs.length + ys.length ≤ sizeLine)
    (h : ∀ p H', Mv [] H H' → SqT K H' p (xs ++ ys) → Q (.ref p) H') : rAddG K (.ref a) (.ref b) H Q := by
  refine Or.inr (Or.inr (Or.inl ⟨a, b, xs, ys, rfl, rfl, ha, hb, hs, fun e => ?_, fun _ e => ?_, fun _ _ p np => ?_⟩))
  · subst e
    exact h b H .refl hb
  · subst e
    exact h a H .refl (by rw [List.append_nil]; exact ha)
  · exact h p _ (.new np) (.inl (.inl upd_same))
/-- list + list -/
theorem rd_catL {a b : Addr} {xs ys : List V} (ha : H a = some (.lst xs)) (hb : H b = some (.lst ys)) (hs : xs.length + ys.length ≤ sizeLine)
    (h : ∀ p H', H p = none → Mv [] H H' → H' p = some (.lst (xs ++ ys)) → Q (.ref p) H') : rAddG K (.ref a) (.ref b) H Q :=
  Or.inr (Or.inr (Or.inr ⟨a, b, xs, ys, rfl, rfl, ha, hb, hs, fun p np => h p _ np (.new np) upd_same⟩))
/-- an item of a list -/
theorem rd_ixL {a : Addr} {xs : List V} {i : Int} {v : V} (ha : SqL K H a xs) (h0 : 0 ≤ i) (hv : xs[i.toNat]? = some v) (h : Q v H) : rIx K (.ref a) (.int i) H Q := by
  obtain ⟨j, rfl⟩ := Int.eq_ofNat_of_zero_le h0
  exact Or.inl ⟨a, xs, j, v, rfl, rfl, ha, atI_nat hv, h⟩
theorem rd_ixT {a : Addr} {xs : List V} {i : Int} {v : V} (ha : SqT K H a xs) (h0 : 0 ≤ i) (hv : xs[i.toNat]? = some v) (h : Q v H) : rIx K (.ref a) (.int i) H Q := by
  obtain ⟨j, rfl⟩ := Int.eq_ofNat_of_zero_le h0
  exact Or.inr (Or.inl ⟨a, xs, j, v, rfl, rfl, ha, atI_nat hv, h⟩)
theorem rd_len {a : Addr} {xs : List V} (ha : SqL K H a xs ∨ SqT K H a xs) (h : Q (.int xs.length) H) : rLenG K [.ref a] H Q := Or.inl ⟨a, xs, rfl, ha, h⟩
/-- tuple(list) -/
theorem rd_tupOf {a : Addr} {xs : List V} (ha : SqL K H a xs) (h : ∀ p H', Mv [] H H' → SqT K H' p xs → Q (.ref p) H') : rTupOf K [.ref a] H Q :=
  ⟨a, xs, rfl, .inl ⟨ha, fun p np => h p _ (.new np) (.inl (.inl upd_same))⟩⟩
/-- list(x) -/
theorem rd_listOf {a : Addr} {xs : List V} (ha : SqL K H a xs ∨ SqT K H a xs) (h : ∀ p H', H p = none → Mv [] H H' → H' p = some (.lst xs) → Q (.ref p) H') : rListOf K [.ref a] H Q :=
  ⟨a, xs, rfl, ha, fun p np => h p _ np (.new np) upd_same⟩
/-- a written tuple, a written list -/
theorem rd_tup {ta : TA} (h : ta σ H fun xs H1 => xs.length ≤ sizeLine ∧ ∀ p H', H1 p = none → Mv [] H1 H' → SqT K H' p xs → Q (.ref p) H') (mono : ∀ {R S : List V → Hp → Prop}, (∀ xs H1, R xs H1 → S xs H1) → ta σ H R → ta σ H S) : tTup ta σ H Q :=
  mono (fun xs H1 k => ⟨k.1, fun p np => k.2 p _ np (.new np) (.inl (.inl upd_same))⟩) h
/-- t[1:], t[:1] of a tuple that is not empty -/
theorem rd_sl1 {a : Addr} {x : V} {xs : List V} (ha : SqT K H a (x :: xs)) (h : ∀ p H', Mv [] H H' → SqT K H' p xs → Q (.ref p) H') : rSlG K (.ref a) (some 1) none H Q := by
  have e : HT.sIx (x :: xs).length 0 (some 1) = 1 := by
    rw [show HT.sIx (x :: xs).length 0 (some 1) = min 1 (x :: xs).length from HT.sIx_nat _ 0 1, List.length_cons]
    omega
  refine Or.inr (Or.inl ⟨a, x :: xs, rfl, ha, fun z => ?_, fun _ p np => h p _ (.new np) (.inl (.inl ?_))⟩)
  · rw [e] at z
    omega
  · rw [upd_same]
    unfold cutV
    rw [e, HT.sIx_none, List.length_cons, Nat.add_sub_cancel]
    show some (HO.tup (xs.take xs.length)) = _
    rw [List.take_length]
theorem rd_slA {a : Addr} {x : V} {xs : List V} (ha : SqT K H a (x :: xs)) (h : ∀ p H', Mv [] H H' → SqT K H' p [x] → Q (.ref p) H') : rSlG K (.ref a) none (some 1) H Q := by
  have e : HT.sIx (x :: xs).length (x :: xs).length (some 1) = 1 := by
    rw [show HT.sIx (x :: xs).length (x :: xs).length (some 1) = min 1 (x :: xs).length from HT.sIx_nat _ _ 1, List.length_cons]
    omega
  refine Or.inr (Or.inl ⟨a, x :: xs, rfl, ha, fun z => ?_, fun _ p np => h p _ (.new np) (.inl (.inl ?_))⟩)
  · rw [e] at z
    have e0 : xs = [] := by
      cases xs with
      | nil => rfl
      | cons y ys =>
        have := z.2
        simp at this
    subst e0
    exact h a H .refl ha
  · rw [upd_same]
    unfold cutV
    rw [e, HT.sIx_none]
    rfl
end

/-! loops over a list or a tuple that stays -/
section
variable {K : PySem.W.Frag} {a : Addr} {xs : List V}
theorem for_seq {g : TG} {tb : TS} {D : Ends} {σ : L2.St} {H : Hp} (hS : SqL K H a xs ∨ SqT K H a xs) (Pv : Nat → L2.St → Hp → Prop) (h0 : Pv 0 σ H) (hk : ∀ i σ' H', Pv i σ' H' → Mv [] H H')
    (hs : ∀ i x σ' H', xs[i]? = some x → Pv i σ' H' → g x σ' H' fun σ2 H2 => tb { D with nx := Pv (i + 1), ct := Pv (i + 1), bk := D.nx } σ2 H2) (hd : ∀ σ' H', Pv xs.length σ' H' → D.nx σ' H') :
    ((∃ xs, SqL K H a xs) ∧ ∃ W : Nat → Nat → L2.St → Hp → Prop, (∃ m, W 0 m σ H) ∧ ∀ i m σ H, W i m σ H →
      ((Itl K a).stop i H ∧ D.nx σ H) ∨ ((Itl K a).go i H ∧ ∃ N : L2.St → Hp → Prop, (∀ σ' H', N σ' H' → ∃ m', m' < m ∧ W (i + 1) m' σ' H') ∧ ∀ x H', (Itl K a).yld i H x H' → g x σ H' fun σ2 H2 => tb { D with nx := N, ct := N, bk := D.nx } σ2 H2)) ∨
    ((∃ xs, SqT K H a xs) ∧ ∃ W : Nat → Nat → L2.St → Hp → Prop, (∃ m, W 0 m σ H) ∧ ∀ i m σ H, W i m σ H →
      ((Itt K a).stop i H ∧ D.nx σ H) ∨ ((Itt K a).go i H ∧ ∃ N : L2.St → Hp → Prop, (∀ σ' H', N σ' H' → ∃ m', m' < m ∧ W (i + 1) m' σ' H') ∧ ∀ x H', (Itt K a).yld i H x H' → g x σ H' fun σ2 H2 => tb { D with nx := N, ct := N, bk := D.nx } σ2 H2)) := by
  rcases hS with hS | hS
  · exact .inl ⟨⟨xs, hS⟩, for_list Pv h0 (fun i σ' H' _ p => (hk i σ' H' p).same.seq hS) hs hd⟩
  · exact .inr ⟨⟨xs, hS⟩, for_tup Pv h0 (fun i σ' H' _ p => (hk i σ' H' p).sqT hS) hs hd⟩
theorem lc_seq {g : TG} {tt : TT} {te : TE} {vs : List Nat} {σ : L2.St} {H : Hp} {Qd : Addr → Hp → Prop} (hS : SqL K H a xs ∨ SqT K H a xs) (Pv : Nat → Addr → Hp → Prop) (h0 : ∀ D, H D = none → Pv 0 D (upd H D (.lst [])))
    (hk : ∀ i D H', H D = none → Pv i D H' → Mv [] H H')
    (hs : ∀ D, H D = none → ∀ i x H', xs[i]? = some x → Pv i D H' → g x (wipe σ vs) H' fun σ2 H2 => wipe σ2 vs = wipe σ vs ∧ tt σ2 H2 fun b H3 =>
      if b = true then te σ2 H3 fun y H4 => ∃ acc, H4 D = some (.lst acc) ∧ acc.length < sizeLine ∧ Pv (i + 1) D (upd H4 D (.lst (acc ++ [y]))) else Pv (i + 1) D H3) (hd : ∀ D H', H D = none → Pv xs.length D H' → Qd D H') :
    ((∃ xs, SqL K H a xs) ∧ ∀ D, H D = none → ∃ W : Nat → Nat → Hp → Prop, (∃ m, W 0 m (upd H D (.lst []))) ∧ ∀ i m H, W i m H →
      ((Itl K a).stop i H ∧ Qd D H) ∨ ((Itl K a).go i H ∧ ∃ Nx : Hp → Prop, (∀ H', Nx H' → ∃ m', m' < m ∧ W (i + 1) m' H') ∧ ∀ x H', (Itl K a).yld i H x H' → g x (wipe σ vs) H' fun σ2 H2 => wipe σ2 vs = wipe σ vs ∧ tt σ2 H2 fun b H3 =>
        if b = true then te σ2 H3 fun y H4 => ∃ acc, H4 D = some (.lst acc) ∧ acc.length < sizeLine ∧ Nx (upd H4 D (.lst (acc ++ [y]))) else Nx H3)) ∨
    ((∃ xs, SqT K H a xs) ∧ ∀ D, H D = none → ∃ W : Nat → Nat → Hp → Prop, (∃ m, W 0 m (upd H D (.lst []))) ∧ ∀ i m H, W i m H →
      ((Itt K a).stop i H ∧ Qd D H) ∨ ((Itt K a).go i H ∧ ∃ Nx : Hp → Prop, (∀ H', Nx H' → ∃ m', m' < m ∧ W (i + 1) m' H') ∧ ∀ x H', (Itt K a).yld i H x H' → g x (wipe σ vs) H' fun σ2 H2 => wipe σ2 vs = wipe σ vs ∧ tt σ2 H2 fun b H3 =>
        if b = true then te σ2 H3 fun y H4 => ∃ acc, H4 D = some (.lst acc) ∧ acc.length < sizeLine ∧ Nx (upd H4 D (.lst (acc ++ [y]))) else Nx H3)) := by
  rcases hS with hS | hS
  · exact .inl ⟨⟨xs, hS⟩, fun D nD => lc_list (Pv · D) (h0 D nD) (fun i H' _ p => (hk i D H' nD p).same.seq hS) (hs D nD) (fun H' p => hd D H' nD p)⟩
  · exact .inr ⟨⟨xs, hS⟩, fun D nD => lc_tup (Pv · D) (h0 D nD) (fun i H' _ p => (hk i D H' nD p).sqT hS) (hs D nD) (fun H' p => hd D H' nD p)⟩
end
section
variable {K : PySem.W.Frag} {H : Hp} {Q : VK}
theorem rd_slT {a : Addr} {xs : List V} {lo hi : Option Int} (ha : SqT K H a xs) (h : ∀ p H', Mv [] H H' → SqT K H' p (cutV xs lo hi) → Q (.ref p) H') : rSlG K (.ref a) lo hi H Q := by
  refine Or.inr (Or.inl ⟨a, xs, rfl, ha, fun z => h a H .refl ?_, fun _ p np => h p _ (.new np) (.inl (.inl upd_same))⟩)
  have e : cutV xs lo hi = xs := by
    unfold cutV
    rw [z.1, z.2, List.drop_zero, Nat.sub_zero, List.take_length]
  rw [e]
  exact ha
theorem cut_hi (xs : List V) (k : Nat) : cutV xs none (some (k : Int)) = xs.take k := by
  unfold cutV
  rw [HT.sIx_none, HT.sIx_nat, List.drop_zero, Nat.sub_zero, List.take_eq_take_iff]
  omega
theorem cut_lo (xs : List V) (k : Nat) : cutV xs (some (k : Int)) none = xs.drop k := by
  unfold cutV
  rw [HT.sIx_none, HT.sIx_nat]
  by_cases h : k ≤ xs.length
  · rw [Nat.min_eq_left h, List.take_of_length_le (by rw [List.length_drop]; omega)]
  · rw [Nat.min_eq_right (by omega), List.drop_of_length_le (Nat.le_refl _), List.drop_of_length_le (by omega)]
    simp
end
end Fm
namespace Fm
open PySem PySem.Spec PyProof.Rows L2 HT
/-! t[:0:-1] of a tuple -/
section
variable {prog : Program} {w : World} {A : Around} {E : Value → Shared → Prop} {s : Shared}
theorem back_adjust (n : Nat) : Builtin.Slice.sliceAdjust none (some 0) (-1) (n : Int) = ((n : Int) - 1, min 0 ((n : Int) - 1)) := by
  unfold Builtin.Slice.sliceAdjust
  simp only [show ((-1 : Int) < 0) from by decide, if_true, show ¬ ((0 : Int) < 0) from by decide, if_false]
theorem back_places (n : Nat) : Builtin.Slice.slicePlaces ((n : Int) - 1) (min 0 ((n : Int) - 1)) (-1) = n - 1 := by
  unfold Builtin.Slice.slicePlaces
  simp only [show ¬ ((-1 : Int) > 0) from by decide, if_false, show (- -1 : Int) = 1 from by decide, Int.ediv_one]
  split <;> omega
theorem back_applied {sl : Addr} {vu vs : Value} {n : Nat} {Q : Int × Int × Nat → Shared → Prop} (hs : s.heap.IsSliceOf sl .none vu vs) (pu : IsPart vu (some 0)) (ps : IsPart vs (some (-1)))
    (h : Q ((n : Int) - 1, -1, n - 1) s) : wpAny (model prog w) A (Builtin.Slice.sliceApplied (.ref sl) (pure (n : Int))) Q E s := by
  obtain ⟨os, hos, hcs, hds⟩ := id hs
  unfold Builtin.Slice.sliceApplied Builtin.Slice.sliceFields
  refine wpAny_bind (wpAny_bind (wpAny_field hos hds (x := .none) rfl (wpAny_bind (wpAny_field hos hds (x := vu) rfl (wpAny_bind (wpAny_field hos hds (x := vs) rfl (wpAny_pure ?_)))))))
  refine wpAny_bind (slicePart_ ps ?_)
  show wpAny _ _ (if ((-1 : Int) == 0) = true then _ else _) _ _ s
  rw [if_neg (by decide)]
  refine wpAny_bind (slicePart_none (wpAny_bind (slicePart_ pu (wpAny_bind (wpAny_pure ?_)))))
  show wpAny _ _ (match Builtin.Slice.sliceAdjust none (some 0) (-1) (n : Int) with | (lo, hi) => pure (lo, (-1 : Int), Builtin.Slice.slicePlaces lo hi (-1))) _ _ s
  rw [back_adjust n]
  show wpAny _ _ (pure ((n : Int) - 1, (-1 : Int), Builtin.Slice.slicePlaces ((n : Int) - 1) (min 0 ((n : Int) - 1)) (-1))) _ _ s
  rw [back_places]
  exact wpAny_pure h
theorem fm_congr {α β : Type} {f g : α → Option β} : ∀ {l : List α}, (∀ m ∈ l, f m = g m) → l.filterMap f = l.filterMap g
  | [], _ => rfl
  | x :: l, h => by
    rw [List.filterMap_cons, List.filterMap_cons, h x List.mem_cons_self, fm_congr fun m hm => h m (List.mem_cons_of_mem _ hm)]
theorem back_pick (y : Value) (l : List Value) : ((List.range l.length).filterMap fun (m : Nat) => (y :: l).toArray[((((y :: l).toArray.size : Nat) : Int) - 1 + (m : Int) * (-1)).toNat]?).toArray = l.reverse.toArray := by
  congr 1
  have e : ∀ m ∈ List.range l.length, (y :: l).toArray[((((y :: l).toArray.size : Nat) : Int) - 1 + (m : Int) * (-1)).toNat]? = l[l.length - 1 - m]? := by
    intro m hm
    have hm := List.mem_range.mp hm
    have e1 : ((((y :: l).toArray.size : Nat) : Int) - 1 + (m : Int) * (-1)).toNat = (l.length - 1 - m) + 1 := by
      simp only [List.size_toArray, List.length_cons]
      omega
    rw [e1]
    simp
  rw [fm_congr e]
  apply List.ext_getElem?
  intro i
  have e2 : (List.range l.length).filterMap (fun m => l[l.length - 1 - m]?) = (List.range l.length).filterMap (fun m => l.reverse[m]?) := by
    apply fm_congr
    intro m hm
    have hm := List.mem_range.mp hm
    rw [List.getElem?_reverse hm]
  rw [e2]
  have e3 : (List.range l.length).filterMap (fun m => l.reverse[m]?) = l.reverse := by
    have := PySem.W.krv_all l.reverse.toArray
    simpa using this
  rw [e3]
theorem getItem_back {t sl : Addr} {y : Value} {l : List Value} {vu vs : Value} {Q : Value → Shared → Prop} (ht : IsTup s.heap t (y :: l).toArray) (hs : s.heap.IsSliceOf sl .none vu vs) (pu : IsPart vu (some 0)) (ps : IsPart vs (some (-1)))
    (hz : l.length ≤ sizeLine) (h : Q (.ref s.heap.objs.size) { s with heap := s.heap.push { cls := .type "tuple", data := .seq l.reverse.toArray } }) : wpAny (model prog w) A (getItem (.ref t) (.ref sl)) Q E s := by
  obtain ⟨os, hos, hcs, hds⟩ := id hs
  have hTs : s.TypeIs (.ref sl) "slice" := ⟨os, hos, hcs⟩
  have hfit : sizeOk (.seq l.reverse.toArray) := by
    show l.reverse.toArray.size ≤ sizeLine
    rw [List.size_toArray, List.length_reverse]
    exact hz
  unfold getItem
  try with_reducible refine wpAny_holding ?_
  first | refine wpAny_bind (wpAny_pure ?_) | skip
  refine wpAny_bind (wpAny_sequenceKey ht.typeIs (by decide) ?_)
  refine wpAny_bind (wpAny_callSpecial?_slot (name := Str.ofString "__getitem__") ht.typeIs PyProof.Rows.slot_tuple_getitem
    (wpAny_call_entry PyProof.Rows.slot_tuple_getitem ht.typeIs entry_tuple_getitem ?_ (args_tuple_getitem _ _)))
  show wpAny _ _ (Builtin.Tuple.tupleItemsOf (.ref t) >>= _) _ _ s
  refine wpAny_bind (tupleItemsOf_ ht (wpAny_bind (wpAny_typeOf hTs ?_)))
  rw [if_pos (by decide)]
  refine wpAny_bind (back_applied hs pu ps ?_)
  have hno : ¬ (((((y :: l).toArray.size : Nat) : Int) - 1 == 0 && (-1 : Int) == 1 && ((y :: l).toArray.size - 1) == (y :: l).toArray.size) = true) := by
    simp
  show wpAny _ _ (if ((((y :: l).toArray.size : Nat) : Int) - 1 == 0 && (-1 : Int) == 1 && ((y :: l).toArray.size - 1) == (y :: l).toArray.size) = true then _ else _) _ _ s
  rw [if_neg hno]
  have e : (y :: l).toArray.size - 1 = l.length := by simp
  rw [e, back_pick]
  first
    | exact wpAny_bind (m := Builtin.Tuple.tupleExact _) (wpAny_newObj_type (wpAny_pure ⟨_, rfl, wpAny_pure h⟩) hfit)
    | exact wpAny_bind (m := Builtin.Tuple.tupleExact _) (wpAny_newObj_type (wpAny_bind (wpAny_pure (wpAny_pure ⟨_, rfl, wpAny_pure h⟩))) hfit)
    | exact wpAny_bind (wpAny_bind (m := Builtin.Tuple.tupleExact _) (wpAny_newObj_type (wpAny_pure (wpAny_pure ⟨_, rfl, wpAny_pure h⟩)) hfit))
    | exact wpAny_bind (wpAny_bind (m := Builtin.Tuple.tupleExact _) (wpAny_newObj_type (wpAny_pure ⟨_, rfl, wpAny_pure h⟩) hfit))
end
section
variable {X : Cx}
def tBack (K : PySem.W.Frag) (te : TE) : TE := fun σ H Q => te σ H fun x H1 => ∃ a y ys, x = .ref a ∧ SqT K H1 a (y :: ys) ∧ ∀ p, H1 p = none → Q (.ref p) (upd H1 p (.tup ys.reverse))
theorem pe_slice3 {e : Expr} {te : TE} {k k0 : Nat} {p0 p1 p2 p3 pos : Pos} (he : PE X e te) :
    PE X (.Subscript e (.Slice none (some (.Constant (.int 0) k0 p0)) (some (.UnaryOp .USub (.Constant (.int 1) k p1) p2)) p3) pos) (tBack X.K te) := by
  refine ⟨fun pins s σ H Q I h => Subscript_ (thn (he.run pins s σ H _ I h) ?_)⟩
  rintro v s1 ⟨x, H1, I1, r1, a, y, ys, rfl, hx, q⟩
  cases r1
  have hup : PO X (some (.Constant (.int 0) k0 p0)) (tPart (tC (.int 0))) := po_some pe_int
  have hst : PO X (some (.UnaryOp .USub (.Constant (.int 1) k p1) p2)) (tPart (tUn (rU fun i => .int (-i)) (tC (.int 1)))) := po_some (pe_un un_neg pe_int)
  refine wpAny_Slice (thn (po_none.run pins s1 σ H1 (fun o H2 => o = none ∧ H2 = H1) I1 ⟨rfl, rfl⟩) ?_)
  rintro vl s2 ⟨l, H2, I2, pl, rfl, rfl⟩
  refine thn (hup.run pins s2 σ H2 (fun o H3 => o = some 0 ∧ H3 = H2) I2 ⟨0, rfl, rfl, rfl⟩) ?_
  rintro vu s3 ⟨u, H3, I3, pu, rfl, rfl⟩
  refine thn (hst.run pins s3 σ H3 (fun o H4 => o = some (-1) ∧ H4 = H3) I3 ⟨1, rfl, -1, rfl, rfl, rfl⟩) ?_
  rintro vs s4 ⟨o, H4, I4, ps, rfl, rfl⟩
  have I5 : Inv X pins σ H4 { s4 with heap := s4.heap.push { cls := .type "slice", data := .fields #[vl, vu, vs] } } := I4.kept (t' := s4.toks) fun b ob q => Heap.get?_push_of_some _ q
  obtain ⟨its, r, ht, hz⟩ := I5.tuple hx
  cases pl
  cases r with
  | @cons _ uy _ us ry rs =>
    have hl := rs.length
    show wpAny (model X.prog X.w) X.A (subscriptTail e (.Slice none (some (.Constant (.int 0) k0 p0)) (some (.UnaryOp .USub (.Constant (.int 1) k p1) p2)) p3) (.ref a) (.ref s4.heap.objs.size)) (EP X pins σ Q) X.xe { s4 with heap := s4.heap.push { cls := .type "slice", data := .fields #[.none, vu, vs] } }
    refine tail_any (ops := [.ref a, .ref s4.heap.objs.size]) ht.typeIs (PyProof.Rows.slot_tuple_getitem.lookup) ?_ (by with_unfolding_all rfl)
    have hz' : us.length ≤ sizeLine := by
      rw [List.length_cons] at hz
      omega
    refine getItem_back ht (Heap.IsSliceOf.new _ .none vu vs) pu ps hz' ?_
    refine ⟨.ref _, _, I5.laid (t' := s4.toks) (o := .tup ys.reverse) (fun b ob q => Heap.get?_push_of_some _ q) (Nat.le_refl _) ?_, rfl, q _ (I5.hok.fresh (Nat.le_refl _))⟩
    exact ⟨by rw [List.length_reverse]; omega, _, Vals.reverse rs, IsTup.new _ _⟩
end
end Fm
namespace Fm
open PySem PySem.Spec PyProof.Rows L2
/-! set(xs) of a list of ints -/
section
variable {P : Program} {w : World} {A : Around} {E : Value → Shared → Prop} {s : Shared}
/-- the empty set as it is laid -/
abbrev eset (w : World) : Obj := { cls := .type "set", dict := none, data := .set #[] 0 (.fresh 0 0 (!w.params.followText "set-order")) }
abbrev hset (w : World) (h : Heap) : Heap := h.push (eset w)
set_option maxHeartbeats 8000000 in
theorem set_of_list {l : Addr} {its : Array Value} (ns : List Int) {Q : Value → Shared → Prop} (hh : A.handled = none) (hl : s.heap.IsList l its) (hi : IntsAre its.toList ns) (hb : ns.length + 1 < scanBound)
    (h : ∀ (g : Heap) (tk c : Nat), SetR w g s.heap.objs.size (fun j => decide (j ∈ ns)) c → (∀ b o, s.heap.get? b = some o → g.get? b = some o) → Q (.ref s.heap.objs.size) { s with heap := g, toks := tk }) :
    wpAny (model P w) A (call (.type "set") [.ref l]) Q E s := by
  have hn : its.size = ns.length := by rw [← Array.length_toList]; exact IntsAre.length hi
  obtain ⟨mc, mt, mro⟩ := F.called_set.mro
  have mk1 := F.called_set.made
  have mk2 := F.called_set.sub
  refine wpAny_call (codeAny_of_tree (show wpAny _ _ (callAny (.type "set") _) _ _ _ from wpAny_pure ⟨Code.quiet_builtin _ (by decide +kernel), codeAny_builtin F.entry_type_call ?_⟩))
  rw [Around.under_plain (weight_type_call_type "set" [.ref l] []) rfl]
  have mk3 := F.called_set.notType
  have mk4 := F.called_set.canCreate
  have mk5 := F.typeCall_set_1 (.ref l)
  repeat (any_goals (first | assumption | wp_step))
  refine codeAny_mono (code_set_led1 (w := w) (s := s) (.ref l) (E := E)
    (Q₁ := fun obj s₁ => obj = .ref s.heap.objs.size ∧ s₁ = { s with heap := hset w s.heap }) ⟨rfl, rfl⟩) fun r s₁ hr => ?_
  match r, hr with
  | .error e, hr => exact hr
  | .ok (.ret obj), hr =>
    obtain ⟨rfl, rfl⟩ := hr
    have here : (hset w s.heap).get? s.heap.objs.size = some (eset w) := Heap.get?_push_size _ rfl
    have isS : Shared.TypeIs { s with heap := hset w s.heap } (.ref s.heap.objs.size) "set" := ⟨_, here, rfl⟩
    have in1 := F.called_set.init.lookup
    have in2 := F.called_set.init.bind (.ref s.heap.objs.size)
    repeat (any_goals (first | assumption | wp_step))
    have goes : codeAny (model P w) A.in1 (.call (.builtin "set.__init__") ⟨[.ref s.heap.objs.size, .ref l], []⟩) (wants (fun r s₂ => r = .none ∧ ∃ g tk c,
        s₂ = { s with heap := g, toks := tk } ∧ SetR w g s.heap.objs.size (fun j => decide (j ∈ ns)) c ∧ ∀ b o, s.heap.get? b = some o → g.get? b = some o) E) { s with heap := hset w s.heap } := by
      refine codeAny_call_builtin F.called_set.init.plain F.entry_set_init (check_set_init_1 isS ?_)
      obtain ⟨⟨oc, od, dt, sl⟩, hol, hcl, nl, hdl⟩ := id hl
      simp only at hcl hdl
      subst hcl hdl
      have lt := Heap.lt_size hol
      have hol2 : (hset w s.heap).get? l = some _ := Heap.get?_push_of_some _ hol
      have hl2 : (hset w s.heap).IsList l its := ⟨_, hol2, rfl, nl, rfl⟩
      have no1 := F.sub_list_set
      have no2 := F.sub_list_frozenset
      have no3 : (Value.type "list" == Value.type "dict") = false := by decide
      unfold Builtin.«set.__init__» noKeywords Builtin.Frozenset.updateFrom
      generalize hPI : pyIter = PI
      wp_walk
      subst hPI
      refine wpAny_pyIter_list hl2 (wpAny_bind (wpAny_runValue ?_))
      have sz2 : (hset w s.heap).objs.size = s.heap.objs.size + 1 := Heap.size_push ..
      have neI : l ≠ (hset w s.heap).objs.size := by
        rw [sz2]
        exact Nat.ne_of_lt (Nat.lt_succ_of_lt lt)
      have notIn : s.heap.objs.size ∉ [(hset w s.heap).objs.size, l] := by
        rw [sz2]
        intro z
        rcases List.mem_cons.mp z with z | z
        · exact Nat.ne_of_lt (Nat.lt_succ_self _) z
        · exact Nat.ne_of_gt lt (List.mem_singleton.mp z)
      have val : ∀ (i : Nat) (v : Value), its[i]? = some v → ∃ k t, ns[i]? = some k ∧ v = .int k t := fun i v hv => by
        have hi' : i < ns.length := by
          rw [← hn]
          exact (Array.getElem?_eq_some_iff.mp hv).1
        obtain ⟨t, e⟩ := PyProof.Rows.IntsAre.int_at hi i v (by rw [Array.getElem?_toList]; exact hv)
        have e2 : ns.getD i 0 = ns[i] := by rw [List.getD_eq_getElem?_getD, List.getElem?_eq_getElem hi']; rfl
        exact ⟨ns[i], t, List.getElem?_eq_getElem hi', by rw [e, e2]⟩
      have hh3 : A.in1.in1.in1.handled = none := by simp [hh]
      refine set_update_ints ((Walks.list hh3 _ l neI its).toS) s.heap.objs.size notIn ns hn hb val (its.size - 0) 0 _ (by omega) (Nat.zero_le _) ?st ?s0 ?fin
      case st => exact ⟨⟨_, Heap.get?_push_size _ rfl, rfl, rfl⟩, hl2.push _⟩
      case s0 => exact ⟨0, Nat.le_refl 0, setR_new_at (Heap.get?_push_of_some _ here)⟩
      case fin =>
        rintro ⟨g, gg, dd, tk, oo⟩ c' mv hc' hS'
        have e1 : gg = s.gens := mv.gens
        have e2 : dd = s.drawn := mv.drawn
        have e3 : oo = s.os := mv.os
        subst e1 e2 e3
        refine wpAny_pure (show wpAny _ _ (ret Value.none) _ _ _ from wpAny_pure ⟨rfl, g, tk, c', rfl, hS', fun b o e => ?_⟩)
        have b0 := Heap.lt_size e
        refine mv.heap b o (fun z => ?_) (Heap.get?_push_of_some _ (Heap.get?_push_of_some _ e))
        rcases List.mem_cons.mp z with z | z
        · exact Nat.ne_of_lt b0 z
        · have z2 := List.mem_singleton.mp z
          rw [sz2] at z2
          exact Nat.ne_of_lt (Nat.lt_succ_of_lt b0) z2
    refine codeAny_mono goes fun r₂ s₂ hr₂ => ?_
    match r₂, hr₂ with
    | .error e, hr₂ => exact hr₂
    | .ok (.ret r), hr₂ =>
      obtain ⟨rfl, g, tk, c', rfl, hS', hk'⟩ := hr₂
      repeat (any_goals (first | assumption | wp_step))
      exact h _ _ _ hS' hk'
end
section
variable {X : Cx}
/-- set(xs): its numbers; sorted(set) -/
def rSetOfL (K : PySem.W.Frag) (w : World) : List V → Hp → VK → Prop := fun xs H Q => ∃ (l : Addr) (ns : List Int), xs = [V.ref l] ∧ SqL K H l (ns.map V.int) ∧ ns.length ≤ 4000 ∧
  ∀ p (n : Nat) (ks : List Int), H p = none → ks.Nodup → ks.length = n → (∀ k, k ∈ ks ↔ k ∈ ns) → Q (.ref p) (upd H p (SetO w p (fun j => decide (j ∈ ns)) n))
theorem cr_setG (hc : X.calm = true) : CallR X (.type "set") (rSetOfL X.K X.w) := by
  intro pins s σ H xs us Q I r h
  obtain ⟨l, ns, rfl, hl, hb, q⟩ := h
  rw [Vals.ref1 r]
  obtain ⟨its, rv, pl, hz⟩ := I.list hl
  refine set_of_list ns (I.ok.hd hc) pl.isList (by simpa using intsAre_of rv) (Nat.lt_of_le_of_lt (Nat.succ_le_succ hb) (by decide)) fun g tk c R hk => ?_
  obtain ⟨o, es, ep, t, h1, h2, h3, h4, h5, h6, h7, h8, h9, h10⟩ := id R
  refine ⟨.ref _, upd H s.heap.objs.size (SetO X.w s.heap.objs.size (fun j => decide (j ∈ ns)) c), I.laid (t' := tk) hk (Nat.le_refl _) (setO_new R), rfl, ?_⟩
  refine q _ c (es.toList.map keyOf) (I.hok.fresh (Nat.le_refl _)) h5 (by rw [List.length_map, Array.length_toList]; exact h9) fun k => ?_
  rw [← h6 k]
  simp
theorem cr_sortedG (hc : X.calm = true) : CallR X (.builtin "sorted") (fun xs H Q => rSortedSet X.w xs H Q ∨ rSorted X.K xs H Q) := CallR.or (cr_sortedSet hc) cr_sorted
end
end Fm
namespace Fm
open PySem PySem.Spec PyProof.Rows L2
/-! data that can be compared and shown -/
mutual
def fine : PyData → Prop
  | .none => True
  | .bool _ => True
  | .int i => i.natAbs < 10 ^ 40
  | .str x => PyData.strOk x = true
  | .list xs => fineAll xs
  | .tuple xs => fineAll xs
  | .dict _ => False
def fineAll : List PyData → Prop
  | [] => True
  | x :: xs => fine x ∧ fineAll xs
end
mutual
/-- what its text may come to -/
def wl : PyData → Nat
  | .none => 4
  | .bool _ => 5
  | .int _ => 41
  | .str x => 10 * x.length + 2
  | .list xs => wls xs + 2
  | .tuple xs => wls xs + 2
  | .dict _ => 0
def wls : List PyData → Nat
  | [] => 0
  | x :: xs => wl x + 2 + wls xs
end
theorem fineAll_iff : ∀ {xs : List PyData}, fineAll xs ↔ ∀ x ∈ xs, fine x
  | [] => by simp [fineAll]
  | x :: xs => by simp [fineAll, fineAll_iff]
theorem listText_le : ∀ ts : List Str, (listText ts).length ≤ piled ts + 2
  | [] => by rw [listText_nil]; decide
  | t :: r => by
    have h := textFrom_length_pos r 1 (("[" : Str) ++ ("" : String) ++ t) (Nat.succ_pos 0)
    have e : ((("[" : Str) ++ ("" : String) ++ t)).length = 1 + t.length := by
      rw [strLen_append, strLen_append]
      rfl
    have x1 : (listText (t :: r)).length = (textFrom 1 (("[" : Str) ++ ("" : String) ++ t) r).length + 1 := by
      show (textFrom 1 (("[" : Str) ++ ("" : String) ++ t) r ++ "]").length = _
      rw [strLen_append]
      rfl
    rw [x1, h, e, piled_cons]
    omega
theorem tupleText_le (ts : List Str) : (tupleText ts).length ≤ piled ts + 2 := by
  have e3 : (((if ts.length == 1 then ",)" else ")" : String) : Str)).length ≤ 2 := by split <;> decide +kernel
  have e1 : ((("(" : String) : Str)).length = 1 := rfl
  unfold tupleText
  rw [strLen_append, strLen_append, e1]
  cases ts with
  | nil => decide +kernel
  | cons t r =>
    have := join_length_add (t :: r) (by simp)
    omega
mutual
theorem shown_le : ∀ d : PyData, fine d → d.shown.length ≤ wl d
  | .none, _ => by simp only [PyData.shown]; decide
  | .bool b, _ => by cases b <;> (simp only [PyData.shown]; decide)
  | .int i, h => by
    simp only [PyData.shown, wl]
    rw [PySem.ofString_length]
    exact int_text_length_le10 (k := 40) (by decide) h
  | .str x, h => by
    simp only [PyData.shown, wl]
    refine StrLaws.reprText_len x fun c hc => ?_
    have h' : x.cps.all (· < 0x110000) = true := h
    rw [Array.all_eq_true_iff_forall_mem] at h'
    have := h' c (by simpa using hc)
    simp at this
    omega
  | .list xs, h => by
    have := shown_les xs h
    have := listText_le (PyData.shownAll xs)
    simp only [PyData.shown, wl]
    omega
  | .tuple xs, h => by
    have := shown_les xs h
    have := tupleText_le (PyData.shownAll xs)
    simp only [PyData.shown, wl]
    omega
  | .dict _, h => h.elim
theorem shown_les : ∀ xs : List PyData, fineAll xs → piled (PyData.shownAll xs) ≤ wls xs
  | [], _ => by simp [PyData.shownAll, piled, wls]
  | x :: xs, h => by
    have h1 := shown_le x h.1
    have h2 := shown_les xs h.2
    simp only [PyData.shownAll, wls]
    rw [piled_cons]
    omega
end
mutual
theorem fine_lay : ∀ d : PyData, fine d → d.canLay0 = true ∧ d.showable = true ∧ d.hasDict = false
  | .none, _ => by simp [PyData.canLay0, PyData.showable, PyData.hasDict]
  | .bool b, _ => by simp [PyData.canLay0, PyData.showable, PyData.hasDict]
  | .int i, h => by
    refine ⟨by simp [PyData.canLay0], ?_, by simp [PyData.hasDict]⟩
    have h' : i.natAbs < 10 ^ 40 := h
    have h2 : i.natAbs < 2 ^ 200 := Nat.lt_trans h' (by decide)
    simp only [PyData.showable, decide_eq_true_eq]
    exact Nat.lt_trans (PySem.Flt.log2_lt_of (by decide) h2) (by decide)
  | .str x, h => ⟨by simp only [PyData.canLay0]; exact h, by simp [PyData.showable], by simp [PyData.hasDict]⟩
  | .list xs, h => by simpa [PyData.canLay0, PyData.showable, PyData.hasDict] using fine_lays xs h
  | .tuple xs, h => by simpa [PyData.canLay0, PyData.showable, PyData.hasDict] using fine_lays xs h
  | .dict _, h => h.elim
theorem fine_lays : ∀ xs : List PyData, fineAll xs → PyData.canLayAll0 xs = true ∧ PyData.showableAll xs = true ∧ PyData.hasDictAll xs = false
  | [], _ => by simp [PyData.canLayAll0, PyData.showableAll, PyData.hasDictAll]
  | x :: xs, h => by
    obtain ⟨a, b, c⟩ := fine_lay x h.1
    obtain ⟨a', b', c'⟩ := fine_lays xs h.2
    simp [PyData.canLayAll0, PyData.showableAll, PyData.hasDictAll, a, b, c, a', b', c']
end
structure Shw (d : PyData) : Prop where
  fi : fine d
  dp : d.depth ≤ 60
  wl : wl d ≤ 16000000
theorem Shw.shaped {d : PyData} (h : Shw d) : SeqAt.shaped d = true := by
  show (d.canLay0 && decide (d.depth ≤ 64)) = true
  have := h.dp
  rw [(fine_lay d h.fi).1, decide_eq_true (by omega)]
  rfl
theorem Shw.len {d : PyData} (h : Shw d) : d.shown.length ≤ sizeLine := by
  have := shown_le d h.fi
  have := h.wl
  have e : sizeLine = 16777216 := rfl
  omega
theorem Shw.eqv {d : PyData} (h : Shw d) : PyData.eqv d d = true := SeqAt.eqv_refl d (fine_lay d h.fi).1
theorem eqv_nil (xs : List PyData) : PyData.eqv (.list xs) (.list []) = xs.isEmpty := by
  cases xs <;> simp [PyData.eqv, PyData.eqvAll]
/-! of terms -/
theorem nm_ok {x : Str} (h : Nm x) : PyData.strOk x = true := by
  show x.cps.all (· < 0x110000) = true
  rw [Array.all_eq_true_iff_forall_mem]
  intro c hc
  have := h.2.2 c (by simpa using hc)
  simp
  omega
mutual
theorem fine_d {P : Int → Prop} (h : ∀ i, P i → i.natAbs < 10 ^ 40) : ∀ t : Tm, t.ok P → fine t.d
  | .var i, k => h i k
  | .op x ts, k => by
    simp only [Tm.d, fine, fineAll]
    exact ⟨nm_ok k.1, fine_ds h ts k.2.2⟩
theorem fine_ds {P : Int → Prop} (h : ∀ i, P i → i.natAbs < 10 ^ 40) : ∀ ts : List Tm, Tm.oks P ts → fineAll (Tm.ds ts)
  | [], _ => trivial
  | t :: ts, k => ⟨fine_d h t k.1, fine_ds h ts k.2⟩
end
mutual
theorem depth_d : ∀ t : Tm, t.d.depth = t.dep
  | .var _ => by simp [Tm.d, PyData.depth, Tm.dep]
  | .op _ ts => by simp [Tm.d, PyData.depth, PyData.depthAll, Tm.dep, depth_ds ts]
theorem depth_ds : ∀ ts : List Tm, PyData.depthAll (Tm.ds ts) = Tm.deps ts
  | [] => by simp [Tm.ds, PyData.depthAll, Tm.deps]
  | t :: ts => by simp [Tm.ds, PyData.depthAll, Tm.deps, depth_d t, depth_ds ts]
end
mutual
theorem wl_d {P : Int → Prop} : ∀ t : Tm, t.ok P → wl t.d ≤ t.cst + 41 * t.lv
  | .var _, _ => by simp [Tm.d, wl, Tm.cst, Tm.lv]
  | .op x ts, k => by
    have h1 := wl_ds ts k.2.2
    have h2 := k.1.2.1
    simp only [Tm.d, wl, wls, Tm.cst, Tm.lv]
    omega
theorem wl_ds {P : Int → Prop} : ∀ ts : List Tm, Tm.oks P ts → wls (Tm.ds ts) ≤ Tm.csts ts + 41 * Tm.lvs ts
  | [], _ => by simp [Tm.ds, wls]
  | t :: ts, k => by
    have h1 := wl_d t k.1
    have h2 := wl_ds ts k.2
    simp only [Tm.ds, wls, Tm.csts, Tm.lvs]
    omega
end
end Fm
namespace Fm
open PySem PySem.Spec PyProof.Rows L2
/-! the end: a law whose def asks for reprs -/
section
variable {P : Program} {w : World} {K : PySem.W.Frag} {mg mb : Str → Option Value} {k : Nat} {fa a : Addr} {fd : FuncData} {x : Str} {sp : Sp} {s : Shared} {vs : List Value} {ns : List Int}
/-- from a heap that knows nothing but, perhaps, the script -/
theorem from_heap (KX : K.In s.heap) (hg0 : s.heap.Ns mainGlobals mg) (hb : s.heap.Ns builtinsNs mb) (hbb : ∀ y : Str, y ≠ "__name__" → mb y = bootBuiltins y) (hlim : s.heap.NoLimit) (hg : s.gens = #[])
    (ha : s.heap.get? a = some { cls := .type "list", data := .seq vs.toArray }) (hr : Room k callerA) (F : ∀ base : Heap, K.In base → base.Ns mainGlobals mg → FnOkG P w K mg base CX0 k fa fd [x] sp)
    (hbind : ∀ (t : Shared) (u : Value), BindsTo t fd ⟨[u], []⟩ [(x, u)]) (H : Hp) (hO : Only H) (hok : HOk P w H s.heap) (hA : ∀ b, H b ≠ none → b = a) (hK : H a ≠ none → K.lookup a = none)
    (hsp : sp [.ref a] H (fun v _ => v = .bl true) fun _ _ _ => False) :
    codeAny (model P w) callerA (.call (.ref fa) ⟨[.ref a], []⟩) (fun r t => r = .ok (.ret (.bool true)) ∧ OldK s.heap t.heap ∧ t.os = s.os ∧ AllBare t.gens) s := by
  have free : ∀ {b : Addr} {o : Obj} {es : Array DictEntry} {ep : Nat}, s.heap.get? b = some o → o.data = .dict es ep → H b = none := by
    intro b o es ep e d
    cases q : H b with
    | none => rfl
    | some u =>
      have z := hA b (by rw [q]; exact Option.some_ne_none u)
      rw [z, ha] at e
      cases e
      exact nomatch d
  have ns : ∀ {b : Addr} {m : Str → Option Value}, s.heap.Ns b m → (hidT s.heap H).Ns b m := by
    rintro b m ⟨o, es, ep, e, d, r⟩
    exact ⟨o, es, ep, hidT_get e (free e d), d, r⟩
  have kin : K.In (hidT s.heap H) := by
    intro b o e
    refine hidT_get (KX b o e) ?_
    cases q : H b with
    | none => rfl
    | some u =>
      have z := hA b (by rw [q]; exact Option.some_ne_none u)
      rw [z] at q e
      rw [hK (by rw [q]; exact Option.some_ne_none u)] at e
      cases e
  have lim : (hidT s.heap H).NoLimit := by
    obtain ⟨mc, l1, l2⟩ := hlim
    exact ⟨mc, ns l1, l2⟩
  have env : Env0 P w K mg (hidT s.heap H) callerA [] s H :=
    ⟨rfl, ⟨kin, ns hg0, ⟨mb, ns hb, hbb⟩, lim⟩, fun b o e => of_hidT e, Nat.le_of_eq (hidT_size _ _), trivial, (fun b z => absurd (show b ∈ ([] : List Addr) from z) List.not_mem_nil), hok, .of_eq hg⟩
  have run := (F _ kin (ns hg0)).run callerA [] s H ⟨[.ref a], []⟩ [.ref a] [.ref a] _ _ rfl hr env (hbind s (.ref a)) (.cons rfl .nil) hsp
  refine codeAny_mono run fun r t h => ?_
  match r, h with
  | .error e, h => exact False.elim h
  | .ok (.ret u), h =>
    obtain ⟨v, H', os, bare, un, hok', r', q⟩ := h
    have q' : v = .bl true := q
    rw [q'] at r'
    obtain rfl : u = Value.bool true := r'
    refine ⟨rfl, OldK.of_keep fun b o e => ?_, os, bare⟩
    rcases hO b with z | ⟨ob, xs, z⟩
    · exact un.keep b o e z (fun y => absurd (show b ∈ ([] : List Addr) from y) List.not_mem_nil) (fun y => nomatch y)
    · obtain ⟨e1, _⟩ := hok b _ z
      obtain ⟨e2, _⟩ := hok' b _ (un.frzs b ob _ z)
      rw [e1] at e
      cases e
      exact e2
theorem law_callG (KX : K.In s.heap) (hg0 : s.heap.Ns mainGlobals mg) (hb : s.heap.Ns builtinsNs mb) (hbb : ∀ y : Str, y ≠ "__name__" → mb y = bootBuiltins y) (hlim : s.heap.NoLimit) (hg : s.gens = #[])
    (ha : s.heap.get? a = some { cls := .type "list", data := .seq vs.toArray }) (hi : IntsAre vs ns) (hl : ns.length ≤ sizeLine) (hr : Room k callerA)
    (F : ∀ base : Heap, K.In base → base.Ns mainGlobals mg → FnOkG P w K mg base CX0 k fa fd [x] sp) (hbind : ∀ (t : Shared) (u : Value), BindsTo t fd ⟨[u], []⟩ [(x, u)])
    (hsp : ∀ H : Hp, SqL K H a (ns.map V.int) → sp [.ref a] H (fun v _ => v = .bl true) fun _ _ _ => False) :
    codeAny (model P w) callerA (.call (.ref fa) ⟨[.ref a], []⟩) (fun r t => r = .ok (.ret (.bool true)) ∧ OldK s.heap t.heap ∧ t.os = s.os ∧ AllBare t.gens) s := by
  have rv := vals_ints hi
  have hlen : (ns.map V.int).length ≤ sizeLine := by
    rw [List.length_map]
    exact hl
  cases hk : K.lookup a with
  | some o =>
    have e := KX a o hk
    rw [ha] at e
    cases e
    refine from_heap KX hg0 hb hbb hlim hg ha hr F hbind (fun _ => none) (fun _ => .inl rfl) (fun b u z => nomatch z) (fun b z => absurd rfl z) (fun z => absurd rfl z) (hsp _ ?_)
    exact .inr ⟨_, vs.toArray, _, hk, rfl, rfl, rfl, by rw [List.size_toArray, hi.length]; exact hl, by simpa using rv⟩
  | none =>
    have at_ : ∀ b, (if b = a then some (HO.frz { cls := .type "list", data := .seq vs.toArray } (.lst (ns.map V.int))) else none) ≠ none → b = a := by
      intro b z
      by_cases e : b = a
      · exact e
      · rw [if_neg e] at z
        exact absurd rfl z
    refine from_heap KX hg0 hb hbb hlim hg ha hr F hbind (fun b => if b = a then some (.frz { cls := .type "list", data := .seq vs.toArray } (.lst (ns.map V.int))) else none) (fun b => ?_) (fun b u z => ?_) at_ (fun _ => hk)
      (hsp _ (.inl (.inr ⟨_, if_pos rfl⟩)))
    · by_cases e : b = a
      · exact .inr ⟨_, _, if_pos e⟩
      · exact .inl (if_neg e)
    · have e : b = a := at_ b (by
        have z' : (if b = a then some (HO.frz { cls := .type "list", data := .seq vs.toArray } (.lst (ns.map V.int))) else none) = some u := z
        rw [z']
        exact Option.some_ne_none u)
      subst e
      have z' := (if_pos rfl).symm.trans z
      cases z'
      exact ⟨ha, hlen, vs, _, rv, ha⟩
end
theorem walk_G {l : PySem.W.OpenLaw} {n k : Nat} {q : Program} {loose : List Str} {XP : (Str → Option Value) → Heap → Prop} {YP : World → Heap → Prop} {d : DefRec} {K : Params → PySem.W.Frag} {sp : PySem.W.Frag → Sp} {x : Str}
    (hn : l.most = some n) (hn2 : n ≤ sizeLine) (hdf : d.params.defaults = []) (hr : Room k callerA) (hY : ∀ (w : World) (h : Heap), YP w h → (K w.params).In h)
    (F : ∀ (w : World) (mg : Str → Option Value) (fa : Addr) (h : Heap), (K w.params).In h → h.Ns mainGlobals mg → mg d.name = some (.ref fa) →
      ∃ fd : FuncData, (∀ (t : Shared) (u : Value), BindsTo t fd ⟨[u], []⟩ [(x, u)]) ∧ ∀ base : Heap, (K w.params).In base → base.Ns mainGlobals mg → FnOkG l.prog w (K w.params) mg base CX0 k fa fd [x] (sp (K w.params)))
    (hsp : ∀ (K : PySem.W.Frag) (H : Hp) (a : Addr) (ns : List Int), ns.length ≤ n → SqL K H a (ns.map V.int) → sp K [.ref a] H (fun v _ => v = .bl true) fun _ _ _ => False) :
    PySem.W.WalkO q loose XP YP l.row.toRowW d [] (fun f vs => PySem.call f vs) := by
  refine Att.attach_call hn hdf fun w s₀ s₁ mg mb fa o pm cd doc a vs ns G Y ho hd hcd hmg hobj hints hlen hgens => ?_
  obtain ⟨fd, hb, hF⟩ := F w mg fa _ (hY w _ Y) G.T.g hmg
  exact law_callG (hY w _ Y) G.T.g G.T.b G.T.builtins G.T.nolimit hgens hobj hints (Nat.le_trans hlen hn2) hr hF hb fun H hS => hsp _ H a ns hlen hS
end Fm
namespace Fm
open PySem PySem.Spec PyProof.Rows L2
/-! a list of whatever, beside the empty one -/
section
variable {X : Cx}
def rNeNil (K : PySem.W.Frag) : R2 := fun x y H Q => ∃ (a b : Addr) (xs : List V), x = .ref a ∧ y = .ref b ∧ SqL K H a xs ∧ SqL K H b [] ∧ Q (.bl (!xs.isEmpty)) H
def rEqNil (K : PySem.W.Frag) : R2 := fun x y H Q => ∃ (a b : Addr) (xs : List V), x = .ref a ∧ y = .ref b ∧ SqL K H a xs ∧ SqL K H b [] ∧ Q (.bl xs.isEmpty) H
theorem op_neNil (hu : X.A.units < cLine) : OpR X (compareOp .NotEq) (rNeNil X.K) := by
  intro pins s σ H x y v u Q I rx ry h
  obtain ⟨a, b, xs, rfl, rfl, ha, hb, q⟩ := h
  obtain rfl : v = Value.ref a := rx
  obtain rfl : u = Value.ref b := ry
  obtain ⟨i1, r1, p1, _⟩ := I.list ha
  obtain ⟨i2, r2, p2, _⟩ := I.list hb
  have l1 := r1.length
  have l2 : i2 = [] := List.eq_nil_of_length_eq_zero (by have := r2.length; simpa using this.symm)
  subst l2
  cases xs with
  | nil =>
    have l3 : i1 = [] := List.eq_nil_of_length_eq_zero (by simpa using l1.symm)
    subst l3
    exact SeqAt.RcNeAt.lists (e := fun _ => true) p1.isList p2.isList rfl hu (fun j j1 _ => absurd j1 (Nat.not_lt_zero j)) X.prog X.w X.xe _ ⟨.bl false, H, I, rfl, q⟩
  | cons z zs =>
    refine SeqAt.RcNeAt.lists_lengths p1.isList p2.isList ?_ hu X.prog X.w X.xe _ ⟨.bl true, H, I, rfl, q⟩
    simp only [List.length_cons] at l1
    simp [bne_iff_ne]
    intro z
    rw [z] at l1
    simp at l1
theorem op_eqNil (hu : X.A.units < cLine) : OpR X (compareOp .Eq) (rEqNil X.K) := by
  intro pins s σ H x y v u Q I rx ry h
  obtain ⟨a, b, xs, rfl, rfl, ha, hb, q⟩ := h
  obtain rfl : v = Value.ref a := rx
  obtain rfl : u = Value.ref b := ry
  obtain ⟨i1, r1, p1, _⟩ := I.list ha
  obtain ⟨i2, r2, p2, _⟩ := I.list hb
  have l1 := r1.length
  have l2 : i2 = [] := List.eq_nil_of_length_eq_zero (by have := r2.length; simpa using this.symm)
  subst l2
  cases xs with
  | nil =>
    have l3 : i1 = [] := List.eq_nil_of_length_eq_zero (by simpa using l1.symm)
    subst l3
    exact SeqAt.RcAt.lists (e := fun _ => true) p1.isList p2.isList rfl hu (fun j j1 _ => absurd j1 (Nat.not_lt_zero j)) X.prog X.w X.xe _ ⟨.bl true, H, I, rfl, q⟩
  | cons z zs =>
    refine SeqAt.RcAt.lists_lengths p1.isList p2.isList ?_ hu X.prog X.w X.xe _ ⟨.bl false, H, I, rfl, q⟩
    simp only [List.length_cons] at l1
    simp [bne_iff_ne]
    intro z
    rw [z] at l1
    simp at l1
/-- i not in range(lo, hi) -/
theorem op_notIn_rng : OpR X (compareOp .NotIn) (fun x y H Q => ∃ i a lo hi, x = V.int i ∧ y = V.ref a ∧ H a = some (.rng lo hi) ∧ Q (.bl (!decide (lo ≤ i ∧ i < hi))) H) := by
  intro pins s σ H x y v u Q I rx ry h
  obtain ⟨i, a, lo, hi, rfl, rfl, ha, q⟩ := h
  obtain ⟨k, rfl⟩ := rx
  obtain rfl : u = Value.ref a := ry
  obtain ⟨t1, t2, t3, hob⟩ := I.hok a _ ha
  show wpAny _ _ (do return Value.bool (!(← contains (Value.ref a) (Value.int i k)))) _ _ s
  refine wpAny_bind (wpAny_contains_slot (T := "range") ⟨_, hob, rfl⟩ F.slot_range_contains (call_meets F.slot_range_contains ⟨_, hob, rfl⟩ F.entry_range_contains (F.args_range_contains_2 _ _) (q_contains a lo hi i t1 t2 t3 k) ⟨hob, wpAny_truthy_bool (wpAny_pure ⟨.bl _, H, I, rfl, by rw [place1]; exact q⟩)⟩))
/-- x is not True, x a bool or an int -/
def rNotB : R2 := fun x y H Q => ∃ b : Bool, y = .bl b ∧ ((∃ a : Bool, x = .bl a ∧ Q (.bl (!decide (a = b))) H) ∨ (∃ i : Int, x = .int i ∧ Q (.bl true) H))
theorem op_notB : OpR X (compareOp .IsNot) rNotB := by
  intro pins s σ H x y v u Q I rx ry h
  obtain ⟨b, rfl, h⟩ := h
  rcases h with ⟨a, rfl, q⟩ | ⟨i, rfl, q⟩
  · exact op_isnot_bl pins s σ H _ _ _ _ Q I rx ry ⟨a, b, rfl, rfl, q⟩
  · obtain ⟨t, rfl⟩ := rx
    cases (show u = Value.bool b from ry)
    exact wpAny_isNot_other rfl (fun z => nomatch z) ⟨.bl true, H, I, rfl, q⟩
end
end Fm
/-! own errors whose __init__ hands its argument on to the class above and keeps it in a field -/
namespace Fm
open PySem PySem.W PySem.Calls PyProof.Rows PySem.HandSPX
/-! the text of such an __init__ -/
abbrev xA (f : Str) (p1 p2 : Pos) : Arguments :=
  { posonlyargs := [], args := [{ arg := "self", annotation := none, pos := p1 }, { arg := f, annotation := none, pos := p2 }],
    vararg := none, kwonlyargs := [], kw_defaults := [], kwarg := none, defaults := [] }
abbrev xCall (f : Str) (q1 q2 q3 q4 q5 : Pos) : Expr := .Call (.Attribute (.Call (.Name "super" q1) [] [] q2) "__init__" q3) [.Name f q4] [] q5
abbrev xB (f : Str) (q1 q2 q3 q4 q5 q6 q7 q8 q9 q10 : Pos) : List Stmt :=
  [.Expr (xCall f q1 q2 q3 q4 q5) q6, .Assign [.Attribute (.Name "self" q7) f q8] (.Name f q9) q10]
abbrev xS (f : Str) : Scope :=
  { kind := .function, names := [(PySem.Str.ofString "self", .local), (f, .local), (PySem.Str.ofString "__class__", .free), (PySem.Str.ofString "super", .globalImplicit)],
    isGenerator := false, isCoroutine := false, more := [] }
/-- what the written part says of such a class, by name x with field f, at C -/
structure ExT (P : Program) (K : Frag) (mg : Str → Option Value) (x f : Str) (C : Addr) : Prop where
  gC : mg x = some (.ref C)
  cls : ∃ nm q N bs bm sn sub ab col dd k0 k1 k2 k3 k5, K.lookup C = some (excClassObj nm q C N bs bm true sn sub ab col dd k0 k1 k2 k3 k5 "ValueError.__new__") ∧ refsVE bm = true
  sa : findIn K (.ref C) "__setattr__" = some (some (.builtin "object.__setattr__"))
  no : findIn K (.ref C) f = some none
  kC : keepIn K (.ref C) = true
  exC : subIn K (.ref C) (.type "BaseException") = some true
  veC : subIn K (.ref C) (.type "ValueError") = some true
  tyC : typeIn K (.ref C) = some (.type "type")
  hdC : hasDictIn K C = true
  up : ks_superIn K C C "__init__" = some (some (.builtin "ValueError.__init__"))
  opq : nsIn K cStatics "thirdparty.any" = some none
  self : mroIn K C (.ref C) = some true
  fn : ∃ (fI cda cc : Addr) (oc : Value) (od : Option Addr) (kV doc pm : Value) (an : Option Addr) (ct : Value) (osl : Array (Option Value)) (p1 p2 q1 q2 q3 q4 q5 q6 q7 q8 q9 q10 : Pos) (ql : Str),
    findIn K (.ref C) "__init__" = some (some (.ref fI)) ∧ typeIn K (.ref fI) = some (.type "function") ∧
    K.lookup fI = some ⟨oc, od, .func (ksFn "__init__" ql (xA f p1 p2) (xB f q1 q2 q3 q4 q5 q6 q7 q8 q9 q10) (xS f) .none kV doc pm an (.ref cda) ct cc), osl⟩ ∧ codeIn K (.ref cda) ql = true ∧
    (∃ cl cld csl, K.lookup cc = some ⟨cl, cld, .cell (some (.ref C)), csl⟩) ∧
    ∃ ccl cdd vs ccs file tf, K.lookup cda = some ⟨ccl, cdd, .fields vs, ccs⟩ ∧ vs[2]? = some (.str file tf) ∧ ((P.main.file : Str) == file) = true ∧
    (∀ e v, bindArgs (ksFn "__init__" ql (xA f p1 p2) (xB f q1 q2 q3 q4 q5 q6 q7 q8 q9 q10) (xS f) .none kV doc pm an (.ref cda) ct cc) ⟨[.ref e, v], []⟩ = pure [((PySem.Str.ofString "self" : Str), .ref e), (f, v)]) ∧
    ∀ L : Addr, ∃ pl, eval (xCall f q1 q2 q3 q4 q5) (ksEnv ql (xS f) L fI (.ref cda) cc) = (do
      let ov ← attributeBase (.Call (.Name "super" q1) [] [] q2) "__init__" (ksEnv ql (xS f) L fI (.ref cda) cc) (eval (.Call (.Name "super" q1) [] [] q2) (ksEnv ql (xS f) L fI (.ref cda) cc))
      standAt q3.atName
      let (g, first) ← holding [ov] (getMethod ov "__init__" pl)
      callWith q5 g first (backTo q5 (starEach [.Name f q4] (ksEnv ql (xS f) L fI (.ref cda) cc))) [])
  top : (P.main.scope.names.lookup ("super" : Str)).isSome = false
  sup : mg "super" = none
  f1 : (("self" : Str) == f) = false
  f2 : (f == ("self" : Str)) = false
  f3 : (f == ("__debug__" : Str)) = false
  f4 : (("super" : Str) == f) = false
  f5 : (("__class__" : Str) == f) = false
/-- what such an __init__ leaves -/
structure XEnd (h h' : Heap) (x C dx : Addr) (f : Str) (v : Value) : Prop where
  keep : ∀ b o, b ≠ x → h.get? b = some o → h'.get? b = some o
  obj : ∃ t1 : Addr, h'.get? x = some { cls := .ref C, dict := some dx, data := .fields #[.ref t1, .none, .none, .none, .bool false, .none] }
  dbig : h.objs.size ≤ dx
  dne : dx ≠ x
  ns : h'.Ns1 dx (fun y => if y = f then some v else none)
section
variable {P : Program} {w : PySem.World} {A : Around} {E : Value → Shared → Prop} {R : Result → Shared → Prop} {s : Shared} {K : Frag} {mg : Str → Option Value} {C : Addr} {x f : Str}
theorem look_f (T1 : (("self" : Str) == f) = false) (v u : Value) : ([((PySem.Str.ofString "self" : Str), u), (f, v)].reverse.lookup f) = some v := by
  simp [List.lookup]
theorem look_self (T2 : (f == ("self" : Str)) = false) (T1 : (("self" : Str) == f) = false) (v u : Value) : ([((PySem.Str.ofString "self" : Str), u), (f, v)].reverse.lookup (PySem.Str.ofString "self")) = some u := by
  simp only [List.reverse_cons, List.reverse_nil, List.nil_append, List.singleton_append, List.lookup_cons]
  rw [show ((PySem.Str.ofString "self" : Str) == f) = false from T1]
  simp
theorem xs_f (T2 : (f == ("self" : Str)) = false) : (xS f).names.lookup f = some .local := by
  simp only [xS, List.lookup_cons]
  rw [show (f == (PySem.Str.ofString "self" : Str)) = false from T2]
  simp
theorem xs_self : (xS f).names.lookup (PySem.Str.ofString "self") = some .local := by
  simp only [xS, List.lookup_cons]
  simp
theorem xs_super (h : (("super" : Str) == f) = false) : (xS f).names.lookup ("super" : Str) = some .globalImplicit := by
  simp only [xS, List.lookup_cons, h]
  rw [show ((PySem.Str.ofString "super" : Str) == PySem.Str.ofString "self") = false by decide +kernel, show ((PySem.Str.ofString "super" : Str) == PySem.Str.ofString "__class__") = false by decide +kernel]
  simp
theorem xs_class (h : (("__class__" : Str) == f) = false) : (xS f).names.lookup ("__class__" : Str) = some .free := by
  simp only [xS, List.lookup_cons, h]
  rw [show ((PySem.Str.ofString "__class__" : Str) == PySem.Str.ofString "self") = false by decide +kernel]
  simp
/-- ValueError.__init__, bound to an error, is called -/
theorem vx_call {hp : Heap} {g : Array GenState} {d : Drawn} {t : Nat} {os : OsState} {u e t0 : Addr} {rest : List Value} {Q : Value → Shared → Prop} {nm q : Str} {N : Addr} {bs bm : List Value} {hdct : Bool} {sn : List Str} {sub : List Value} {ab : Bool} {col : Option Bool} {dd : Option Addr} {k0 k1 k2 k3 k5 : Option Value}
    (hC : hp.get? C = some (excClassObj nm q C N bs bm hdct sn sub ab col dd k0 k1 k2 k3 k5 "ValueError.__new__")) (he : hp.get? e = some (excO C t0)) (hu : hp.get? u = some (kxs_mw "ValueError.__init__" e)) (hz : rest.length ≤ sizeLine)
    (fin : ∀ h', (∀ b o, b ≠ e → hp.get? b = some o → h'.get? b = some o) → h'.get? e = some (excO C hp.objs.size) → Q .none ⟨h', g, d, t, os⟩) :
    wpAny (model P w) A (call (.ref u) rest) Q E ⟨hp, g, d, t, os⟩ := by
  refine wpAny_call (codeAny_of_tree ?_)
  show wpAny (model P w) A.in1 (callAny (.ref u) ⟨rest, []⟩) _ _ _
  simp only [callAny]
  refine wpAny_bind (wpAny_load hu ?_)
  simp only [kxs_mw]
  refine KFB.if_so (by decide) ?_
  refine wpAny_bind (check_bound_init PySem.F.excBase_ValueError.toExcCallFacts hC he rfl ?_)
  refine wpAny_bind (wpAny_pure (wpAny_pure ?_))
  refine ⟨plainId_quiet PySem.F.excBase_ValueError.init.plain _, codeAny_builtin PySem.F.excBase_ValueError.initEntry ?_⟩
  exact exc_init_tree (cls := .ref C) (t0 := t0) (dv := none) (c2 := .none) (c3 := .none) (b4 := .bool false) he hz fun h' k e' _ => fin h' k e'
theorem vx_init (T : ExT P K mg x f C) {e t0 fI : Addr} {v : Value} (X : K.In s.heap) (hG : s.heap.Ns mainGlobals mg) (hB : ∃ mb, s.heap.Ns builtinsNs mb ∧ ∀ y : Str, y ≠ "__name__" → mb y = bootBuiltins y) (hlim : s.heap.NoLimit)
    (hx : s.heap.get? e = some (excO C t0)) (hnx : K.lookup e = none) (hroom : A.depth < recursionLimit) (hI : findIn K (.ref C) "__init__" = some (some (.ref fI)))
    (hq : ∀ h' tk dx, XEnd s.heap h' e C dx f v → R (.ok (.ret .none)) { s with heap := h', toks := tk }) :
    codeAny (model P w) A (.call (.ref fI) ⟨[.ref e, v], []⟩) R s := by
  obtain ⟨fI', cda, cc, oc, od, kV, doc, pm, an, ct, osl, p1, p2, q1, q2, q3, q4, q5, q6, q7, q8, q9, q10, ql, hi, tI, ho, hcd, ⟨cl, cld, csl, hcell⟩, ccl, cdd, vs, ccs, file, tf, hcode, hvs, hfile, hbind, hev⟩ := T.fn
  obtain rfl : fI = fI' := by
    rw [hi] at hI
    cases hI
    rfl
  obtain ⟨nm, q, N, bs, bm, sn, sub, ab, col, dd, k0, k1, k2, k3, k5, hC, hbm⟩ := T.cls
  have hcl : clsIn K C = some { name := nm, bases := bs, mro := .ref C :: bm, ns := N, qualname := q, hasDict := true, slotNames := sn, subclasses := sub, abstract := ab, collection := col, hasDel := false } := by
    unfold clsIn
    rw [hC] <;> rfl
  obtain ⟨mb, hmb, hbt⟩ := hB
  have hxC : e ≠ C := fun z => by
    rw [z, hC] at hnx
    cases hnx
  have hkf : (ksEnv ql (xS f) s.heap.objs.size fI (.ref cda) cc).kindOf f = some .local := xs_f T.f2
  refine ks_codeAny_call_defAt (binds := [("self", .ref e), (f, v)]) hroom (X _ _ ho) rfl hlim (codeRec_of X hcd) rfl (BindsTo.of_eq (hbind _ _)) ?_ ?_ (fun h₁ hn hk₁ => ?_)
  · intro y hy
    simp only [xS, List.mem_cons, List.not_mem_nil, or_false] at hy
    rcases hy with rfl | rfl | rfl | rfl <;> exact fun z => nomatch z
  · intro y hy
    simp only [List.mem_cons, List.not_mem_nil, or_false] at hy
    rcases hy with rfl | rfl
    · rfl
    · exact xs_f T.f2
  · have X₁ : K.In h₁ := X.keeps hk₁
    have hx₁ := hk₁ _ _ hx
    have I₁ : InstAt h₁ e (excO C t0) C none := ⟨hx₁, rfl, rfl, trivial⟩
    obtain ⟨hp, g, dr, tk, os⟩ := s
    obtain ⟨pl, hev⟩ := hev hp.objs.size
    refine ks_wpAt_execs_cons (ks_wpAt_Expr_any (ks_wpAt_MethodCall (he := hev) ?_))
    refine ks_wpAt_super_base (env := ksEnv ql (xS f) hp.objs.size fI (.ref cda) cc) (ar := { arg := "self", annotation := none, pos := p1 }) ?_ ?_ (by decide) rfl (X₁ _ _ ho) rfl rfl rfl (X₁ _ _ hcode) rfl hvs hfile T.top ?_
    · exact xs_super T.f4
    · exact xs_class T.f5
    · refine ks_loadName_global rfl (xs_super T.f4) (loadGlobal_builtin (env := ksEnv ql (xS f) hp.objs.size fI (.ref cda) cc) (hG.keeps hk₁) T.sup (hmb.keeps hk₁) ((hbt _ (by decide +kernel)).trans (show bootBuiltins "super" = some (.type "super") by decide +kernel)) ⟨rfl, ?_⟩)
      refine wpAny_loadName_free rfl (xs_class T.f5) rfl ⟨_, X₁ _ _ hcell, rfl⟩ ?_
      refine wpAny_loadName_local rfl xs_self hn (look_self T.f2 T.f1 v (.ref e)) ?_
      refine ks_wpAny_isType_cls (X₁ _ _ hC) rfl ⟨rfl, ?_⟩
      refine ks_wpAny_call_super (X₁ _ _ hC) rfl hx₁ rfl (fun c z => nomatch z) (looks_mroIn X₁ T.self) (fun h₂ hso hk₂ => ?_)
      have X₂ : K.In h₂ := X₁.keeps hk₂
      have hx₂ := hk₂ _ _ hx₁
      have I₂ : InstAt h₂ e (excO C t0) C none := ⟨hx₂, rfl, rfl, trivial⟩
      refine kxs_getMethod kxs_ValueError hso (looks_opaque X₂ T.opq) (l₀ := .ref C :: bm) (fun A Q E s k q => wpAny_bind ((looks_clsIn X₂ hcl) A _ E s k (wpAny_pure q))) rfl X₂ (by have := T.up; unfold ks_superIn at this; rw [hcl] at this; exact this) (I₂.type.andThen (looks_subIn X₂ T.veC)) hxC (by decide) ?_
      have k₃ : ∀ b o, h₂.get? b = some o → (h₂.push (kxs_mw "ValueError.__init__" e)).get? b = some o := fun b o z => Heap.get?_push_of_some _ z
      have hu : (h₂.push (kxs_mw "ValueError.__init__" e)).get? h₂.objs.size = some (kxs_mw "ValueError.__init__" e) := Heap.get?_push_at rfl rfl
      have k03 : ∀ b o, hp.get? b = some o → (h₂.push (kxs_mw "ValueError.__init__" e)).get? b = some o := fun b o z => k₃ _ _ (hk₂ _ _ (hk₁ _ _ z))
      have n03 : (h₂.push (kxs_mw "ValueError.__init__" e)).Ns hp.objs.size (fun y => [((PySem.Str.ofString "self" : Str), Value.ref e), (f, v)].reverse.lookup y) := (hn.keeps hk₂).keeps k₃
      have z03 : h₂.objs.size < (h₂.push (kxs_mw "ValueError.__init__" e)).objs.size := by
        rw [Heap.size_push]
        exact Nat.lt_succ_self _
      generalize h₂.push (kxs_mw "ValueError.__init__" e) = h₃ at hu k03 n03 z03 ⊢
      refine kxs_callWith (i := "ValueError.__init__") (x := e) (by rfl) (evalArgs_plain ?_)
      refine Calls.spliced_cons (wpAny_Name (env := ksEnv ql (xS f) hp.objs.size fI (.ref cda) cc) (wpAny_loadName_local rfl hkf n03 (look_f T.f1 v (.ref e)) (Calls.spliced_nil ⟨hu, ?_⟩)) T.f3)
      refine vx_call (k03 _ _ (X _ _ hC)) (k03 _ _ hx) hu (by show 1 ≤ sizeLine; decide) fun h₄ k₄ hx₄ => ?_
      have k04 : ∀ b o, b ≠ e → hp.get? b = some o → h₄.get? b = some o := fun b o hb z => k₄ _ _ hb (k03 _ _ z)
      have X₄ : K.In h₄ := fun b o z => k04 b o (fun y => by rw [y, hnx] at z; cases z) (X _ _ z)
      have hLe : hp.objs.size ≠ e := Nat.ne_of_gt (Heap.lt_size hx)
      have n04 : h₄.Ns hp.objs.size (fun y => [((PySem.Str.ofString "self" : Str), Value.ref e), (f, v)].reverse.lookup y) := n03.at fun o z => k₄ _ _ hLe z
      show PySem.wpAt _ _ _ (execs _ _) _ _ _
      refine wpAt_of_wpAny (wpAny_execs_cons (plainObj_wpAny_Assign_Attribute (env := ksEnv ql (xS f) hp.objs.size fI (.ref cda) cc) ?_))
      refine wpAny_Name (env := ksEnv ql (xS f) hp.objs.size fI (.ref cda) cc) (wpAny_loadName_local rfl hkf n04 (look_f T.f1 v (.ref e)) ?_) T.f3
      refine wpAny_Name (env := ksEnv ql (xS f) hp.objs.size fI (.ref cda) cc) (wpAny_loadName_local rfl xs_self n04 (look_self T.f2 T.f1 v (.ref e)) ?_) (by decide)
      refine set_plain X₄ (ox := excO C h₃.objs.size) (od := none) ⟨hx₄, rfl, rfl, trivial⟩ T.sa ?_
      refine exc_osa X₄ hx₄ hcl (show refsVE (.ref C :: bm) = true from hbm) rfl T.no (fun h₅ tk₅ dx k₅ dn dne hx₅ hn₅ => ?_)
      have z4 : hp.objs.size < h₄.objs.size := n04.lt
      exact wpAny_execs_nil (hq h₅ tk₅ dx ⟨fun b o hb z => k₅ b o hb (k04 b o hb z), ⟨_, hx₅⟩, Nat.le_of_lt (Nat.lt_of_lt_of_le z4 dn), dne, hn₅⟩)
/-- such an error, made -/
structure XMade (h h' : Heap) (e C d : Addr) (f : Str) (v : Value) : Prop where
  keep : ∀ b o, h.get? b = some o → h'.get? b = some o
  new : h.objs.size ≤ e
  obj : ∃ t1 : Addr, h'.get? e = some { cls := .ref C, dict := some d, data := .fields #[.ref t1, .none, .none, .none, .bool false, .none] }
  dbig : h.objs.size ≤ d
  dne : d ≠ e
  ns : h'.Ns1 d (fun y => if y = f then some v else none)
theorem vx_made (T : ExT P K mg x f C) {v : Value} (X : K.In s.heap) (hG : s.heap.Ns mainGlobals mg) (hB : ∃ mb, s.heap.Ns builtinsNs mb ∧ ∀ y : Str, y ≠ "__name__" → mb y = bootBuiltins y) (hlim : s.heap.NoLimit)
    (hroom : A.depth + 1 < recursionLimit) (hq : ∀ h' tk e d, XMade s.heap h' e C d f v → R (.ok (.ret (.ref e))) { s with heap := h', toks := tk }) :
    codeAny (model P w) A (.call (.ref C) ⟨[v], []⟩) R s := by
  obtain ⟨nm, q, N, bs, bm, sn, sub, ab, col, dd, k0, k1, k2, k3, k5, hC, hbm⟩ := T.cls
  obtain ⟨fI, _, _, _, _, _, _, _, _, _, _, _, _, _, _, _, _, _, _, _, _, _, _, _, hi, tI, _⟩ := T.fn
  obtain ⟨hp, g, dr, tk, os⟩ := s
  have k : ∀ b o, hp.get? b = some o → ((hp.push (kdv_tup [v])).push (excO C hp.objs.size)).get? b = some o := fun b o z => Heap.get?_push_of_some _ (Heap.get?_push_of_some _ z)
  have hget : ((hp.push (kdv_tup [v])).push (excO C hp.objs.size)).get? (hp.objs.size + 1) = some (excO C hp.objs.size) := by heap_get
  have hnx : K.lookup (hp.objs.size + 1) = none := by
    cases z : K.lookup (hp.objs.size + 1) with
    | none => rfl
    | some o => exact absurd (Nat.lt_of_succ_lt (Heap.lt_size (show hp.get? (hp.objs.size + 1) = some o from X _ _ z))) (Nat.lt_irrefl _)
  obtain ⟨mb, hmb, hbt⟩ := hB
  refine call_own PySem.F.excBase_ValueError (fun X => refsVE_contains X bm hbm) (X _ _ hC) (looks_findIn X hi) (fun self => bind_fn X self tI) (by show 1 ≤ sizeLine; decide) ?_
  refine vx_init (s := ⟨(hp.push (kdv_tup [v])).push (excO C hp.objs.size), g, dr, tk, os⟩) T (X.keeps k) (hG.keeps k) ⟨mb, hmb.keeps k, hbt⟩ (hlim.keeps k) hget hnx hroom hi fun h' tk' dx M => ⟨rfl, ?_⟩
  have z : hp.objs.size + 1 + 1 ≤ dx := by
    have q := M.dbig
    simpa only [Heap.size_push] using q
  exact hq h' tk' (hp.objs.size + 1) dx ⟨fun b o y => M.keep b o (Nat.ne_of_lt (Nat.lt_succ_of_lt (Heap.lt_size y))) (k b o y), Nat.le_succ _, M.obj, (by show hp.objs.size ≤ dx; omega), M.dne, M.ns⟩
end
end Fm
/-! the rule for making and raising it -/
namespace Fm
open PySem PySem.Spec PyProof.Rows L2
theorem relO_one {v : V} {u : Value} (r : RelV v u) (f g : Str) : RelO (List.lookup g [(f, v)]) (if g = f then some u else none) := by
  by_cases hw : g = f
  · subst hw
    rw [if_pos rfl]
    rw [show List.lookup g [(g, v)] = some v by simp [List.lookup]]
    exact r
  · rw [if_neg hw]
    have q : (g == f) = false := by simpa using hw
    rw [show List.lookup g [(f, v)] = none by simp [List.lookup, q]]
    trivial
section
variable {X : Cx} {C : Addr} {x f : Str}
def tMkX (C : Addr) (f : Str) (ta : TA) : L2.St → Hp → XK → Prop := fun σ H Q => ta σ H fun vs H1 => ∃ v, vs = [v] ∧ ∀ d, H1 d = none → Q (.ref C) (some d) (upd H1 d (.xd [(f, v)]))
theorem pmk_x {a : Expr} {ta : TA} {p pos : Pos} {k : Nat} (T : ExT X.prog X.K X.mg x f C) (hr : Room k X.A) (ha : PA X [a] ta) (hg : Gl X x := by rfl) (hdb : (x == ("__debug__" : Str)) = false := by decide)
    (he : starEach (a :: []) X.env = (false, eval a X.env) :: starEach [] X.env := by rfl) (hpl : (backTo pos (starEach [] X.env)).any (·.1) = false := by rfl) :
    PMk X (.Call (.Name x p) [a] [] pos) (tMkX C f ta) := by
  intro pins s σ H Q I h
  refine wpAny_Call_Name_kw (ld_glob I hg T.gC ?_ hdb)
  refine PySem.W.callWith_K (h₀ := X.base) I.ok.mod.kin T.kC (thn (ha.run pos pins s σ H _ I h) fun us s1 hh => ?_) he hpl
  obtain ⟨vs, H1, I1, r1, v, rfl, q1⟩ := hh
  refine ⟨I1.kIn, ?_⟩
  obtain ⟨v', rfl, rv⟩ := r1.one
  have keepB : ∀ b o, X.base.get? b = some o → s1.heap.get? b = some o := fun b o z => (I1.env0.bs b o z).1
  have hG := I1.env0.mod.glob.keeps keepB
  obtain ⟨mb, hmb, hbt⟩ := I1.env0.mod.blt
  show wpAny _ _ (call (.ref C) [v']) _ _ _
  have hlim := I1.nolimit
  have hmb' := hmb.keeps keepB
  obtain ⟨hp, g, dr, tk, os⟩ := s1
  refine wpAny_call (vx_made T I1.kIn hG ⟨mb, hmb', hbt⟩ hlim (by have := hr.dp; omega) fun h' tk' e d M => ?_)
  show MkP X pins σ Q (.ref e) ⟨h', g, dr, tk', os⟩
  obtain ⟨t1, hoe⟩ := M.obj
  have hns := M.ns
  obtain ⟨G', g1, g2⟩ := restrict h' fun b => decide (b ≠ e)
  have gk : ∀ b, b ≠ e → G'.get? b = h'.get? b := fun b hb => g1 b (decide_eq_true hb)
  have ge : G'.get? e = none := g2 e (by simp)
  have old : ∀ b o, hp.get? b = some o → G'.get? b = some o := fun b o q => (gk b (Nat.ne_of_lt (Nat.lt_of_lt_of_le (Heap.lt_size q) M.new))).trans (M.keep b o q)
  have ob : ObjOk X.prog X.w (upd H1 d (.xd [(f, v)])) G' d (.xd [(f, v)]) := ⟨_, hns.at (fun o q => (gk d M.dne).trans q), fun y => relO_one rv f y⟩
  have J : Inv X pins σ (upd H1 d (.xd [(f, v)])) ⟨G', g, dr, tk', os⟩ := I1.laid (t' := tk') old M.dbig ob
  refine ⟨e, _, _, ⟨G', g, dr, tk', os⟩, _, .ref C, some d, rfl, J, fun b o q => ?_, ge, hoe, ⟨rfl, rfl⟩, rfl, rfl, ?_, rfl, I1.bare, raises_own T.exC T.tyC, q1 d (I1.hok.fresh M.dbig)⟩
  · by_cases hb : b = e
    · have q' : G'.get? b = some o := q
      rw [hb, ge] at q'
      cases q'
    · exact (gk b hb).symm.trans q
  · rw [upd_ne (Ne.symm M.dne)]
    exact I1.hok.fresh M.new
end
end Fm
/-! a caught error: its class asked, its field read -/
namespace Fm
open PySem PySem.Spec PyProof.Rows L2
/-- a method of a class of the text -/
structure MethAt (K : PySem.W.Frag) (C : Addr) (m q : Str) (st : Stmt) (ps : List Str) where
  f : Addr
  fd : FuncData
  F : Fun K m q st f fd
  M : Meth K C m f
  b : Binds K fd ps []
/-- an error class without an __init__ of its own -/
structure ExN (K : PySem.W.Frag) (mg : Str → Option Value) (x : Str) (C : Addr) : Prop where
  gC : mg x = some (.ref C)
  exC : PySem.W.subIn K (.ref C) (.type "BaseException") = some true
  hdC : PySem.W.hasDictIn K C = true
  tyC : PySem.W.typeIn K (.ref C) = some (.type "type")
section
variable {X : Cx} {a : Addr} {oe : Obj} {cls : Value} {d : Option Addr} {pn : List (Addr × Obj)}
def rIsX (K : PySem.W.Frag) (a : Addr) (cls : Value) (d : Option Addr) : List V → Hp → VK → Prop := fun xs H Q => ∃ (D : Addr) (c : V) (cv : Value) (b : Bool), cls = .ref D ∧ ExcC K D ∧
  (d = none ∨ ∃ dd fs, d = some dd ∧ H dd = some (.xd fs)) ∧ xs = [.ref a, c] ∧ (∀ u, RelV c u → u = cv) ∧ PySem.W.kitOne K (.ref D) cv = some b ∧ Q (.bl b) H
theorem call_isX (hz : Zc cls d oe) (hf : ∃ vs, oe.data = .fields vs) : CallR (X.suite a ((a, oe) :: pn)) (.builtin "isinstance") (rIsX X.K a cls d) := by
  intro pins s σ H xs us Q I r h
  obtain ⟨D, c, cv, b, rfl, C, hd, rfl, hcv, e, q⟩ := h
  obtain ⟨u1, u2, rfl, rx, rt⟩ := vals2 r
  cases (show u1 = Value.ref a from rx)
  have ec := hcv _ rt
  subst ec
  obtain ⟨hget, _⟩ := I.pin (a, oe) (List.mem_append.mpr (.inl List.mem_cons_self))
  obtain ⟨vs, hv⟩ := hf
  have no : PySem.W.notCls oe = true := by
    unfold PySem.W.notCls
    rw [hv] <;> rfl
  obtain ⟨od, J⟩ : ∃ od, PySem.W.InstAt s.heap a oe D od := by
    rcases hd with rfl | ⟨dd, fs, rfl, hx⟩
    · refine ⟨none, hget, hz.1, no, ?_⟩
      rw [hz.2]
      trivial
    · obtain ⟨mA, hns, _⟩ := (show ObjOk X.prog X.w H s.heap dd (.xd fs) from I.hok dd _ hx)
      obtain ⟨od, ho, _⟩ := lookIn_ns hns
      refine ⟨some od, hget, hz.1, no, ?_⟩
      rw [hz.2]
      exact ho
  have hcl : (PySem.W.clsIn X.K D).isSome = true := by
    obtain ⟨cd, hc, _⟩ := PySem.W.any_some C.hd
    rw [hc]
    rfl
  exact PySem.W.kia_one (PySem.W.kitx_exc hcl C.hg C.hk C.hs C.ha C.hn C.ht C.hm) I.kIn J e (fun z => nomatch z) fun tk => ⟨.bl b, H, I.kept (t' := tk) fun _ _ z => z, rfl, q⟩
def tXfG (K : PySem.W.Frag) (a : Addr) (cls : Value) (d : Option Addr) (f : Str) (te : TE) : TE := fun σ H Q => te σ H fun x H1 => x = .ref a ∧ ∃ (C dd : Addr) (fs : List (Str × V)) (v : V), cls = .ref C ∧ XfC K C ∧ PySem.W.findIn K (.ref C) f = some none ∧
  d = some dd ∧ H1 dd = some (.xd fs) ∧ fs.lookup f = some v ∧ Q v H1
theorem pe_xfG {e : Expr} {te : TE} {pos : Pos} {n : Str} (hz : Zc cls d oe) (hf : ∃ vs, oe.data = .fields vs) (he : PE (X.suite a ((a, oe) :: pn)) e te) (hb : attributeBase e n X.env (eval e X.env) = eval e X.env := by rfl) :
    PE (X.suite a ((a, oe) :: pn)) (.Attribute e n pos) (tXfG X.K a cls d n te) := by
  refine ⟨fun pins s σ H Q I h => ?_⟩
  refine attr_of hb (thn (he.run pins s σ H _ I h) fun u s1 hh => ?_)
  obtain ⟨x, H1, I1, rx, rfl, C, dd, fs, v, rfl, T, hno, rfl, ea, l, q⟩ := hh
  obtain rfl : u = Value.ref a := rx
  obtain ⟨ha, _⟩ := I1.pin (a, oe) (List.mem_append_left _ List.mem_cons_self)
  obtain ⟨vs, hd⟩ := hf
  obtain ⟨mA, hns, hr⟩ := (show ObjOk X.prog X.w H1 s1.heap dd (.xd fs) from I1.hok dd _ ea)
  obtain ⟨od, ho, hl⟩ := lookIn_ns hns
  obtain ⟨u, hu, ru⟩ := RelO.some_of (v := v) (o := mA n) (by rw [← l]; exact hr n)
  have no : PySem.W.notCls oe = true := by
    unfold PySem.W.notCls
    rw [hd] <;> rfl
  have J : PySem.W.InstAt s1.heap a oe C (some od) := ⟨ha, hz.1, no, by rw [hz.2]; exact ho⟩
  exact HandSPX.exc_get I1.kIn J T.ga T.gg T.exC (PySem.W.findObj_own T.hdC hno rfl (by rw [hl, hu])) (handed_of ru) ⟨v, H1, I1.tok _, ru, q⟩
end
end Fm
/-! enumerate of a tuple -/
namespace Fm
open PySem PySem.Spec PyProof.Rows L2
section
variable {prog : Program} {w : World} {A : Around} {E : Value → Shared → Prop} {s : Shared}
theorem nx_tup_item {it t : Addr} {i : Nat} {items : Array Value} {x : Value} {Q : Value → Shared → Prop} (hit : s.heap.IsTupleIter it t i) (ht : s.heap.IsTuple t items) (hx : items[i]? = some x)
    (hQ : ∀ h', h'.IsTupleIter it t (i + 1) → Heap.SameBut it s.heap h' → Q x { s with heap := h' }) : wpAny (model prog w) A (Builtin.SmallTypes.nextOf (.ref it)) Q E s := by
  obtain ⟨o, ho, hc, hd⟩ := id hit
  obtain ⟨ol, hol, _, nl, hdl⟩ := ht
  unfold Builtin.SmallTypes.nextOf
  refine wpAny_bind (wpAny_callSpecial?_slot (name := Str.ofString "__next__") hit.typeIs PySem.F.slot_tuple_iterator_next
    (wpAny_call_entry PySem.F.slot_tuple_iterator_next hit.typeIs PySem.F.entry_tuple_iterator_next ?_ (PySem.F.args_tuple_iterator_next_1 _)))
  show wpAny (model prog w) _ (field (.ref it) 0 >>= _) _ _ s
  refine wpAny_bind (wpAny_field ho hd (x := .ref t) rfl ?_)
  show wpAny (model prog w) _ (if (Value.ref t == Value.none) = true then _ else _) _ _ s
  rw [if_neg (show ¬ ((Value.ref t == Value.none) = true) from Bool.false_ne_true)]
  show wpAny (model prog w) _ (field (.ref it) 1 >>= _) _ _ s
  refine wpAny_bind (wpAny_field ho hd (x := .int i 0) rfl ?_)
  show wpAny (model prog w) _ (seqItems? (.ref t) >>= _) _ _ s
  refine wpAny_bind (wpAny_seqItems hol hdl ?_)
  simp only [Int.toNat_natCast, hx]
  refine wpAny_bind (wpAny_setField ho hd (by simp) (wpAny_pure ⟨x, rfl, wpAny_pure (hQ _ ?_ (Heap.SameBut.update ..))⟩))
  refine ⟨_, Heap.get?_update_self _ ho (Obj.isFreed_of_fields (Obj.data_mapFields hd _)), (Obj.cls_mapFields ..).trans hc, ?_⟩
  rw [Obj.data_mapFields hd]
  simp [rawInt]
theorem nx_tup_end {it t : Addr} {i : Nat} {items : Array Value} {Q : Value → Shared → Prop} (hh : A.handled = none) (hit : s.heap.IsTupleIter it t i) (ht : s.heap.IsTuple t items) (hx : items[i]? = none)
    (hE : ∀ h' e, Heap.ExtBut it s.heap h' → (∃ o, h'.get? e = some o ∧ o.cls = .type "StopIteration") → E (.ref e) { s with heap := h' }) : wpAny (model prog w) A (Builtin.SmallTypes.nextOf (.ref it)) Q E s := by
  obtain ⟨o, ho, hc, hd⟩ := id hit
  obtain ⟨ol, hol, _, nl, hdl⟩ := ht
  unfold Builtin.SmallTypes.nextOf
  refine wpAny_bind (wpAny_callSpecial?_slot (name := Str.ofString "__next__") hit.typeIs PySem.F.slot_tuple_iterator_next
    (wpAny_call_entry PySem.F.slot_tuple_iterator_next hit.typeIs PySem.F.entry_tuple_iterator_next ?_ (PySem.F.args_tuple_iterator_next_1 _)))
  show wpAny (model prog w) _ (field (.ref it) 0 >>= _) _ _ s
  refine wpAny_bind (wpAny_field ho hd (x := .ref t) rfl ?_)
  show wpAny (model prog w) _ (if (Value.ref t == Value.none) = true then _ else _) _ _ s
  rw [if_neg (show ¬ ((Value.ref t == Value.none) = true) from Bool.false_ne_true)]
  show wpAny (model prog w) _ (field (.ref it) 1 >>= _) _ _ s
  refine wpAny_bind (wpAny_field ho hd (x := .int i 0) rfl ?_)
  show wpAny (model prog w) _ (seqItems? (.ref t) >>= _) _ _ s
  refine wpAny_bind (wpAny_seqItems hol hdl ?_)
  simp only [Int.toNat_natCast, hx]
  refine wpAny_bind (wpAny_rule (wpAny_bind (wpAny_setField ho hd (by simp) ?_)))
  show wpAny (model prog w) _ (newExc (.type "StopIteration") [] >>= _) _ _ _
  refine wpAny_bind ?_
  simp only [newExc, newTuple]
  refine wpAny_bind (wpAny_newObj_type ?_ (by size_fits))
  refine wpAny_bind (m := firstArgMember _ _) (wpAny_of_eq (a := Value.none) (by first | rfl | (simp only [firstArgMember]; rfl)) ?_)
  refine wpAny_newObj_type ?_ (by size_fits)
  simp only [raiseNew]
  refine wpAny_bind (wpAny_handled ?_)
  first | rw [show A.in1.handled = none from hh] | rw [hh]
  refine wpAny_bind (wpAny_pure (wpAny_throw ?_))
  exact hE _ _ (((Heap.SameBut.update ..).extBut.push _).push _) ⟨_, Heap.get?_push_size _ rfl, rfl⟩
end
theorem draws_tup {prog : Program} {w : World} {A : Around} (hh : A.handled = none) (it t : Addr) (hne : t ≠ it) (items : Array Value) :
    Draws prog w A it [it, t] items.size (fun i v => items[i]? = some v) (fun i h => h.IsTupleIter it t i ∧ h.IsTuple t items) where
  live := fun _ _ st => let ⟨o, ho, _⟩ := st.1; ⟨o, ho⟩
  frame := fun _ _ _ st hk => ⟨st.1.at fun o e => hk it (by simp) o e, let ⟨o, ho, r⟩ := st.2; ⟨o, hk t (by simp) o ho, r⟩⟩
  item := fun i s Q E hi st hQ => by
    refine nx_tup_item st.1 st.2 (x := items[i]) (by simp [hi]) fun h' hit' hs' => ?_
    exact hQ _ h' s.toks (by simp [hi]) ⟨hit', let ⟨o, ho, r⟩ := st.2; ⟨o, (hs'.2 t hne).trans ho, r⟩⟩ hs'
  done := fun s Q E st hE => nx_tup_end hh st.1 st.2 (by simp) hE
theorem enum_newT (l : Addr) (items : Array Value) (n : Nat) (dct : Option Addr) (sl : Array (Option Value)) :
    Meets (Builtin.«enumerate.__new__» ⟨[.type "enumerate", .ref l], []⟩) (fun _ R s => s.heap.get? l = some { cls := .type "tuple", dict := dct, data := .seq items n, slots := sl } ∧
      R (.ok (.ret (.ref (s.heap.push { cls := .type "tuple_iterator", data := .fields #[.ref l, .int 0 0] }).objs.size)))
        { s with heap := (s.heap.push { cls := .type "tuple_iterator", data := .fields #[.ref l, .int 0 0] }).push { cls := .type "enumerate", data := .fields #[.none, .bool false, .ref s.heap.objs.size, rawInt 0, .none, .none] } }) :=
  .of_wp fun prog w A R s h => by
    obtain ⟨hp, g, d, tk, os⟩ := s
    obtain ⟨hl, h⟩ := h
    have hsub := sub_enumerate
    have hL : Heap.IsTuple (Shared.heap ⟨hp, g, d, tk, os⟩) l items := ⟨_, hl, rfl, n, rfl⟩
    wp_walk using AutoSeq1.wpAny_loadPart' hl
    refine wpAny_stack_any fun st => wpAny_pure ?_
    split
    · rename_i c _ _ _ _ _
      cases (c == Value.type "enumerate")
      · wp_walk using AutoSeq1.wpAny_loadPart' hl, wpAny_pyIter_tuple hL
        exact ⟨_, rfl, h⟩
      · wp_walk using AutoSeq1.wpAny_loadPart' hl, wpAny_pyIter_tuple hL
        exact ⟨_, rfl, h⟩
    · wp_walk using AutoSeq1.wpAny_loadPart' hl, wpAny_pyIter_tuple hL
      exact ⟨_, rfl, h⟩
theorem call_enumT {prog : Program} {w : World} {A : Around} {E : Value → Shared → Prop} {s : Shared} {l : Addr} {items : Array Value} {Q : Value → Shared → Prop} (hL : s.heap.IsTuple l items)
    (h : ∀ h', IsEnum h' (s.heap.objs.size + 1) s.heap.objs.size 0 .none → h'.IsTupleIter s.heap.objs.size l 0 → h'.objs.size = s.heap.objs.size + 2 →
      (∀ b o, s.heap.get? b = some o → h'.get? b = some o) → Q (.ref (s.heap.objs.size + 1)) { s with heap := h' }) :
    wpAny (model prog w) A (call (.type "enumerate") [.ref l]) Q E s := by
  obtain ⟨⟨c, dct, dt, sl⟩, hl, hc, n, hd⟩ := hL
  simp only at hc hd
  subst hc hd
  refine callType_new PySem.F.called_enumerate (by decide) (PySem.F.typeCall_enumerate_1 _) (PySem.F.newCall_enumerate_1 _) (fun obj => PySem.F.args_object_init_2 obj _) PySem.F.entry_enumerate_new (enum_newT l items n dct sl) ⟨hl, ?_⟩
  have hz : (s.heap.push { cls := .type "tuple_iterator", data := .fields #[.ref l, .int 0 0] }).objs.size = s.heap.objs.size + 1 := Heap.size_push ..
  show _ ∧ _
  rw [hz]
  have he : IsEnum ((s.heap.push { cls := .type "tuple_iterator", data := .fields #[.ref l, .int 0 0] }).push { cls := .type "enumerate", data := .fields #[.none, .bool false, .ref s.heap.objs.size, rawInt 0, .none, .none] }) (s.heap.objs.size + 1) s.heap.objs.size 0 .none := by
    have := Heap.get?_push_size (s.heap.push { cls := .type "tuple_iterator", data := .fields #[.ref l, .int 0 0] })
      (o := { cls := .type "enumerate", data := .fields #[.none, .bool false, .ref s.heap.objs.size, rawInt 0, .none, .none] }) rfl
    rw [hz] at this
    exact this
  refine ⟨⟨_, he, rfl⟩, h _ he ⟨_, Heap.get?_push_of_some _ (Heap.get?_push_size _ rfl), rfl, rfl⟩ (by rw [Heap.size_push, hz]) fun b o x => Heap.get?_push_of_some _ (Heap.get?_push_of_some _ x)⟩
theorem enum_endT {prog : Program} {w : World} {A : Around} {E : Value → Shared → Prop} {s : Shared} {e it l : Addr} {i : Nat} {items : Array Value} {old : Value} {Q : Option Value → Shared → Prop} (hh : A.handled = none)
    (he : IsEnum s.heap e it i old) (hit : s.heap.IsTupleIter it l i) (hl : s.heap.IsTuple l items) (hx : items[i]? = none) (hQ : ∀ h', Heap.ExtBut it s.heap h' → Q none { s with heap := h' }) : wpAny (model prog w) A (pyNext (.ref e)) Q E s := by
  have hT : s.TypeIs (.ref e) "enumerate" := ⟨_, he, rfl⟩
  unfold pyNext
  refine wpAny_bind (wpAny_attempt (wpAny_callSpecial?_slot (name := Str.ofString "__next__") hT PySem.F.slot_enumerate_next
    (wpAny_call_entry PySem.F.slot_enumerate_next hT PySem.F.entry_enumerate_next ?_ (PySem.F.args_enumerate_next_1 _))))
  show wpAny (model prog w) _ (field (.ref e) 2 >>= _) _ _ _
  refine wpAny_bind (wpAny_field he rfl (x := .ref it) rfl ?_)
  refine wpAny_bind (nx_tup_end hh hit hl hx fun h' x he' hx' => ?_)
  obtain ⟨o, ho, hc⟩ := hx'
  refine wpAny_bind (wpAny_isInstance (T := "StopIteration") (b := true) ⟨o, ho, hc⟩ isSubtype_stop ?_)
  exact wpAny_pure (hQ _ he')
/-- the tuple at a, its items in new pairs -/
def IteT (K : PySem.W.Frag) (a : Addr) : It :=
  ⟨fun i H => ∃ (xs : List V) (x : V), SqT K H a xs ∧ xs[i]? = some x, fun i H v H' => ∃ T x, v = .ref T ∧ H T = none ∧ H' = upd H T (.tup [.int (i : Nat), x]) ∧ ∀ xs, SqT K H a xs → xs[i]? = some x, fun i H => ∃ xs : List V, SqT K H a xs ∧ xs.length ≤ i⟩
theorem turn_enumT {P : Program} {w : World} {K : PySem.W.Frag} {elts : List Expr} {kk : Nat} {tpos : Pos} (a e it : Addr) (hai : a ≠ it) (hae : a ≠ e) :
    Turn P w K (.Tuple elts kk tpos) (IteT K a) [e, it] e (fun i h => (∃ old, IsEnum h e it ((i : Nat) : Int) old) ∧ h.IsTupleIter it a i ∧ e ≠ it) where
  mem := by simp
  obj := fun i h st b hb => by
    obtain ⟨⟨old, he⟩, ⟨o, ho, hc, hd⟩, _⟩ := st
    have e' : b = e ∨ b = it := by simpa using hb
    rcases e' with z | z
    · rw [z]; exact ⟨_, he, fun v q => nomatch q⟩
    · rw [z]; exact ⟨o, ho, fun v q => by rw [hd] at q; cases q⟩
  keep := fun i h h' st k => let ⟨⟨old, he⟩, hi, hne⟩ := st; ⟨⟨old, k e (by simp) _ he⟩, hi.at fun o q => k it (by simp) o q, hne⟩
  item := by
    intro X hP hw hK hc i pins s σ H E I hf st hg
    subst hP hw hK
    obtain ⟨⟨old, he⟩, hit, hne⟩ := st
    obtain ⟨xs, x, hq, hx⟩ := hg
    obtain ⟨its, rv, p, hz⟩ := I.tuple hq
    obtain ⟨u, hu, ru⟩ := rv.get hx
    have hT0 : s.heap.IsTuple a its.toArray := p
    have hel : e < s.heap.objs.size := Heap.lt_size he
    have hil : it < s.heap.objs.size := by obtain ⟨_, q, _⟩ := hit; exact Heap.lt_size q
    have hiz : i < its.toArray.size := by
      rw [List.size_toArray]
      exact (List.getElem?_eq_some_iff.mp hu).1
    refine wpAny_pyNext_enum_itemD (draws_tup (show X.A.in1.handled = none from I.ok.hd hc) it a hai its.toArray) he ⟨hit, hT0⟩ hiz hne (by simp [hne, hae.symm]) fun x' h' tk hP' ho hst' hT hsz hk => ?_
    have ex : x' = u := by
      have : its.toArray[i]? = some x' := hP'
      rw [List.getElem?_toArray, hu] at this
      exact (Option.some.inj this).symm
    subst ex
    refine ⟨_, rfl, wpAny_letOwnedTupleGo_enum (s := { s with heap := h', toks := tk + 1 }) ho fun h'' he' sb => ?_⟩
    have hT2 : h''.get? s.heap.objs.size = some { cls := .type "tuple", data := .seq #[.int i tk, x'] } := (sb.2 _ (Nat.ne_of_gt hel)).trans hT
    have new : ObjOk X.prog X.w (upd H s.heap.objs.size (.tup [.int (i : Nat), x])) h'' s.heap.objs.size (.tup [.int (i : Nat), x]) :=
      ⟨by show 2 ≤ sizeLine; decide, [.int i tk, x'], .cons ⟨_, rfl⟩ (.cons ru .nil), ⟨_, hT2, rfl, _, rfl⟩⟩
    have I1 : Inv X pins σ (upd H s.heap.objs.size (.tup [.int (i : Nat), x])) { s with heap := h'', toks := tk + 1 } :=
      I.turnedNew (ch := [e, it]) (fun b ob hb q => (sb.2 b (fun z => hb (by simp [z]))).trans (hk b ob (fun z => hb (by simp [z])) (fun z => hb (by simp [z])) q)) hf (Nat.le_refl _) new
    refine ⟨.ref s.heap.objs.size, _, I1, rfl, ⟨_, x, rfl, I.hok.fresh (Nat.le_refl _), rfl, fun ys hy => by rw [I.tuple_inj hy hq]; exact hx⟩, ⟨⟨x', ?_⟩, hst'.1.at fun o q => (sb.2 it (Ne.symm hne)).trans q, hne⟩, fun b hb => ?_⟩
    · have e1 : ((i + 1 : Nat) : Int) = (i : Int) + 1 := by omega
      rw [e1]
      exact he'
    · have hb' : b < s.heap.objs.size := by
        have e' : b = e ∨ b = it := by simpa using hb
        rcases e' with z | z
        · rw [z]; exact hel
        · rw [z]; exact hil
      rw [upd_ne (Nat.ne_of_lt hb')]
      exact (hf b hb).1
  done := by
    intro X hP hw hK hc i pins s σ H E I hf st hg
    subst hP hw hK
    obtain ⟨⟨old, he⟩, hit, hne⟩ := st
    obtain ⟨xs, hq, hx⟩ := hg
    obtain ⟨its, rv, p, hz⟩ := I.tuple hq
    obtain ⟨f0, f1, f2, f3, f4, f5⟩ := hf it (by simp)
    have hl := rv.length
    have hT0 : s.heap.IsTuple a its.toArray := p
    exact enum_endT (I.ok.hd hc) he hit hT0 (by simp; omega) fun h' eb => ⟨rfl, I.turned (t' := s.toks) (fun b o hb q => eb b o hb q) f0 f1 f3 f4 f5⟩
  self := fun A i s Q E st h => let ⟨⟨_, he⟩, _⟩ := st; wpAny_pyIter_enum he h
def iEnumG (K : PySem.W.Frag) (ta : TA) : TI := fun σ H R => ta σ H fun vs H1 => ∃ a xs, vs = [.ref a] ∧ ((SqL K H1 a xs ∧ R (Ite K a) H1) ∨ (SqT K H1 a xs ∧ R (IteT K a) H1))
theorem bt_enumerate : bootBuiltins "enumerate" = some (.type "enumerate") := by decide +kernel
theorem pi_enumG {X : Cx} {e : Expr} {ta : TA} {p pos tpos : Pos} {elts : List Expr} {kk : Nat} (hg : Gl X "enumerate") (hm : X.mg "enumerate" = none) (ha : PA X [e] ta) (hs : starEach [e] X.env = [(false, eval e X.env)] := by rfl) :
    PI X (.Tuple elts kk tpos) (.Call (.Name "enumerate" p) [e] [] pos) (iEnumG X.K ta) := by
  refine ⟨fun pins s σ H R I h => ?_⟩
  refine Call_ (ld_blt I hg hm bt_enumerate (PyProof.Rows.callWith_type1 (thn (ha.run pos pins s σ H _ I h) fun us s1 ⟨vs, H1, I1, r1, q1⟩ => ?_) hs rfl))
  obtain ⟨a, xs, rfl, q⟩ := q1
  obtain rfl := Vals.ref1 r1
  have fp : ∀ b ∈ [s1.heap.objs.size + 1, s1.heap.objs.size], FpOk X pins H1 b := fun b hb => by
    have hle : s1.heap.objs.size ≤ b := by
      rcases (show b = s1.heap.objs.size + 1 ∨ b = s1.heap.objs.size by simpa using hb) with z | z <;> omega
    exact I1.fpOk hle (I1.hok.fresh hle)
  rcases q with ⟨hq, q⟩ | ⟨hq, q⟩
  · obtain ⟨its, rv, p', hz⟩ := I1.list hq
    refine call_enumerate_list p'.isList fun h' he hit hsz hk => wpAny_pyIter_enum he ?_
    have I2 : Inv X pins σ H1 { s1 with heap := h' } := I1.kept (t' := s1.toks) hk
    exact ⟨s1.heap.objs.size + 1, [s1.heap.objs.size + 1, s1.heap.objs.size], _, _, H1, rfl, I2, turn_enum a (s1.heap.objs.size + 1) s1.heap.objs.size, ⟨⟨.none, he⟩, hit, Nat.succ_ne_self _⟩, fp, q⟩
  · obtain ⟨its, rv, p', hz⟩ := I1.tuple hq
    have hT0 : s1.heap.IsTuple a its.toArray := p'
    have hal : a < s1.heap.objs.size := by
      obtain ⟨o, ho, _⟩ := hT0
      exact Heap.lt_size ho
    refine call_enumT hT0 fun h' he hit hsz hk => wpAny_pyIter_enum he ?_
    have I2 : Inv X pins σ H1 { s1 with heap := h' } := I1.kept (t' := s1.toks) hk
    exact ⟨s1.heap.objs.size + 1, [s1.heap.objs.size + 1, s1.heap.objs.size], _, _, H1, rfl, I2, turn_enumT a (s1.heap.objs.size + 1) s1.heap.objs.size (Nat.ne_of_lt hal) (Nat.ne_of_lt (Nat.lt_succ_of_lt hal)), ⟨⟨.none, he⟩, hit, Nat.succ_ne_self _⟩, fp, q⟩
/-- a loop over enumerate of a list or tuple that stays -/
theorem for_enumG {K : PySem.W.Frag} {a : Addr} {xs : List V} {g : TG} {tb : TS} {D : Ends} {σ : L2.St} {H : Hp} {R : Prop} (hS : SqL K H a xs ∨ SqT K H a xs) (Pv : Nat → L2.St → Hp → Prop) (h0 : Pv 0 σ H) (hk : ∀ i σ' H', Pv i σ' H' → Mv [] H H')
    (hs : ∀ i x T σ' H', xs[i]? = some x → Pv i σ' H' → H' T = none → g (.ref T) σ' (upd H' T (.tup [.int (i : Nat), x])) fun σ2 H2 => tb { D with nx := Pv (i + 1), ct := Pv (i + 1), bk := D.nx } σ2 H2) (hd : ∀ σ' H', Pv xs.length σ' H' → D.nx σ' H') :
    (SqL K H a xs ∧ ∃ W : Nat → Nat → L2.St → Hp → Prop, (∃ m, W 0 m σ H) ∧ ∀ i m σ H, W i m σ H →
      ((Ite K a).stop i H ∧ D.nx σ H) ∨ ((Ite K a).go i H ∧ ∃ N : L2.St → Hp → Prop, (∀ σ' H', N σ' H' → ∃ m', m' < m ∧ W (i + 1) m' σ' H') ∧ ∀ x H', (Ite K a).yld i H x H' → g x σ H' fun σ2 H2 => tb { D with nx := N, ct := N, bk := D.nx } σ2 H2)) ∨
    (SqT K H a xs ∧ ∃ W : Nat → Nat → L2.St → Hp → Prop, (∃ m, W 0 m σ H) ∧ ∀ i m σ H, W i m σ H →
      ((IteT K a).stop i H ∧ D.nx σ H) ∨ ((IteT K a).go i H ∧ ∃ N : L2.St → Hp → Prop, (∀ σ' H', N σ' H' → ∃ m', m' < m ∧ W (i + 1) m' σ' H') ∧ ∀ x H', (IteT K a).yld i H x H' → g x σ H' fun σ2 H2 => tb { D with nx := N, ct := N, bk := D.nx } σ2 H2)) := by
  rcases hS with hS | hS
  · refine .inl ⟨hS, fun i m σ H => m = xs.length - i ∧ i ≤ xs.length ∧ Pv i σ H, ⟨xs.length, by simp, Nat.zero_le _, h0⟩, ?_⟩
    rintro i m σ H ⟨rfl, hi, p⟩
    have q := (hk i σ H p).same.seq hS
    by_cases hlt : i < xs.length
    · refine .inr ⟨⟨xs, xs[i], q, by simp [hlt]⟩, Pv (i + 1), fun σ' H' p' => ⟨xs.length - (i + 1), by omega, rfl, hlt, p'⟩, fun x H' y => ?_⟩
      obtain ⟨T, x', rfl, hT, rfl, y⟩ := y
      exact hs i x' T σ _ (y xs q) p hT
    · have e : i = xs.length := by omega
      subst e
      exact .inl ⟨⟨xs, q, Nat.le_refl _⟩, hd σ H p⟩
  · refine .inr ⟨hS, fun i m σ H => m = xs.length - i ∧ i ≤ xs.length ∧ Pv i σ H, ⟨xs.length, by simp, Nat.zero_le _, h0⟩, ?_⟩
    rintro i m σ H ⟨rfl, hi, p⟩
    have q := (hk i σ H p).sqT hS
    by_cases hlt : i < xs.length
    · refine .inr ⟨⟨xs, xs[i], q, by simp [hlt]⟩, Pv (i + 1), fun σ' H' p' => ⟨xs.length - (i + 1), by omega, rfl, hlt, p'⟩, fun x H' y => ?_⟩
      obtain ⟨T, x', rfl, hT, rfl, y⟩ := y
      exact hs i x' T σ _ (y xs q) p hT
    · have e : i = xs.length := by omega
      subst e
      exact .inl ⟨⟨xs, q, Nat.le_refl _⟩, hd σ H p⟩
end Fm
namespace Fm
open PySem PySem.Spec PyProof.Rows L2 SlX
section
variable {X : Cx}
/-- dict(d) -/
def rDictD : List V → Hp → VK → Prop := fun xs H Q => ∃ (a : Addr) (kvs : List (L2.Key × V)), xs = [.ref a] ∧ H a = some (.dK kvs) ∧ ∀ p, H p = none → Q (.ref p) (upd H p (.dK kvs))
theorem call_dictD : CallR X (.type "dict") rDictD := by
  intro pins s σ H xs us Q I r h
  obtain ⟨a, kvs, rfl, ha, q⟩ := h
  obtain rfl := Vals.ref1 r
  obtain ⟨z, hd, vs, kv, hD⟩ := dk_of I.hok ha
  refine PySem.kt_call_dict hd hD (by rw [← kv.length]; exact z) fun h' hm hs => ?_
  have hk : ∀ b o, s.heap.get? b = some o → h'.get? b = some o := fun b o e => (hs.2 b (Nat.ne_of_lt (Heap.lt_size e))).trans (Heap.get?_push_of_some _ e)
  have hm' : (s.heap.objs.size == sysModules) = false := beq_eq_false_iff_ne.mpr (Nat.ne_of_gt I.big)
  exact ⟨.ref s.heap.objs.size, _, I.laid (t' := s.toks) hk (Nat.le_refl _) (show ObjOk X.prog X.w _ _ _ (.dK kvs) from ⟨z, hm', vs, kv, hm⟩), rfl, q _ (I.hok.fresh (Nat.le_refl _))⟩
/-- len(set(x)), x a list or tuple of ints -/
def tLenSetG (K : PySem.W.Frag) (ta : TE) : TE := fun σ H Q => ta σ H fun x H1 => ∃ (l : Addr) (ns : List Int), x = .ref l ∧ (SqL K H1 l (ns.map V.int) ∨ SqT K H1 l (ns.map V.int)) ∧ ns.length ≤ 4000 ∧
  ∀ ks : List Int, ks.Nodup → (∀ k, k ∈ ks ↔ k ∈ ns) → Q (.int ks.length) H1
theorem pe_lenSetG {a : Expr} {ta : TE} {p p2 q pos : Pos} (hc : X.calm = true) (hg : Gl X "len") (hm : X.mg "len" = none) (hg2 : Gl X "set") (hm2 : X.mg "set" = none) (ha : PE X a ta)
    (na : starEach [a] X.env = (false, eval a X.env) :: starEach [] X.env := by rfl) : PE X (.Call (.Name "len" p) [.Call (.Name "set" p2) [a] [] q] [] pos) (tLenSetG X.K ta) := by
  refine ⟨fun pins s σ H Q I h => ?_⟩
  refine Call_ (ld_blt I hg hm PySem.boot_len ?_)
  refine PyProof.Rows.callWith_builtin1 (PyProof.Rows.args_cons ?_ rfl) rfl rfl
  refine Call_ (ld_blt I hg2 hm2 PyProof.Rows.boot_set ?_)
  refine PyProof.Rows.callWith_type1 (PyProof.Rows.args_cons (thn (ha.run pins s σ H _ I h) fun v s1 ⟨x, H1, I1, r1, q1⟩ => PyProof.Rows.args_nil ?_) na) na rfl
  obtain ⟨l, ns, rfl, hq, hl, q1⟩ := q1
  cases r1
  have hb : ns.length + 1 < scanBound := Nat.lt_of_le_of_lt (Nat.succ_le_succ hl) (by decide)
  have fin : ∀ (h' : Heap) (tk c : Nat), SetR X.w h' s1.heap.objs.size (fun j => decide (j ∈ ns)) c → (∀ b o, s1.heap.get? b = some o → h'.get? b = some o) →
      wpAny (model X.prog X.w) X.A (call (.builtin "len") [.ref s1.heap.objs.size]) (EP X pins σ Q) X.xe { s1 with heap := h', toks := tk } := by
    intro h' tk c R hk
    have I2 : Inv X pins σ H1 { s1 with heap := h', toks := tk } := I1.kept hk
    obtain ⟨o, es, ep, t, ho, hex, hd, h4, h5, h6, h7, h8, h9, h10⟩ := id R
    have hle : (es.toList.map keyOf).length = es.size := by rw [List.length_map, Array.length_toList]
    have hbd : (es.size : Int) < 2 ^ 63 := by
      have : scanBound < 2 ^ 62 := by decide
      omega
    refine PySem.call_len_set ho hex hd h8 hbd ⟨.int es.size, H1, I2.tok _, ⟨_, rfl⟩, ?_⟩
    have := q1 (es.toList.map keyOf) h5 fun k => by rw [← h6 k]; simp
    rw [hle] at this
    exact this
  rcases hq with hq | hq
  · obtain ⟨its, r, pl, hz⟩ := I1.list hq
    refine set_of_list ns (I1.ok.hd hc) pl.isList (by simpa using r.ints) hb fun h' tk c R hk => ?_
    exact PyProof.Rows.args_nil (fin h' tk c R hk)
  · obtain ⟨its, r, pl, hz⟩ := I1.tuple hq
    refine call_set_tupI ns (I1.ok.hd hc) (show s1.heap.IsTuple l its.toArray from pl) (by simpa using r.ints) hb fun h' tk c R _ hk => ?_
    exact PyProof.Rows.args_nil (fin h' tk c R hk)
/-- o.f = value as a target -/
def gSl (K : PySem.W.Frag) (to : TE) (f : Str) : TG := fun y σ H Q => to σ H fun x H2 => ∃ a C dx p vs i, x = .ref a ∧ Slt H2 a C dx vs ∧ SCls K C ∧ Slot1 K C f p i ∧ Q σ (slH H2 a C dx (putS i y vs))
theorem pg_sl {o : Expr} {to : TE} {f : Str} {pos : Pos} (ho : PE X o to) (ha : ∀ v, assign (.Attribute o f pos) X.env v = (do
      let ov ← holding [v] (eval o X.env)
      standAt pos.atName
      holding [v, ov] (setAttr ov f v)
      release [v, ov] []) := by intro _; rfl) : PG X (.Attribute o f pos) (gSl X.K to f) := by
  refine ⟨fun pins s σ H v u Q I r h => ?_⟩
  rw [ha]
  refine wpAny_bind (wpAny_holding (thn (ho.run pins s σ H _ I h) fun ov s1 ⟨x, H1, I1, r1, a, C, dx, p, vs, i, ex, hs, hc, ht, q1⟩ => ?_))
  subst ex
  obtain rfl : ov = Value.ref a := r1
  refine wpAny_bind (wpAny_standAt (wpAny_bind (wpAny_holding (setslot_ok I1 hs hc ht r fun s2 I2 => ?_))))
  exact wpAny_release ⟨σ, _, I2, q1⟩
end
theorem bt_ValueError : bootBuiltins "ValueError" = some (.type "ValueError") := by decide +kernel
theorem bt_min : bootBuiltins "min" = some (.builtin "min") := by decide +kernel
theorem fnR_of {P : Program} {w : World} {K : PySem.W.Frag} {mg : Str → Option Value} {base : Heap} {CX : CXT} {k : Nat} {f : Addr} {fd : FuncData} {ps : List Str} {sp : Sp} (F : FnOk P w K mg base CX k f fd ps sp) (b : Binds K fd ps []) : FnR P w K mg base CX k f sp := by
  intro A outer s H us vs Q E hr e0 r h
  have hl : us.length = ps.length := by rw [← r.length]; exact F.len _ _ _ _ h
  have kin : K.In s.heap := e0.mod.kin.keeps fun b o e => (e0.bs b o e).1
  have b' := b s us kin (by rw [List.append_nil]; exact hl)
  rw [List.append_nil] at b'
  exact F.run A outer s H ⟨us, []⟩ us vs Q E hr e0 b' r h
section
variable {X : Cx} {CX : CXT} {k : Nat} {C g : Addr} {fd : FuncData} {ps : List Str} {sp : Sp} {E : L2.St → XK} {m : Str} {pos apos : Pos} {e o : Expr} {es : List Expr} {ta : TE} {t : TA}
/-- o.m(..) where what is raised is wished for at the slots -/
def tMethSlS (C : Addr) (sp : Sp) (E : L2.St → XK) (ta : TE) (t : TA) : TE := fun σ H Q => ta σ H fun x H1 => ∃ a dx vs, x = .ref a ∧ Slt H1 a C dx vs ∧ t σ H1 fun ws H2 => sp (x :: ws) H2 Q (E σ)
theorem pe_methSlS {pl : Sem Bool} (he : PE X o ta) (c : SCls X.K C) (hm : Meth X.K C m g) (F : FnOk X.prog X.w X.K X.mg X.base CX k g fd ps sp) (hr : Room k X.A) (hb : Binds X.K fd ps []) (hx : ∀ σ, PassesAt CX X σ (E σ)) (ha : PA X (e :: es) t)
    (hst : starEach (e :: es) X.env = (false, eval e X.env) :: starEach es X.env := by rfl) (hpl : (backTo pos (starEach es X.env)).any (·.1) = false := by rfl)
    (ht : eval (.Call (.Attribute o m apos) (e :: es) [] pos) X.env = (do
      let ov ← eval o X.env
      standAt apos.atName
      let (f, first) ← holding [ov] (getMethod ov m pl)
      callWith pos f first (backTo pos (starEach (e :: es) X.env)) (backToKw pos (keywordEach [] X.env))) := by rfl) :
    PE X (.Call (.Attribute o m apos) (e :: es) [] pos) (tMethSlS C sp E ta t) := by
  refine ⟨fun pins s σ H Q I h => ?_⟩
  refine PySem.W.methodCall_KW (pl := pl) (thn (he.run pins s σ H _ I h) fun u s1 ⟨x, H1, I1, rx, a, dx, vs, ex, hsl, q⟩ => ?_) ht
  subst ex
  obtain rfl : u = Value.ref a := rx
  refine getmethsl_ok I1 hsl c hm ?_
  refine PySem.W.callWith_K (first := [.ref a]) (h₀ := X.base) I.ok.mod.kin hm.kp (thn (ha.run pos pins s1 σ H1 _ I1 q) fun us s2 ⟨ws, H2, I2, r, q2⟩ => ⟨I2.kIn, ?_⟩) hst hpl
  exact run_fnS (us := .ref a :: us) (vs := .ref a :: ws) F hr hb (hx σ) I2 (.cons rfl r) q2
end
section
variable {X : Cx}
/-- sorted: a dict's text keys, texts, ints -/
def rSortDk : List V → Hp → VK → Prop := fun xs H Q => ∃ (a : Addr) (kvs : List (L2.Key × V)) (ks : List Str), xs = [.ref a] ∧ Rd H a (.dK kvs) ∧ kvs.map (·.1) = ks.map Sum.inr ∧ ks.length < 64 ∧ ∀ ys p, ys.Perm ks → sortedS ys = true → H p = none → Q (.ref p) (upd H p (.lst (ys.map V.str)))
def rSortA (K : PySem.W.Frag) : List V → Hp → VK → Prop := fun xs H Q => rSortDk xs H Q ∨ (rSortedS K xs H Q ∨ rSorted K xs H Q)
theorem cr_sortA (hc : X.calm = true) : CallR X (.builtin "sorted") (rSortA X.K) := CallR.or (call_sortedD hc) (CallR.or cr_sortedS cr_sorted)
def rDictP (K : PySem.W.Frag) : List V → Hp → VK → Prop := fun xs H Q => ∃ (a : Addr) (ps : List Addr) (kvs : List (L2.Key × V)), xs = [.ref a] ∧ SqL K H a (ps.map V.ref) ∧ Paired (fun p kv => SqT K H p [kV kv.1, kv.2]) ps kvs ∧ ∀ p, H p = none → Q (.ref p) (upd H p (.dK (mergeK [] kvs)))
def rDictG (K : PySem.W.Frag) : List V → Hp → VK → Prop := fun xs H Q => rDictP K xs H Q ∨ rDictD xs H Q
theorem call_dictG (hc : X.calm = true) : CallR X (.type "dict") (rDictG X.K) := CallR.or (call_dictP hc) call_dictD
def rListG (K : PySem.W.Frag) : List V → Hp → VK → Prop := fun xs H Q => rListOf K xs H Q ∨ rListD xs H Q
theorem call_listA (hc : X.calm = true) : CallR X (.type "list") (rListG X.K) := CallR.or call_listG (call_list_dK hc)
end
theorem kitOne_self {K : PySem.W.Frag} (C : Addr) : PySem.W.kitOne K (.ref C) (.ref C) = some true := by
  unfold PySem.W.kitOne
  rw [if_pos (by simp)]
end Fm
namespace Fm
open PySem PySem.Spec PyProof.Rows L2
/-! ### pairs of a text and an int, by the text, then by the int -/
def ltSI (p q : Str × Int) : Bool := if p.1 = q.1 then decide (p.2 < q.2) else decide (p.1.cps.toList < q.1.cps.toList)
theorem str_ext {x y : Str} (h : x.cps.toList = y.cps.toList) : x = y := by
  cases x
  cases y
  simp only at h
  rw [Array.toList_inj.mp h]
theorem ltSI_no {p q : Str × Int} : ltSI p q = false ↔ (p.1 = q.1 ∧ q.2 ≤ p.2) ∨ (q.1.cps.toList < p.1.cps.toList) := by
  unfold ltSI
  by_cases e : p.1 = q.1
  · rw [if_pos e, decide_eq_false_iff_not, Int.not_lt]
    constructor
    · exact fun h => .inl ⟨e, h⟩
    · rintro (h | h)
      · exact h.2
      · rw [e] at h
        exact absurd h (List.lt_irrefl _)
  · rw [if_neg e, decide_eq_false_iff_not]
    constructor
    · intro h
      refine .inr ?_
      rcases Std.lt_trichotomy q.1.cps.toList p.1.cps.toList with z | z | z
      · exact z
      · exact absurd (str_ext z.symm) e
      · exact absurd z h
    · rintro (h | h)
      · exact absurd h.1 e
      · exact fun z => List.lt_irrefl _ (List.lt_trans z h)
theorem ltSI_yes {p q : Str × Int} : ltSI p q = true ↔ (p.1 = q.1 ∧ p.2 < q.2) ∨ (p.1.cps.toList < q.1.cps.toList) := by
  unfold ltSI
  by_cases e : p.1 = q.1
  · rw [if_pos e, decide_eq_true_iff]
    constructor
    · exact fun h => .inl ⟨e, h⟩
    · rintro (h | h)
      · exact h.2
      · rw [e] at h
        exact absurd h (List.lt_irrefl _)
  · rw [if_neg e, decide_eq_true_iff]
    constructor
    · exact fun h => .inr h
    · rintro (h | h)
      · exact absurd h.1 e
      · exact h
theorem swo_SI (k : Value → Str × Int) : SrtO.Swo fun v u => ltSI (k v) (k u) := by
  refine ⟨fun x y h => ?_, fun x y z h1 h2 => ?_⟩
  · refine ltSI_no.mpr ?_
    rcases ltSI_yes.mp h with ⟨a, b⟩ | a
    · exact .inl ⟨a.symm, by omega⟩
    · exact .inr a
  · refine ltSI_no.mpr ?_
    rcases ltSI_no.mp h1 with ⟨a, b⟩ | a
    · rcases ltSI_no.mp h2 with ⟨c, d⟩ | c
      · exact .inl ⟨c.trans a, by omega⟩
      · rw [a] at c
        exact .inr c
    · rcases ltSI_no.mp h2 with ⟨c, d⟩ | c
      · rw [← c] at a
        exact .inr a
      · exact .inr (List.lt_trans a c)
/-- v is a pair of a text and an int -/
def IsSI (h : Heap) (v : Value) (x : Str) (i : Int) : Prop := ∃ (a : Addr) (o : Obj) (t u : Tok) (n : Nat), v = .ref a ∧ h.get? a = some o ∧ o.cls = .type "tuple" ∧ o.data = .seq #[.str x t, .int i u] n
theorem IsSI.one {h : Heap} {v : Value} {x y : Str} {i j : Int} (a : IsSI h v x i) (b : IsSI h v y j) : x = y ∧ i = j := by
  obtain ⟨p, o, t, u, n, rfl, ho, _, hd⟩ := a
  obtain ⟨p', o', t', u', n', e, ho', _, hd'⟩ := b
  cases e
  rw [ho] at ho'
  cases ho'
  rw [hd] at hd'
  injection hd' with h1 _
  have h2 := congrArg Array.toList h1
  simp at h2
  exact ⟨h2.1.1, h2.2.1⟩
section
variable {prog : Program} {w : World} {A : Around} {E : Value → Shared → Prop} {s : Shared}
theorem si_cmp {vs : List Value} {k : Value → Str × Int} (hp : ∀ v ∈ vs, IsSI s.heap v (k v).1 (k v).2) : SrtO.Cmp prog w A s (tuples' true) (fun p => p.1 ∈ vs) (SrtO.lt2 fun v u => ltSI (k v) (k u)) := by
  intro p q hm hm'
  have h1 := hp _ hm
  have h2 := hp _ hm'
  show wpAny (model prog w) A (keyLt' (tuples' true) p.1 q.1) (fun r s' => s' = s ∧ r = ltSI (k p.1) (k q.1)) (fun _ _ => False) s
  generalize k p.1 = kp at h1 ⊢
  generalize k q.1 = kq at h2 ⊢
  obtain ⟨x, y⟩ := kp
  obtain ⟨x', y'⟩ := kq
  obtain ⟨a, o, t, u, n, e, ho, hc, hd⟩ := h1
  obtain ⟨a', o', t', u', n', e', ho', hc', hd'⟩ := h2
  rw [e, e']
  refine PySem.W.kat_lt ho hd ho' hd' ?_
  show PySem.W.KatLex prog w A true (decide (2 < 2)) _ [(.str x t, .str x' t'), (.int y u, .int y' u')] 0 s
  refine PySem.W.kat_cons (SeqAt.EqAt.str_str x t x' t' prog w _ _ ?_)
  refine PySem.W.kat_go (fun e1 => ?_) (fun e1 => ?_)
  · have ex : x = x' := by simpa using e1
    refine PySem.W.kat_yes (PySem.W.kat_cons (SeqAt.EqAt.int_int y u y' u' prog w _ _ ?_))
    refine PySem.W.kat_go (fun e2 => ?_) (fun e2 => ?_)
    · have ey : y = y' := by simpa using e2
      refine PySem.W.kat_yes (PySem.W.kat_nil ⟨rfl, ?_⟩)
      rw [ex, ey]
      exact (ltSI_no.mpr (.inl ⟨rfl, Int.le_refl _⟩)).symm
    · refine PySem.W.kat_no (PySem.W.kat_one _ _ (PyProof.Rows.lt_int ?_))
      refine (show s = s ∧ decide (y < y') = ltSI (x, y) (x', y') from ⟨rfl, ?_⟩)
      unfold ltSI
      rw [if_pos ex]
  · have ex : ¬ x = x' := by simpa using e1
    refine PySem.W.kat_no (PyProof.Rows.oneLt_str ⟨rfl, ?_⟩)
    unfold ltSI
    rw [if_neg ex]
/-- their first items -/
theorem si_firsts : ∀ vs : List Value, (∀ v ∈ vs, ∃ x i, IsSI s.heap v x i) → ∃ fs, PySem.W.KatTups s.heap vs fs ∧ fs.length = vs.length ∧ ∀ f ∈ fs, ∃ x t, f = Value.str x t
  | [], _ => ⟨[], .nil, rfl, fun _ h => nomatch h⟩
  | v :: vs, h => by
    obtain ⟨fs, k, hl, hi⟩ := si_firsts vs fun u hu => h u (by simp [hu])
    obtain ⟨x, i, a, o, t, u, n, rfl, ho, hc, hd⟩ := h v (by simp)
    refine ⟨.str x t :: fs, .cons ho hc hd rfl k, by simp [hl], fun f hf => ?_⟩
    rcases List.mem_cons.mp hf with rfl | hf
    · exact ⟨x, t, rfl⟩
    · exact hi f hf
theorem si_sortable {a : Addr} {vs : List Value} {k : Value → Str × Int} (h0 : 0 < vs.length) (hp : ∀ v ∈ vs, IsSI s.heap v (k v).1 (k v).2) (ha : ∀ o, s.heap.get? a = some o → o.cls ≠ .type "tuple") : SrtO.SortableO prog w A s a vs fun v u => ltSI (k v) (k u) := by
  intro h' keep
  have hp' : ∀ v ∈ vs, IsSI h' v (k v).1 (k v).2 := fun v hm => by
    obtain ⟨p, o, t, u, n, e, ho, hc, hd⟩ := hp v hm
    exact ⟨p, o, t, u, n, e, keep p o (fun z => by subst z; exact ha o ho hc) ho, hc, hd⟩
  obtain ⟨fs, h1, h2, h3⟩ := si_firsts (s := { s with heap := h' }) vs fun v hm => ⟨_, _, hp' v hm⟩
  refine ⟨tuples' true, fun Q E hq => ?_, si_cmp hp'⟩
  refine PySem.W.kat_kind (T := .type "str") h1 (by omega) (fun f hm => ?_) (by rfl) ?_
  · obtain ⟨x, t, rfl⟩ := h3 f hm
    exact PySem.W.Looks.now
  · have e : (Value.type "str" != Value.type "tuple") = true := by first | decide +kernel | rfl | decide
    rw [e]
    exact hq
end
section
variable {X : Cx}
/-- d.items() -/
def rItemsK : V → List V → Hp → VK → Prop := fun x xs H Q => ∃ (a : Addr) (kvs : List (L2.Key × V)), x = .ref a ∧ xs = [] ∧ H a = some (.dK kvs) ∧ ∀ p, H p = none → Q (.ref p) (upd H p (DX.itemsO p a))
theorem mt_itemsK : MtR X "dict.items" rItemsK := by
  intro pins s σ H x xs v us Q I rx rxs h
  obtain ⟨a, kvs, rfl, rfl, ha, q⟩ := h
  cases rx
  cases rxs
  obtain ⟨_, hd, _, _, o, es, ep, ho, hx, hdat, _⟩ := dk_of I.hok ha
  refine DT.callItems (es := es) (ep := ep) hd ⟨o, ho, hx, hdat⟩ ?_
  have hf : H s.heap.objs.size = none := I.hok.fresh (Nat.le_refl _)
  exact ⟨.ref s.heap.objs.size, _, I.laid (t' := s.toks) (fun b u e => Heap.get?_push_of_some _ e) (Nat.le_refl _) (DX.itemsO_ok (Heap.get?_push_size _ rfl)), rfl, q _ hf⟩
theorem pairs_at {P : Program} {w : World} : ∀ {es : List DictEntry} {vs : List (L2.Key × Value)}, Pairs (mixKind P w) es vs → ∀ (j : Nat), (∀ e, es[j]? = some e → ∃ kv, vs[j]? = some kv ∧ keyIs kv.1 e.key = true ∧ e.val = kv.2) ∧ es.length = vs.length
  | _, _, .nil, j => ⟨fun e h => by simp at h, rfl⟩
  | _, _, .cons h1 h2 h3, 0 => ⟨fun e h => by
      simp at h
      subst h
      exact ⟨_, rfl, h1, h2⟩, by simp [(pairs_at h3 0).2]⟩
  | _, _, .cons h1 h2 h3, j + 1 => ⟨fun e h => by
      obtain ⟨kv, a, b⟩ := (pairs_at h3 j).1 e (by simpa using h)
      exact ⟨kv, by simpa using a, b⟩, by simp [(pairs_at h3 0).2]⟩
abbrev rowK (r : Str × Int) : L2.Key × V := (Sum.inr r.1, .int r.2)
/-- sorted(d.items()), keys texts, values ints -/
def rSortSI : List V → Hp → VK → Prop := fun xs H Q => ∃ (p a : Addr) (rows : List (Str × Int)), xs = [.ref p] ∧ H p = some (DX.itemsO p a) ∧ H a = some (.dK (rows.map rowK)) ∧
  ∀ (H' : Hp) (l : Addr) (ps : List (Addr × Str × Int)), (∀ b o, H b = some o → H' b = some o) → H l = none → (ps.map (·.2)).Perm rows → (ps.map (·.2)).Pairwise (fun e f => e.1.cps.toList < f.1.cps.toList) → H' l = some (.lst (ps.map fun z => V.ref z.1)) →
    (∀ z ∈ ps, H' z.1 = some (.tup [.str z.2.1, .int z.2.2])) → Q (.ref l) H'
theorem cr_sortSI (hc : X.calm = true) : CallR X (.builtin "sorted") rSortSI := by
  intro pins s σ H xs us Q I r h
  obtain ⟨p, a, rows, rfl, hp, ha, q⟩ := h
  obtain rfl := Vals.ref1 r
  have view : s.heap.IsItemsView p a := (show ObjOk X.prog X.w H s.heap p (DX.itemsO p a) from I.hok p _ hp).1
  obtain ⟨z, hd, vs', kv, o, es, ep, ho, hx, hdat, _, hpr, hnd⟩ := dk_of I.hok ha
  have l1 : (rows.map rowK).length = vs'.length := Paired.length kv
  rw [List.length_map] at l1
  have l2 : es.size = vs'.length := by
    have := (pairs_at hpr 0).2
    simpa using this
  rw [List.length_map] at z
  have hh : X.A.handled = none := I.ok.hd hc
  refine DT.sortedI (es := es) (ep := ep) hh view ⟨o, ho, hx, hdat⟩ (by omega) fun h' tk as hk hlt hl hG => ?_
  have lak : as.length = rows.length := by omega
  have nd : as.Nodup := List.Pairwise.imp (fun h => Nat.ne_of_lt h) hG.rise
  have pr : ∀ (j : Nat) (b : Addr), as[j]? = some b → ∃ (e : Str × Int), rows[j]? = some e ∧ IsSI h' (.ref b) e.1 e.2 ∧ ∃ t u, h'.get? b = some { cls := .type "tuple", data := .seq #[.str e.1 t, .int e.2 u] } := by
    intro j b hj
    obtain ⟨en, he, hg⟩ := hG.pairs j b hj
    obtain ⟨kq, h1, h2, h3⟩ := (pairs_at hpr j).1 en (by rw [Array.getElem?_toList]; exact he)
    obtain ⟨x, hx1, hx2, hx3⟩ := DX.pget kv h1
    rw [List.getElem?_map] at hx1
    obtain ⟨e, e1, rfl⟩ := Option.map_eq_some_iff.mp hx1
    rw [← hx2] at h2
    obtain ⟨t, e2⟩ : ∃ t, en.key = Value.str e.1 t := by
      rcases keyIs_shape h2 with ⟨i, t, z, _⟩ | ⟨y, t, z1, z2⟩
      · cases z
      · cases z1
        exact ⟨t, z2⟩
    obtain ⟨u, e3⟩ : ∃ u, en.val = Value.int e.2 u := by
      rw [h3]
      obtain ⟨u, hu⟩ := (show ∃ u, kq.2 = Value.int e.2 u from hx3)
      exact ⟨u, hu⟩
    rw [e2, e3] at hg
    exact ⟨e, e1, ⟨b, _, t, u, 0, rfl, hg, rfl, rfl⟩, t, u, hg⟩
  have hob : (h'.push { cls := .type "list", data := .seq (as.map Value.ref).toArray }).get? h'.objs.size = some (seqObj "list" (as.map Value.ref).toArray 0) := Heap.get?_push_size _ rfl
  have ka : ∀ b o, h'.get? b = some o → (h'.push { cls := .type "list", data := .seq (as.map Value.ref).toArray }).get? b = some o := fun b o e => Heap.get?_push_of_some _ e
  have ne0 : ∀ b o, h'.get? b = some o → b ≠ h'.objs.size := fun b o e => Nat.ne_of_lt (Heap.lt_size e)
  generalize h'.push { cls := .type "list", data := .seq (as.map Value.ref).toArray } = h2 at hob ka ⊢
  have kb : ∀ b o, s.heap.get? b = some o → h2.get? b = some o := fun b o e => ka _ _ (hk b o e)
  -- the pair that a value is
  obtain ⟨k, hkv⟩ : ∃ k : Value → Str × Int, ∀ (j : Nat) (b : Addr), as[j]? = some b → some (k (.ref b)) = rows[j]? := by
    refine ⟨fun v => match v with | .ref b => (rows[as.idxOf b]?).getD ("", 0) | _ => ("", 0), fun j b hj => ?_⟩
    have hjl : j < as.length := (List.getElem?_eq_some_iff.mp hj).1
    have hjb : as[j] = b := (List.getElem?_eq_some_iff.mp hj).2
    have e : as.idxOf b = j := by
      rw [← hjb]
      exact List.Nodup.idxOf_getElem nd j hjl
    dsimp only
    rw [e, List.getElem?_eq_getElem (by omega : j < rows.length)]
    rfl
  have isS : ∀ v ∈ as.map Value.ref, IsSI h2 v (k v).1 (k v).2 := by
    intro v hv
    obtain ⟨b, hb, rfl⟩ := List.mem_map.mp hv
    obtain ⟨j, hj⟩ := List.mem_iff_getElem?.mp hb
    obtain ⟨e, he, ⟨b', o, t, u, n, eb, hg, hc', hd'⟩, _⟩ := pr j b hj
    have := hkv j b hj
    rw [he] at this
    rw [Option.some.inj this]
    exact ⟨b', o, t, u, n, eb, ka _ _ hg, hc', hd'⟩
  refine wpAny_call_entry PyProof.Rows.slot_list_sort ⟨_, hob, rfl⟩ PyProof.Rows.entry_list_sort
    (SrtO.list_sort_ord (s := { s with heap := h2, toks := tk }) (swo_SI k) hob (by rw [List.length_map]; omega) (fun h2l => si_sortable (by omega) isS fun o e => ?_) fun out o1 o2 => ⟨.none, rfl, ?_⟩) (PyProof.Rows.args_list_sort _)
  · have e' : h2.get? h'.objs.size = some o := e
    rw [hob] at e'
    cases e'
    exact fun z => absurd (Value.type.inj z) (by decide)
  · show EP X pins σ Q (.ref h'.objs.size) { s with heap := sortedHeap h2 h'.objs.size (as.map Value.ref) out.toArray, toks := tk }
    have hperm := o2.perm
    obtain ⟨bs, pb, eb⟩ := perm_lift Value.ref hperm as rfl
    subst eb
    have idx : ∀ b ∈ bs, ∃ j : Nat, as[j]? = some b ∧ rows[j]? = some (k (.ref b)) := by
      intro b hb
      obtain ⟨j, hj⟩ := List.mem_iff_getElem?.mp (pb.mem_iff.mp hb)
      exact ⟨j, hj, (hkv j b hj).symm⟩
    have e0 : as.map (fun b => k (.ref b)) = rows := by
      refine List.ext_getElem? fun j => ?_
      rw [List.getElem?_map]
      cases hj : as[j]? with
      | none =>
        have : rows.length ≤ j := by
          rw [← lak]
          exact List.getElem?_eq_none_iff.mp hj
        rw [List.getElem?_eq_none this]
        rfl
      | some b => exact hkv j b hj
    have pRows : ((bs.map fun b => (b, k (.ref b))).map (·.2)).Perm rows := by
      rw [List.map_map, ← e0]
      exact pb.map _
    have nodupK : (rows.map (·.1)).Nodup := by
      have e9 : vs'.map (·.1) = (rows.map (·.1)).map Sum.inr := by
        have : ∀ {l : List (L2.Key × V)} {m : List (L2.Key × Value)}, KV l m → m.map (·.1) = l.map (·.1) := by
          intro l m hK
          induction hK with
          | nil => rfl
          | cons h _ ih => rw [List.map_cons, List.map_cons, ih, h.1]
        rw [this kv, List.map_map, List.map_map]
        rfl
      rw [e9] at hnd
      exact (List.pairwise_map.mp hnd).imp fun h z => h (by rw [z])
    have sRows : ((bs.map fun b => (b, k (.ref b))).map (·.2)).Pairwise (fun e f => e.1.cps.toList < f.1.cps.toList) := by
      have n2 : ((bs.map fun b => (b, k (.ref b))).map (·.2)).Pairwise (fun e f => e.1 ≠ f.1) := by
        have := (pRows.map (·.1)).nodup_iff.mpr nodupK
        exact List.pairwise_map.mp this
      have n1 : ((bs.map fun b => (b, k (.ref b))).map (·.2)).Pairwise (fun e f => ltSI f e = false) := by
        rw [List.map_map, List.pairwise_map]
        exact List.pairwise_map.mp o1
      refine (n1.and n2).imp fun {e f} h => ?_
      rcases ltSI_no.mp h.1 with z | z
      · exact absurd z.1.symm h.2
      · exact z
    have kF : ∀ b o, b ≠ h'.objs.size → h2.get? b = some o → (sortedHeap h2 h'.objs.size (as.map Value.ref) (bs.map Value.ref).toArray).get? b = some o := fun b o hb e => (PyProof.Rows.sortedHeap_old hb (Heap.lt_size e)).trans e
    have kS : ∀ b o, s.heap.get? b = some o → (sortedHeap h2 h'.objs.size (as.map Value.ref) (bs.map Value.ref).toArray).get? b = some o := fun b o e => kF b o (ne0 _ _ (hk b o e)) (kb b o e)
    obtain ⟨eF, heF⟩ := PyProof.Rows.sortedHeap_at (vs := as.map Value.ref) (out := (bs.map Value.ref).toArray) hob
    have I1 : Inv X pins σ H { s with heap := sortedHeap h2 h'.objs.size (as.map Value.ref) (bs.map Value.ref).toArray, toks := tk } := I.kept (t' := tk) kS
    have hn0 : H h'.objs.size = none := I.hok.fresh (Nat.le_of_lt hlt)
    have hlen : (bs.map V.ref).length ≤ sizeLine := by
      rw [List.length_map, pb.length_eq]
      omega
    have rv : Vals (bs.map V.ref) (bs.map Value.ref) := vals_refs bs
    have I2 : Inv X pins σ (upd H h'.objs.size (.lst (bs.map V.ref))) { s with heap := sortedHeap h2 h'.objs.size (as.map Value.ref) (bs.map Value.ref).toArray, toks := tk } :=
      I1.take (h' := sortedHeap h2 h'.objs.size (as.map Value.ref) (bs.map Value.ref).toArray) (t' := tk) (fun b ob _ e => e) (I.fpOk (Nat.le_of_lt hlt) hn0) ⟨hlen, bs.map Value.ref, eF, rv, heF⟩
    obtain ⟨H2, I3, g, qt⟩ := DX.takeT (P := fun b vs => vs = [.str (k (.ref b)).1, .int (k (.ref b)).2]) I as _ I2 nd fun b hb => by
      obtain ⟨j, hj⟩ := List.mem_iff_getElem?.mp hb
      obtain ⟨e, he, _, t, u, hg⟩ := pr j b hj
      have ek : k (.ref b) = e := by
        have := hkv j b hj
        rw [he] at this
        exact Option.some.inj this
      have hbl : s.heap.objs.size ≤ b := Nat.le_of_lt (hG.above b hb)
      refine ⟨hbl, ?_, _, rfl, fun H3 => ⟨(by show 2 ≤ sizeLine; decide), [Value.str e.1 t, Value.int e.2 u], ?_, ⟨_, kF _ _ (ne0 _ _ hg) (ka _ _ hg), rfl, 0, rfl⟩⟩⟩
      · rw [upd_ne (ne0 _ _ hg)]
        exact I.hok.fresh hbl
      · rw [ek]
        exact .cons ⟨t, rfl⟩ (.cons ⟨u, rfl⟩ .nil)
    have gr : ∀ b o, H b = some o → H2 b = some o := fun b o e => g b o (by rw [upd_ne (ne_of_none e hn0)]; exact e)
    refine ⟨.ref h'.objs.size, H2, I3, rfl, q H2 h'.objs.size (bs.map fun b => (b, k (.ref b))) gr hn0 pRows sRows ?_ fun z' hz' => ?_⟩
    · rw [List.map_map]
      exact g _ _ upd_same
    · obtain ⟨b, hb, rfl⟩ := List.mem_map.mp hz'
      obtain ⟨vs, ev, hH⟩ := qt b (pb.mem_iff.mp hb)
      rw [hH, ev]
end
end Fm
/-! sorted(xs, key=f), f a def of the text -/
namespace Fm
open PySem PySem.Spec PyProof.Rows L2
/-- keys of one kind, and their order -/
structure KOrd (prog : Program) (w : World) (keys : List Value) (ltk : Value → Value → Bool) : Prop where
  swo : SrtO.Swo ltk
  kind : 2 ≤ keys.length → keyKind' keys.toArray = pure oneType'
  cmp : ∀ A s, SrtO.Cmp prog w A s oneType' (fun p => p.1 ∈ keys) (SrtO.lt2 ltk)
theorem kord_ints {prog : Program} {w : World} {keys : List Value} {ns : List Int} (h : IntsAre keys ns) : KOrd prog w keys SrtO.ltIv := by
  refine ⟨SrtO.swo_int, fun h2 => ?_, fun A s => SrtO.int_cmp h⟩
  match keys, h, h2 with
  | v1 :: v2 :: rest, h, _ => exact keyKind_ints h
  | [], _, h => exact absurd h (by decide)
  | [v], _, h => exact absurd h (by simp)
def sv : Value → List Nat
  | .str x _ => x.cps.toList
  | _ => []
def ltSv (v u : Value) : Bool := decide (sv v < sv u)
theorem swo_str : SrtO.Swo ltSv := by
  refine ⟨fun x y h => ?_, fun x y z h1 h2 => ?_⟩
  · have a := of_decide_eq_true (p := sv x < sv y) h
    exact decide_eq_false (p := sv y < sv x) (List.lt_asymm a)
  · have a := of_decide_eq_false (p := sv y < sv x) h1
    have b := of_decide_eq_false (p := sv z < sv y) h2
    exact decide_eq_false (p := sv z < sv x) (List.not_lt.mpr (List.le_trans (List.not_lt.mp a) (List.not_lt.mp b)))
theorem strs_mem : ∀ {vs : List Value} {ns : List Str}, StrsAre vs ns → ∀ v ∈ vs, ∃ i t, v = Value.str i t
  | _, _, .nil, v, h => absurd h (by simp)
  | _, _, .cons n t r, v, h => by
    rcases List.mem_cons.mp h with e | h
    · exact ⟨n, t, e⟩
    · exact strs_mem r v h
theorem kord_strs {prog : Program} {w : World} {keys : List Value} {ns : List Str} (h : StrsAre keys ns) : KOrd prog w keys ltSv := by
  refine ⟨swo_str, fun h2 => ?_, fun A s p q hm hm' => ?_⟩
  · match keys, h, h2 with
    | v1 :: v2 :: rest, h, _ => exact keyKind_strs h
    | [], _, h => exact absurd h (by decide)
    | [v], _, h => exact absurd h (by simp)
  · obtain ⟨a, t, e⟩ := strs_mem h _ hm
    obtain ⟨b, u, e'⟩ := strs_mem h _ hm'
    show wpAny (model prog w) A (keyLt' oneType' p.1 q.1) (fun r s' => s' = s ∧ r = ltSv p.1 q.1) (fun _ _ => False) s
    rw [e, e', keyLt'_oneType]
    exact oneLt_str ⟨rfl, rfl⟩
section
variable {prog : Program} {w : World} {A : Around} {E : Value → Shared → Prop} {s : Shared}
/-- the list written anew -/
theorem key_tail {a kS : Addr} {e e1 : Nat} {vs keys : List Value} {st : SortSt} {R : PySem.Fin → Shared → Prop} (hl : keys.length = vs.length) (hz : vs.length ≤ sizeLine) (hka : kS ≠ a)
    (hk : s.heap.get? kS = some (seqObj "list" keys.toArray e)) (ha : s.heap.get? a = some (seqObj "list" #[] e1)) (hp : (arrOf st).toList.Perm (keys.zip vs)) (hfl : failedOf st = none)
    (h : ∀ hm h' : Heap, (∀ b o, b ≠ kS → s.heap.get? b = some o → hm.get? b = some o) → (∃ n, hm.get? kS = some (seqObj "list" #[] n)) → (∀ b o, b ≠ a → hm.get? b = some o → h'.get? b = some o) → (∃ n, h'.get? a = some (seqObj "list" ((arrOf st).toList.map (·.2)).toArray n)) → R (.done (.ret .none)) { s with heap := h' }) :
    wpAny (model prog w) A (ksk_tail a false e1 (.ref kS) st) R E s := by
  have hsz2 : (arrOf st).size = vs.length := by
    rw [← Array.length_toList, hp.length_eq, List.length_zip]
    omega
  have s1 := Heap.SameBut.update s.heap kS (Obj.mapSeq fun _ => (#[] : Array Value))
  have ha1 : (s.heap.update kS (Obj.mapSeq fun _ => (#[] : Array Value))).get? a = some (seqObj "list" #[] e1) := (s1.2 a hka.symm).trans ha
  have s2 := Heap.SameBut.update (s.heap.update kS (Obj.mapSeq fun _ => (#[] : Array Value))) a (Obj.mapSeq fun _ => (arrOf st).map (·.2))
  obtain ⟨c2, hc2⟩ : ∃ c2, ((s.heap.update kS (Obj.mapSeq fun _ => (#[] : Array Value))).update a (Obj.mapSeq fun _ => (arrOf st).map (·.2))).get? a = some (seqObj "list" ((arrOf st).map (·.2)) c2) := ⟨_, get?_update_seq ha1 fun _ => (arrOf st).map (·.2)⟩
  unfold ksk_tail
  try dsimp only
  refine wpAny_bind (listUpdate_at hk rfl ?_ (by rw [List.size_toArray, hl]; exact hz) (Nat.zero_le _))
  refine wpAny_bind (wpAny_letGo ?_)
  refine wpAny_bind (seqEpoch_at ha1 rfl ?_)
  refine wpAny_bind (listUpdate_at ha1 rfl ?_ (Nat.zero_le _) (by simp only [Bool.false_eq_true, if_false, Array.size_map]; omega))
  rw [hfl]
  simp only [bne_self_eq_false, Bool.false_eq_true, if_false]
  refine wpAny_pure (h _ _ (fun b o hb2 z => (s1.2 b hb2).trans z) ⟨_, get?_update_seq hk fun _ => #[]⟩ (fun b o hb z => (s2.2 b hb).trans z) ⟨c2, ?_⟩)
  rw [hc2, ← Array.toList_map, Array.toArray_toList]
/-- behind the keys: the sort, and the list written anew -/
theorem key_end {a kS : Addr} {e e1 : Nat} {vs keys : List Value} {ltk : Value → Value → Bool} {R : PySem.Fin → Shared → Prop} (O : KOrd prog w keys ltk) (hl : keys.length = vs.length) (hz : vs.length ≤ sizeLine) (hka : kS ≠ a)
    (hk : s.heap.get? kS = some (seqObj "list" keys.toArray e)) (ha : s.heap.get? a = some (seqObj "list" #[] e1))
    (h : ∀ (hm h' : Heap) (out : List Keyed), SrtO.Srtd (SrtO.lt2 ltk) out → out.Perm (keys.zip vs) → (∀ b o, b ≠ kS → s.heap.get? b = some o → hm.get? b = some o) → (∃ n, hm.get? kS = some (seqObj "list" #[] n)) → (∀ b o, b ≠ a → hm.get? b = some o → h'.get? b = some o) → (∃ n, h'.get? a = some (seqObj "list" (out.map (·.2)).toArray n)) → R (.done (.ret .none)) { s with heap := h' }) :
    wpAny (model prog w) A (ksk_end a false vs.toArray e1 (.ref kS) keys.toArray) R E s := by
  have hzl : (keys.toArray.zip vs.toArray).toList = keys.zip vs := by simp
  unfold ksk_end
  try dsimp only
  simp only [Bool.false_eq_true, if_false]
  by_cases h2 : vs.toArray.size < 2
  · rw [if_pos h2, if_pos h2]
    refine wpAny_bind (wpAny_pure ?_)
    rw [StateT.run_pure]
    refine wpAny_bind (wpAny_pure ?_)
    try dsimp only
    refine key_tail (st := SortSt.mk' general' (keys.toArray.zip vs.toArray) #[] 7 none) hl hz hka hk ha (by show (keys.toArray.zip vs.toArray).toList.Perm _; rw [hzl]) rfl fun hm h' k1 k2 k3 k4 => h hm h' _ ?_ ?_ k1 k2 k3 k4
    · show List.Pairwise _ (keys.toArray.zip vs.toArray).toList
      rw [hzl]
      rw [List.size_toArray] at h2
      match keys, vs, hl, h2 with
      | [], [], _, _ => exact List.Pairwise.nil
      | [x], [y], _, _ => exact List.pairwise_singleton _ _
      | _ :: _ :: _, _ :: _ :: _, _, h2 => exact absurd h2 (by simp)
    · show (keys.toArray.zip vs.toArray).toList.Perm _
      rw [hzl]
  · rw [if_neg h2, if_neg h2]
    rw [List.size_toArray] at h2
    rw [O.kind (by omega)]
    refine wpAny_bind (wpAny_pure ?_)
    have hall : SrtO.AllL (fun p : Keyed => p.1 ∈ keys) (keys.toArray.zip vs.toArray).toList := fun p hm => by
      rw [hzl] at hm
      exact (List.of_mem_zip (show (p.1, p.2) ∈ keys.zip vs from hm)).1
    refine wpAny_bind (wpAny_mono (SrtO.wpS_sortO (st0 := SortSt.mk' oneType' (keys.toArray.zip vs.toArray) #[] 7 none)
      (Q := fun _ st' => SrtO.Srtd (SrtO.lt2 ltk) (arrOf st').toList ∧ SrtO.Stb (SrtO.lt2 ltk) (arrOf st').toList (keys.toArray.zip vs.toArray).toList ∧ failedOf st' = none) (SrtO.swo2 O.swo) (O.cmp A s) rfl hall rfl rfl fun st' a1 a2 a3 => ⟨a1, a2, a3⟩) ?_ fun _ _ e => e)
    rintro ⟨⟨⟩, st'⟩ s' ⟨rfl, hp1, hp2, hf⟩
    try dsimp only
    have hp3 := hp2.perm
    rw [hzl] at hp3
    exact key_tail hl hz hka hk ha hp3 hf fun hm h' k1 k2 k3 k4 => h hm h' _ hp1 hp3 k1 k2 k3 k4
end
/-- the order of keys -/
def ltV : V → V → Bool
  | .int i, .int j => decide (i < j)
  | .str x, .str y => decide (x.cps.toList < y.cps.toList)
  | _, _ => false
def KeysV (ks : List V) : Prop := (∃ ns : List Int, ks = ns.map V.int) ∨ (∃ xs : List Str, ks = xs.map V.str)
theorem strs_of_vals : ∀ {xs : List Str} {us : List Value}, Vals (xs.map V.str) us → StrsAre us xs
  | [], _, h => by
    cases h
    exact .nil
  | x :: xs, _, h => by
    cases h with
    | cons r t =>
      obtain ⟨k, rfl⟩ := (show ∃ k, _ = Value.str x k from r)
      exact .cons x k (strs_of_vals t)
theorem kord_of {prog : Program} {w : World} {ks : List V} {us : List Value} (h : KeysV ks) (r : Vals ks us) : ∃ ltk, KOrd prog w us ltk ∧ ∀ (i j : Nat) (k l : V) (u v : Value), ks[i]? = some k → ks[j]? = some l → RelV k u → RelV l v → ltk u v = ltV k l := by
  rcases h with ⟨ns, rfl⟩ | ⟨xs, rfl⟩
  · refine ⟨SrtO.ltIv, kord_ints r.ints, fun i j k l u v hk hl ru rv => ?_⟩
    rw [List.getElem?_map] at hk hl
    obtain ⟨n, _, rfl⟩ := Option.map_eq_some_iff.mp hk
    obtain ⟨m, _, rfl⟩ := Option.map_eq_some_iff.mp hl
    obtain ⟨t, rfl⟩ := (show ∃ t, u = Value.int n t from ru)
    obtain ⟨t', rfl⟩ := (show ∃ t, v = Value.int m t from rv)
    rfl
  · refine ⟨ltSv, kord_strs (strs_of_vals r), fun i j k l u v hk hl ru rv => ?_⟩
    rw [List.getElem?_map] at hk hl
    obtain ⟨n, _, rfl⟩ := Option.map_eq_some_iff.mp hk
    obtain ⟨m, _, rfl⟩ := Option.map_eq_some_iff.mp hl
    obtain ⟨t, rfl⟩ := (show ∃ t, u = Value.str n t from ru)
    obtain ⟨t', rfl⟩ := (show ∃ t, v = Value.str m t from rv)
    rfl
section
variable {X : Cx} {n : Nat} {f : Addr} {sp : Sp}
def rSortK (K : PySem.W.Frag) (f : Addr) (sp : Sp) : List V → List V → Hp → VK → Prop := fun vs zs H Q => ∃ (a : Addr) (xs ks : List V), vs = [.ref a] ∧ zs = [.ref f] ∧ (SqL K H a xs ∨ SqT K H a xs) ∧ ks.length = xs.length ∧ KeysV ks ∧
  (∀ (i : Nat) (x k : V), xs[i]? = some x → ks[i]? = some k → ∀ Q' : VK, Q' k H → sp [x] H Q' E0) ∧
  ∀ (ps : List (V × V)) (p : Addr) (H' : Hp), ps.Perm (ks.zip xs) → ps.Pairwise (fun p q => ltV q.1 p.1 = false) → H p = none → (∀ b o, H b = some o → H' b = some o) → H' p = some (.lst (ps.map (·.2))) → Q (.ref p) H'
/-- the keys, one by one -/
theorem key_loop {pins : List (Addr × Obj)} {s : Shared} {σ : L2.St} {H : Hp} {a kS : Addr} {e1 : Nat} {xs ks : List V} {us : List Value} {R : PySem.Fin → Shared → Prop} {A : Around} {E : Value → Shared → Prop}
    (F : FnR X.prog X.w X.K X.mg X.base CX0 n f sp) (hA : A = X.A.in1.in1) (hr : Room n A) (hx : Passes CX0 X E0) (hl : ks.length = xs.length) (hv : Vals xs us) (hz : xs.length ≤ sizeLine)
    (hsp : ∀ (i : Nat) (x k : V), xs[i]? = some x → ks[i]? = some k → ∀ Q' : VK, Q' k H → sp [x] H Q' E0) (hka : kS ≠ a) (fa : FpOk X pins H a) (fk : FpOk X pins H kS)
    (I : Inv X (pins ++ [(kS, seqObj "list" #[] 0), (a, seqObj "list" #[] e1)]) σ H s)
    (h : ∀ (s' : Shared) (keys : List Value) (e : Nat), Inv X (pins ++ [(kS, seqObj "list" keys.toArray e), (a, seqObj "list" #[] e1)]) σ H s' → Vals ks keys → wpAny (model X.prog X.w) A (ksk_end a false us.toArray e1 (.ref kS) keys.toArray) R E s') :
    wpAny (model X.prog X.w) A (ksk_rest a (.ref f) false us.toArray e1 (.ref kS)) R E s := by
  have hlu : us.length = xs.length := hv.length.symm
  unfold ksk_rest
  refine wpAny_bind (wpAny_rule ?_)
  rw [List.forIn_toArray]
  refine wpAny_bind (ksk_fold (fun i s' => ∃ (kA : List Value) (e : Nat), Inv X (pins ++ [(kS, seqObj "list" kA.toArray e), (a, seqObj "list" #[] e1)]) σ H s' ∧ Vals (ks.take i) kA) us 0 s ⟨[], 0, I, by simpa using Paired.nil⟩ ?step ?done)
  case step =>
    rintro j x s' hx' ⟨kA, e, I', hk⟩
    simp only [Nat.zero_add] at hk ⊢
    have hj : j < us.length := (List.getElem?_eq_some_iff.mp hx').1
    obtain ⟨k, hkj⟩ : ∃ k, ks[j]? = some k := ⟨_, List.getElem?_eq_getElem (by omega)⟩
    obtain ⟨xv, hxj, rx⟩ : ∃ xv, xs[j]? = some xv ∧ RelV xv x := by
      have hjx : j < xs.length := by omega
      obtain ⟨u, hu, ru⟩ := hv.get (List.getElem?_eq_getElem hjx)
      rw [hx'] at hu
      cases hu
      exact ⟨_, List.getElem?_eq_getElem hjx, ru⟩
    have e0 : Env0 X.prog X.w X.K X.mg X.base A X.stack s' H := by
      rw [hA]
      exact I'.env0.in1.in1
    have hc : codeAny (model X.prog X.w) A (.call (.ref f) ⟨[x], []⟩) (fun r s'' => match r with | .ok (.ret u) => EP X (pins ++ [(kS, seqObj "list" kA.toArray e), (a, seqObj "list" #[] e1)]) σ (fun v H' => v = k ∧ H' = H) u s'' | .ok _ => False | .error _ => False) s' := by
      refine codeAny_mono (F A X.stack s' H [x] [xv] (fun v H' => v = k ∧ H' = H) E0 hr e0 (.cons rx .nil) (hsp j xv k hxj hkj _ ⟨rfl, rfl⟩)) fun r s'' hq => ?_
      cases r with
      | error e => exact hq
      | ok fl =>
        cases fl with
        | ret u => exact I'.after hq
        | next => exact hq
        | brk => exact hq
        | cont => exact hq
    refine wpAny_bind (wpAny_attempt (wpAny_mono (wpAny_call (E := fun _ _ => False) hc) (fun u s'' he => ?_) fun _ _ hF => hF.elim))
    obtain ⟨v, H'', I2, ru, rfl, rfl⟩ := he
    obtain ⟨nk, hnk, k1, k2, k3⟩ := I2.pin (kS, seqObj "list" kA.toArray e) (by simp)
    obtain ⟨na, hna, a1, a2, a3⟩ := I2.pin (a, seqObj "list" #[] e1) (by simp)
    obtain ⟨g, gg, gd, gt, gos⟩ := s''
    have s1 := Heap.SameBut.update g kS (Obj.mapSeq (·.push u))
    obtain ⟨c2, hc2⟩ : ∃ c2, (g.update kS (Obj.mapSeq (·.push u))).get? kS = some (seqObj "list" (kA.toArray.push u) c2) := ⟨_, get?_update_seq nk (·.push u)⟩
    have hkl : kA.length ≤ xs.length := by
      have := hk.length
      rw [List.length_take] at this
      omega
    refine wpAny_bind (listUpdate_at nk rfl ?_ (by rw [List.size_toArray]; omega) (by rw [Array.size_push, List.size_toArray]; omega))
    have hpush : kA.toArray.push u = (kA ++ [u]).toArray := by simp
    refine wpAny_pure ⟨rfl, kA ++ [u], c2, ?_, ?_⟩
    · have I3 : Inv X pins σ H'' ⟨g, gg, gd, gt, gos⟩ := I2.unpinned
      obtain ⟨f0, f1, f2, f3, f4, f5⟩ := fk
      have I4 : Inv X pins σ H'' ⟨g.update kS (Obj.mapSeq (·.push u)), gg, gd, gt, gos⟩ := I3.turned (t' := gt) (fun b o hb z => (s1.2 b hb).trans z) f0 f1 f3 f4 f5
      refine I4.pins_of fun p hp => ?_
      rcases List.mem_append.mp hp with hp | hp
      · exact I4.pin p (List.mem_append_right _ hp)
      · rcases List.mem_cons.mp hp with rfl | hp
        · exact ⟨by rw [← hpush]; exact hc2, hnk, k1, k2, fun v z => nomatch z⟩
        · rw [List.mem_singleton.mp hp]
          exact ⟨(s1.2 a hka.symm).trans na, hna, a1, a2, fun v z => nomatch z⟩
    · rw [List.take_add_one, hkj]
      exact hk.append (.cons ru .nil)
  case done =>
    rintro s' ⟨kA, e, I', hk⟩
    have e3 : ks.take (0 + us.length) = ks := List.take_of_length_le (by omega)
    rw [e3] at hk
    obtain ⟨nk, _⟩ := I'.pin (kS, seqObj "list" kA.toArray e) (by simp)
    refine wpAny_bind (listItems_at nk rfl ?_)
    exact h s' kA e I' hk
/-- sorted(xs, key=f) -/
theorem cr_sortKey (F : FnR X.prog X.w X.K X.mg X.base CX0 n f sp) (hr : Room (n + 2) X.A) : CallRK X (.builtin "sorted") [Str.ofString "key"] (rSortK X.K f sp) := by
  intro pins s σ H vs zs us ws Q I r rz h
  obtain ⟨a, xs, ks, rfl, rfl, hS, hl, hK, hsp, q⟩ := h
  obtain rfl := Vals.ref1 r
  obtain rfl := Vals.ref1 rz
  obtain ⟨its, rv, hz, T, o, m, hT, ho, hc, hd⟩ : ∃ its : List Value, Vals xs its ∧ xs.length ≤ sizeLine ∧ ∃ (T : String) (o : Obj) (m : Nat), (T = "list" ∨ T = "tuple") ∧ s.heap.get? a = some o ∧ o.cls = .type T ∧ o.data = .seq its.toArray m := by
    rcases hS with hS | hS
    · obtain ⟨its, rv, p, hz⟩ := I.list hS
      obtain ⟨o, ho, hc, m, hd⟩ := p.isList
      exact ⟨its, rv, hz, "list", o, m, .inl rfl, ho, hc, hd⟩
    · obtain ⟨its, rv, ⟨o, ho, hc, m, hd⟩, hz⟩ := I.tuple hS
      exact ⟨its, rv, hz, "tuple", o, m, .inr rfl, ho, hc, hd⟩
  have hil : its.length = xs.length := rv.length.symm
  refine call_function_entry_kw kind_sorted plain_sorted entry_sorted (ksk_s1 _ _) ?_
  unfold Builtin.«sorted»
  refine wpAny_bind (m := checkCount "sorted" 1 1 _) (wpAny_pure ?_)
  refine wpAny_bind (wpAny_collect_seq a hT ho hc hd (fun h1 k1 => ?_) (by rw [List.size_toArray]; omega))
  refine wpAny_bind (wpAny_newList ?_ (by rw [List.toList_toArray]; omega))
  rw [List.toList_toArray]
  have I1 : Inv X pins σ H { s with heap := h1 } := I.kept (t' := s.toks) k1
  have fa : FpOk X pins H h1.objs.size := I1.fpOk (Nat.le_refl _) (I1.hok.fresh (Nat.le_refl _))
  have hoL : (h1.push (seqObj "list" its.toArray 0)).get? h1.objs.size = some (seqObj "list" its.toArray 0) := Heap.get?_push_size _ rfl
  show wpAny _ _ _ _ _ { s with heap := h1.push (seqObj "list" its.toArray 0) }
  refine wpAny_bind (wpAny_holding (wpAny_call_entry_kw slot_list_sort ⟨_, hoL, rfl⟩ entry_list_sort ?_ (ksk_l1 _ _)))
  show wpAny _ _ (ksk_tree h1.objs.size (.ref f) false) _ _ _
  unfold ksk_tree
  refine wpAny_bind (listItems_at hoL rfl ?_)
  refine wpAny_bind (listUpdate_at hoL rfl ?_ (by rw [List.size_toArray]; omega) (Nat.zero_le _))
  obtain ⟨e1, ho1⟩ : ∃ e1, ((h1.push (seqObj "list" its.toArray 0)).update h1.objs.size (Obj.mapSeq fun _ => #[])).get? h1.objs.size = some (seqObj "list" #[] e1) := ⟨_, get?_update_seq hoL (fun _ => #[])⟩
  refine wpAny_bind (seqEpoch_at ho1 rfl ?_)
  refine wpAny_bind (wpAny_newTuple ?_ (by rw [List.toList_toArray]; omega))
  refine wpAny_bind (wpAny_newList ?_ (Nat.zero_le _))
  refine wpAny_holding ?_
  have k2 : ∀ b o, h1.get? b = some o → ((h1.push (seqObj "list" its.toArray 0)).update h1.objs.size (Obj.mapSeq fun _ => #[])).get? b = some o := fun b o z => by
    rw [Heap.get?_update_ne _ _ _ _ (Nat.ne_of_lt (Heap.lt_size z))]
    exact Heap.get?_push_of_some _ z
  have z2 : ((h1.push (seqObj "list" its.toArray 0)).update h1.objs.size (Obj.mapSeq fun _ => #[])).objs.size = h1.objs.size + 1 := by
    rw [Heap.size_update, Heap.size_push]
  generalize (h1.push (seqObj "list" its.toArray 0)).update h1.objs.size (Obj.mapSeq fun _ => #[]) = h2 at ho1 k2 z2 ⊢
  have hkS : ((h2.push (seqObj "tuple" its.toArray 0)).push (seqObj "list" #[] 0)).get? (h2.objs.size + 1) = some (seqObj "list" #[] 0) := by
    rw [show h2.objs.size + 1 = (h2.push (seqObj "tuple" its.toArray 0)).objs.size by rw [Heap.size_push]]
    exact Heap.get?_push_size _ rfl
  have k3 : ∀ b o, h2.get? b = some o → ((h2.push (seqObj "tuple" its.toArray 0)).push (seqObj "list" #[] 0)).get? b = some o := fun b o z => Heap.get?_push_of_some _ (Heap.get?_push_of_some _ z)
  show wpAny (model X.prog X.w) X.A.in1.in1 (ksk_rest h1.objs.size (.ref f) false its.toArray e1 (.ref (h2.push (seqObj "tuple" its.toArray 0)).objs.size)) _ _ { s with heap := (h2.push (seqObj "tuple" its.toArray 0)).push (seqObj "list" #[] 0) }
  rw [Heap.size_push]
  generalize (h2.push (seqObj "tuple" its.toArray 0)).push (seqObj "list" #[] 0) = h3 at hkS k3 ⊢
  have fk : FpOk X pins H (h2.objs.size + 1) := I1.fpOk (show h1.objs.size ≤ h2.objs.size + 1 by omega) (I1.hok.fresh (show h1.objs.size ≤ h2.objs.size + 1 by omega))
  have I3 : Inv X pins σ H { s with heap := h3 } := I1.kept (t' := s.toks) fun b o z => k3 _ _ (k2 _ _ z)
  have hka : h2.objs.size + 1 ≠ h1.objs.size := by omega
  have I4 : Inv X (pins ++ [(h2.objs.size + 1, seqObj "list" #[] 0), (h1.objs.size, seqObj "list" #[] e1)]) σ H { s with heap := h3 } := by
    refine I3.pins_of fun p hp => ?_
    rcases List.mem_append.mp hp with hp | hp
    · exact I3.pin p (List.mem_append_right _ hp)
    · rcases List.mem_cons.mp hp with rfl | hp
      · exact ⟨hkS, fk.1, fk.2.1, fk.2.2.1, fun v z => nomatch z⟩
      · rw [List.mem_singleton.mp hp]
        exact ⟨k3 _ _ ho1, fa.1, fa.2.1, fa.2.2.1, fun v z => nomatch z⟩
  refine key_loop F rfl (show Room n X.A.in1.in1 from (show Room (n + 1) X.A.in1 from Room.in1 hr).in1) pass0 hl rv hz hsp hka fa fk I4 fun s' keys e I5 rk => ?_
  obtain ⟨ltk, O, hlt⟩ := kord_of (prog := X.prog) (w := X.w) hK rk
  obtain ⟨nk, _⟩ := I5.pin (h2.objs.size + 1, seqObj "list" keys.toArray e) (by simp)
  obtain ⟨na, _⟩ := I5.pin (h1.objs.size, seqObj "list" #[] e1) (by simp)
  refine key_end O (by rw [← rk.length]; omega) (by omega) hka nk na fun hm h' out o1 o2 m1 m2 m3 m4 => ⟨_, rfl, wpAny_pure ⟨_, rfl, ?_⟩⟩
  obtain ⟨n1, m2⟩ := m2
  obtain ⟨n2, m4⟩ := m4
  -- back to values
  obtain ⟨L, pL, eL⟩ := perm_lift (fun z : (V × V) × Keyed => z.2) o2 ((ks.zip xs).zip (keys.zip its)) (by rw [List.map_snd_zip]; simp only [List.length_zip]; have := rk.length; omega)
  have hrel : ∀ z ∈ L, RelV z.1.1 z.2.1 ∧ RelV z.1.2 z.2.2 ∧ ∃ i : Nat, ks[i]? = some z.1.1 := by
    intro z hz'
    obtain ⟨i, hi⟩ := List.mem_iff_getElem?.mp (pL.mem_iff.mp hz')
    obtain ⟨h1', h2'⟩ := List.getElem?_zip_eq_some.mp hi
    obtain ⟨a1, a2⟩ := List.getElem?_zip_eq_some.mp h1'
    obtain ⟨b1, b2⟩ := List.getElem?_zip_eq_some.mp h2'
    obtain ⟨u, c1, c2⟩ := rk.get a1
    rw [b1] at c1
    cases c1
    obtain ⟨u', d1, d2⟩ := rv.get a2
    rw [b2] at d1
    cases d1
    exact ⟨c2, d2, i, a1⟩
  have I6 : Inv X pins σ H s' := I5.unpinned
  have I7 : Inv X pins σ (upd H (h2.objs.size + 1) (.lst [])) { s' with heap := hm } := I6.take (h' := hm) (t' := s'.toks) (fun b o hb z => m1 b o hb z) fk ⟨Nat.zero_le _, [], n1, .nil, m2⟩
  have fa' : FpOk X pins (upd H (h2.objs.size + 1) (.lst [])) h1.objs.size := ⟨by rw [upd_ne hka.symm]; exact fa.1, fa.2⟩
  have rv' : Vals ((L.map (·.1)).map (·.2)) (out.map (·.2)) := by
    rw [← eL, List.map_map, List.map_map]
    clear eL pL o1 o2 m4
    induction L with
    | nil => exact .nil
    | cons z L ih => exact .cons (hrel z (by simp)).2.1 (ih fun y hy => hrel y (by simp [hy]))
  have hlen : ((L.map (·.1)).map (·.2)).length ≤ sizeLine := by
    rw [List.length_map, List.length_map, pL.length_eq, List.length_zip, List.length_zip]
    omega
  have I8 : Inv X pins σ (upd (upd H (h2.objs.size + 1) (.lst [])) h1.objs.size (.lst ((L.map (·.1)).map (·.2)))) { s' with heap := h' } :=
    I7.take (h' := h') (t' := s'.toks) (fun b o hb z => m3 b o hb z) fa' ⟨hlen, out.map (·.2), n2, rv', m4⟩
  refine ⟨.ref h1.objs.size, _, I8, rfl, q (L.map (·.1)) h1.objs.size _ ?_ ?_ fa.1 (fun b o z => ?_) upd_same⟩
  · have := pL.map (·.1)
    rwa [List.map_fst_zip (by simp only [List.length_zip]; have := rk.length; omega)] at this
  · rw [List.pairwise_map]
    have o1' := o1
    rw [← eL] at o1'
    have o3 := List.pairwise_map.mp o1'
    refine List.Pairwise.imp_of_mem (fun {x y} hx hy h => ?_) o3
    obtain ⟨x1, _, i, hi⟩ := hrel x hx
    obtain ⟨y1, _, j, hj⟩ := hrel y hy
    rw [← hlt j i _ _ _ _ hj hi y1 x1]
    exact h
  · rw [upd_ne (fun z' => by rw [z', fa.1] at z; cases z), upd_ne (fun z' => by rw [z', fk.1] at z; cases z)]
    exact z
end
end Fm
/-! != of an instance whose class has an __eq__ of its own alone -/
namespace Fm
open PySem PySem.Spec PyProof.Rows L2 SlX
section
variable {prog : Program} {w : PySem.World} {A : Around} {E : Value → Shared → Prop} {s : Shared} {K : PySem.W.Frag} {x C f : Addr} {ox : Obj} {od : Option Obj} {b tb : Value}
theorem objNe (X : K.In s.heap) (I : PySem.W.InstAt s.heap x ox C od) (he : PySem.W.findIn K (.ref C) "__eq__" = some (some (.ref f))) (hf : PySem.W.isFn K (.ref f) = true) (hu : A.units < cLine) {Q : PySem.Fin → Shared → Prop}
    (hc : wpAny (model prog w) A (call (.ref f) [.ref x, b]) (fun v s' => ∃ k, v = .bool k ∧ Q (.done (.ret (.bool (!k)))) s') E s) : wpAny (model prog w) A (Builtin.«object.__ne__» ⟨[.ref x, b], []⟩) Q E s := by
  unfold Builtin.«object.__ne__»
  repeat (first
    | with_reducible refine wpAny_cRoomFor hu ?_
    | (refine wpAny_bind (m := callSpecialIfBound? (.ref x) (Str.ofString "__eq__") [b]) (PySem.W.ifBound_K X I he hf (wpAny_mono hc (fun r s' hr => by
          obtain ⟨k, rfl, q⟩ := hr
          repeat (first | exact q | exact wpAny_pure q | exact wpAny_truthy_bool q | (refine wpAny_bind (m := truthy (.bool _)) (wpAny_truthy_bool ?_)) | wp_step)) fun _ _ z => z)))
    | wp_step)
theorem ne_own {Q : Value → Shared → Prop} (hu : A.units + 1 < cLine) (X : K.In s.heap) (I : PySem.W.InstAt s.heap x ox C od) (hb : PySem.W.Looks (model prog w) s.heap (typeOf b) tb) (hn : PySem.W.notFirst K C tb = true)
    (hs : PySem.W.findIn K (.ref C) "__ne__" = some (some (.builtin "object.__ne__"))) (hm : PySem.W.mroIn K C (.type "object") = some true) (he : PySem.W.findIn K (.ref C) "__eq__" = some (some (.ref f))) (hf : PySem.W.isFn K (.ref f) = true)
    (h : wpAny (model prog w) A.in1 (call (.ref f) [.ref x, b]) (fun v s' => ∃ k, v = .bool k ∧ Q (.bool (!k)) s') E s) : wpAny (model prog w) A (richCompare .NotEq (.ref x) b) Q E s := by
  have sub : PySem.W.Looks (model prog w) s.heap (isInstance (.ref x) (.type "object")) true := I.type.andThen (PySem.W.looks_mroIn X hm)
  have body : wpAny (model prog w) A (call (.builtin "object.__ne__") [.ref x, b]) (fun v s' => v ≠ .notImplemented ∧ Q v s') E s := by
    refine wpAny_call (codeAny_call_builtin PySem.F.cmp_object.ne.plain PySem.F.cmpEntry_ne (@PySem.W.check_slot (model prog w) _ _ s "object.__ne__" "object" "__ne__" (.ref x) [b] [] _ PySem.F.cmpKind_ne PySem.F.cmpSplit_ne sub (PySem.F.cmpArgs_ne _ _) ?_))
    refine objNe (A := A.in1) X I he hf hu (wpAny_mono h (fun v s' hv => ?_) fun _ _ z => z)
    obtain ⟨k, rfl, q⟩ := hv
    exact ⟨k, rfl, (fun z => nomatch z), q⟩
  have one : wpAny (model prog w) A (tryCompare (.ref x) (cmpInfo .NotEq).2.1 b) (fun r s' => ∃ v, r = some v ∧ Q v s') E s := by
    unfold tryCompare
    refine wpAny_bind ?_
    simp only [callSpecialIfBound?, bindSpecialIfBound?]
    refine wpAny_holding (wpAny_bind (wpAny_bind (wpAny_bind (I.type.here ((PySem.W.looks_findIn X (show PySem.W.findIn K (.ref C) (cmpInfo .NotEq).2.1 = _ from hs)).here ?_)))))
    refine wpAny_bind (wpAny_askSetting (wpAny_ite ?_))
    split
    · rw [PySem.F.cmp_object.ne.bind]
      refine wpAny_bind (wpAny_pure (wpAny_pure ?_))
      show wpAny _ _ (call (.builtin "object.__ne__") [.ref x, b] >>= _) _ _ _
      refine wpAny_bind (wpAny_mono body (fun v s' hv => wpAny_pure ?_) fun _ _ z => z)
      obtain ⟨h1, h2⟩ := hv
      cases v <;> first | exact absurd rfl h1 | exact wpAny_pure ⟨_, rfl, h2⟩
    · rw [PySem.F.cmp_object.ne.bind]
      refine wpAny_tryCatch (wpAny_bind (wpAny_pure (wpAny_pure ?_)))
      show wpAny _ _ (call (.builtin "object.__ne__") [.ref x, b] >>= _) _ _ _
      refine wpAny_bind (wpAny_mono body (fun v s' hv => wpAny_pure ?_) fun _ _ z => z)
      obtain ⟨h1, h2⟩ := hv
      cases v <;> first | exact absurd rfl h1 | exact wpAny_pure ⟨_, rfl, h2⟩
  unfold richCompare
  simp only [oneThing_ref]
  refine wpAny_holding (wpAny_bind (wpAny_cRoomFor (Nat.lt_of_succ_lt hu) (wpAny_bind (I.type.here (wpAny_bind (hb.here ?_))))))
  split
  · rename_i q
    have e : PySem.W.subIn K tb (.ref C) = some false := by
      rcases Bool.or_eq_true_iff.mp hn with e | e
      · rw [beq_iff_eq.mp e] at q
        simp at q
      · exact beq_iff_eq.mp e
    refine wpAny_bind ((PySem.W.looks_subIn X e).here ?_)
    simp only [Bool.false_eq_true, if_false]
    refine wpAny_bind (wpAny_mono one (fun r s' z => ?_) fun _ _ z => z)
    obtain ⟨v, rfl, hq⟩ := z
    exact wpAny_pure hq
  · refine wpAny_bind (wpAny_pure ?_)
    simp only [Bool.false_eq_true, if_false]
    refine wpAny_bind (wpAny_mono one (fun r s' z => ?_) fun _ _ z => z)
    obtain ⟨v, rfl, hq⟩ := z
    exact wpAny_pure hq
end
section
variable {X : Cx} {CX : CXT} {pins : List (Addr × Obj)} {σ : L2.St} {H : Hp} {s : Shared} {C g : Addr} {n : Nat} {sp : Sp} {E : XK}
/-- what may stand at the other side -/
def Oth (K : PySem.W.Frag) (H : Hp) (C : Addr) (y : V) : Prop := (∃ b C' dy ws, y = .ref b ∧ Slt H b C' dy ws ∧ PySem.W.notFirst K C (.ref C') = true) ∨ ∃ tb, TyX K H y tb ∧ PySem.W.notFirst K C tb = true
theorem Oth.looks {y : V} {u : Value} (I : Inv X pins σ H s) (ry : RelV y u) (h : Oth X.K H C y) : ∃ tb, PySem.W.Looks (model X.prog X.w) s.heap (typeOf u) tb ∧ PySem.W.notFirst X.K C tb = true := by
  rcases h with ⟨b, C', dy, ws, rfl, hb, hn⟩ | ⟨tb, ht, hn⟩
  · cases (show u = Value.ref b from ry)
    obtain ⟨sl, od, _, J, _⟩ := slt_inst I hb
    exact ⟨_, J.type, hn⟩
  · obtain ⟨P, kx, hp, _⟩ := kit_of I ry ht
    exact ⟨tb, kx.ty _ _ I.kIn hp, hn⟩
def rOwnG (K : PySem.W.Frag) (C : Addr) (sp : Sp) (E : XK) : R2 := fun x y H Q => ∃ a dx vs, x = .ref a ∧ Slt H a C dx vs ∧ Oth K H C y ∧ sp [x, y] H Q E
theorem op_ownG (hs : PySem.W.findIn X.K (.ref C) "__eq__" = some (some (.ref g))) (hf : PySem.W.isFn X.K (.ref g) = true) (F : FnR X.prog X.w X.K X.mg X.base CX n g sp)
    (hr : Room n X.A) (hx : Passes CX X E) : OpR X (compareOp .Eq) (rOwnG X.K C sp E) := by
  intro pins s σ H x y v u Q I rx ry h
  obtain ⟨a, dx, vs, rfl, ha, ho, q⟩ := h
  cases (show v = Value.ref a from rx)
  obtain ⟨sl, od, _, J, _⟩ := slt_inst I ha
  obtain ⟨tb, L, hn⟩ := ho.looks I ry
  obtain ⟨m, hF⟩ := I.fr
  refine PySem.W.cmp_K (op := .Eq) (tb := tb) hr.units0 hF I.ok.mod.kin J L hn hs hf ?_
  refine wpAny_mono (wpAny_call (run_fnR (us := [.ref a, u]) (vs := [.ref a, y]) F hr hx I (.cons rfl (.cons ry .nil)) q)) (fun w s' z => ?_) fun _ _ x => x
  obtain ⟨z', H', I', rz, qz⟩ := z
  exact cmpback rz ⟨z', H', I', rz, qz⟩
def rNeOwn (K : PySem.W.Frag) (C : Addr) (sp : Sp) (E : XK) : R2 := fun x y H Q => ∃ a dx vs, x = .ref a ∧ Slt H a C dx vs ∧ Oth K H C y ∧ sp [x, y] H (fun z H' => ∃ k, z = .bl k ∧ Q (.bl (!k)) H') E
theorem op_neOwn (hne : PySem.W.findIn X.K (.ref C) "__ne__" = some (some (.builtin "object.__ne__"))) (hm : PySem.W.mroIn X.K C (.type "object") = some true) (hs : PySem.W.findIn X.K (.ref C) "__eq__" = some (some (.ref g))) (hf : PySem.W.isFn X.K (.ref g) = true)
    (F : FnR X.prog X.w X.K X.mg X.base CX n g sp) (hr : Room (n + 1) X.A) (hx : Passes CX X E) : OpR X (compareOp .NotEq) (rNeOwn X.K C sp E) := by
  intro pins s σ H x y v u Q I rx ry h
  obtain ⟨a, dx, vs, rfl, ha, ho, q⟩ := h
  cases (show v = Value.ref a from rx)
  obtain ⟨sl, od, _, J, _⟩ := slt_inst I ha
  obtain ⟨tb, L, hn⟩ := ho.looks I ry
  have hu : X.A.units + 1 < cLine := by have := hr.un; omega
  refine ne_own (tb := tb) hu I.kIn J L hn hne hm hs hf ?_
  refine wpAny_mono (wpAny_call (run_at (us := [.ref a, u]) (ws := [.ref a, y]) F (Room.in1 hr) I.env0.in1 hx I (.cons rfl (.cons ry .nil)) q)) (fun w s' z => ?_) fun _ _ x => x
  obtain ⟨z', H', I', rz, k, ek, qz⟩ := z
  subst ek
  cases (show w = Value.bool k from rz)
  exact ⟨k, rfl, .bl (!k), H', I', rfl, qz⟩
end
end Fm
/-! properties, len of an instance -/
namespace Fm
open PySem PySem.Spec PyProof.Rows L2 SlX
/-- a property of a class of the text -/
structure PropAt (K : PySem.W.Frag) (C : Addr) (m q : Str) (st : Stmt) (ps : List Str) where
  f : Addr
  fd : FuncData
  F : Fun K m q st f fd
  p : Addr
  at_ : PySem.W.findIn K (.ref C) m = some (some (.ref p))
  get : PySem.W.specialIn K (.ref p) "__get__" = some (some (.builtin "property.__get__"))
  tk : PySem.W.takesIn K (.ref p) = some true
  rc : ∃ rest, PySem.W.recIn K p "property" = some (.ref f :: rest)
  b : Binds K fd ps []
section
variable {X : Cx} {CX : CXT} {C g : Addr} {n : Nat} {sp : Sp} {E : XK}
def rLenOwn (C : Addr) (sp : Sp) (E : XK) : List V → Hp → VK → Prop := fun xs H Q => ∃ a dx vs, xs = [V.ref a] ∧ Slt H a C dx vs ∧ sp [.ref a] H (fun z H' => ∃ i : Nat, z = .int i ∧ i ≤ 1000000 ∧ Q z H') E
theorem call_lenOwn (hs : PySem.W.findIn X.K (.ref C) "__len__" = some (some (.ref g))) (hf : PySem.W.isFn X.K (.ref g) = true) (F : FnR X.prog X.w X.K X.mg X.base CX n g sp) (hr : Room (n + 1) X.A) (hx : Passes CX X E) : CallR X (.builtin "len") (rLenOwn C sp E) := by
  intro pins s σ H xs us Q I r h
  obtain ⟨a, dx, vs, rfl, hsl, q⟩ := h
  obtain ⟨u, rfl, ru⟩ := r.one
  cases (show u = Value.ref a from ru)
  obtain ⟨sl, od, _, J, _⟩ := slt_inst I hsl
  obtain ⟨m, hF⟩ := I.fr
  refine PySem.W.len_K hF I.ok.mod.kin J hs hf (wpAny_mono (wpAny_call (run_at (us := [.ref a]) (ws := [.ref a]) F (Room.in1 hr) I.env0.in1 hx I (.cons rfl .nil) q)) (fun w s' z => ?_) fun _ _ x => x)
  obtain ⟨z', H', I', rz, i, ei, hi, qz⟩ := z
  subst ei
  obtain ⟨t, e⟩ := (show ∃ t, w = Value.int (i : Int) t from rz)
  subst e
  refine ⟨⟨by omega, by omega⟩, ?_⟩
  exact ⟨.int i, H', I'.tok _, ⟨_, rfl⟩, qz⟩
end
end Fm
namespace Fm
open PySem PySem.Spec PyProof.Rows L2 SlX
structure DefAt (K : PySem.W.Frag) (mg : Str → Option Value) (x : Str) (st : Stmt) (ps : List Str) where
  f : Addr
  fd : FuncData
  F : Fun K x x st f fd
  g : mg x = some (.ref f)
  b : Binds K fd ps []
def topS (i : Nat) : Stmt := PySem.Challenge.pw_framemoves_k22_codes_made.main.body.getD i (.Pass ⟨0, 0, 0, 0⟩)
abbrev s__wall : Stmt := topS 0
abbrev N__wall : List Str := ["k"]
abbrev P__wall : List Str := ["k"]
theorem sc__wall : FnScope N__wall P__wall (defScope s__wall) := ⟨rfl, rfl, rfl, by decide +kernel, rfl, by decide +kernel, by decide +kernel⟩
abbrev s_is_integer : Stmt := topS 11
abbrev N_is_integer : List Str := ["thing"]
abbrev P_is_integer : List Str := ["thing"]
theorem sc_is_integer : FnScope N_is_integer P_is_integer (defScope s_is_integer) := ⟨rfl, rfl, rfl, by decide +kernel, rfl, by decide +kernel, by decide +kernel⟩
abbrev s_is_name : Stmt := topS 12
abbrev N_is_name : List Str := ["thing", "sign"]
abbrev P_is_name : List Str := ["thing"]
theorem sc_is_name : FnScope N_is_name P_is_name (defScope s_is_name) := ⟨rfl, rfl, rfl, by decide +kernel, rfl, by decide +kernel, by decide +kernel⟩
abbrev s_is_outcome : Stmt := topS 13
abbrev N_is_outcome : List Str := ["thing"]
abbrev P_is_outcome : List Str := ["thing"]
theorem sc_is_outcome : FnScope N_is_outcome P_is_outcome (defScope s_is_outcome) := ⟨rfl, rfl, rfl, by decide +kernel, rfl, by decide +kernel, by decide +kernel⟩
abbrev s_is_term : Stmt := topS 14
abbrev N_is_term : List Str := ["thing", "waiting", "one"]
abbrev P_is_term : List Str := ["thing"]
theorem sc_is_term : FnScope N_is_term P_is_term (defScope s_is_term) := ⟨rfl, rfl, rfl, by decide +kernel, rfl, by decide +kernel, by decide +kernel⟩
abbrev s_is_term_over : Stmt := topS 15
abbrev N_is_term_over : List Str := ["many", "thing", "waiting", "one"]
abbrev P_is_term_over : List Str := ["many", "thing"]
theorem sc_is_term_over : FnScope N_is_term_over P_is_term_over (defScope s_is_term_over) := ⟨rfl, rfl, rfl, by decide +kernel, rfl, by decide +kernel, by decide +kernel⟩
abbrev s_is_within : Stmt := topS 20
abbrev N_is_within : List Str := ["thing", "most"]
abbrev P_is_within : List Str := ["thing", "most"]
theorem sc_is_within : FnScope N_is_within P_is_within (defScope s_is_within) := ⟨rfl, rfl, rfl, by decide +kernel, rfl, by decide +kernel, by decide +kernel⟩
abbrev s_are_outcomes : Stmt := topS 21
abbrev N_are_outcomes : List Str := ["thing", "outcome"]
abbrev P_are_outcomes : List Str := ["thing"]
theorem sc_are_outcomes : FnScope N_are_outcomes P_are_outcomes (defScope s_are_outcomes) := ⟨rfl, rfl, rfl, by decide +kernel, rfl, by decide +kernel, by decide +kernel⟩
abbrev s_is_act : Stmt := topS 22
abbrev N_is_act : List Str := ["thing"]
abbrev P_is_act : List Str := ["thing"]
theorem sc_is_act : FnScope N_is_act P_is_act (defScope s_is_act) := ⟨rfl, rfl, rfl, by decide +kernel, rfl, by decide +kernel, by decide +kernel⟩
abbrev s_are_different : Stmt := topS 28
abbrev N_are_different : List Str := ["many", "thing", "one"]
abbrev P_are_different : List Str := ["many", "thing"]
theorem sc_are_different : FnScope N_are_different P_are_different (defScope s_are_different) := ⟨rfl, rfl, rfl, by decide +kernel, rfl, by decide +kernel, by decide +kernel⟩
abbrev s_are_terms_over : Stmt := topS 29
abbrev N_are_terms_over : List Str := ["many", "thing", "term"]
abbrev P_are_terms_over : List Str := ["many", "thing"]
theorem sc_are_terms_over : FnScope N_are_terms_over P_are_terms_over (defScope s_are_terms_over) := ⟨rfl, rfl, rfl, by decide +kernel, rfl, by decide +kernel, by decide +kernel⟩
abbrev s_is_place : Stmt := topS 30
abbrev N_is_place : List Str := ["places", "thing"]
abbrev P_is_place : List Str := ["places", "thing"]
theorem sc_is_place : FnScope N_is_place P_is_place (defScope s_is_place) := ⟨rfl, rfl, rfl, by decide +kernel, rfl, by decide +kernel, by decide +kernel⟩
abbrev s_is_pair : Stmt := topS 31
abbrev N_is_pair : List Str := ["thing"]
abbrev P_is_pair : List Str := ["thing"]
theorem sc_is_pair : FnScope N_is_pair P_is_pair (defScope s_is_pair) := ⟨rfl, rfl, rfl, by decide +kernel, rfl, by decide +kernel, by decide +kernel⟩
abbrev s_is_set : Stmt := topS 32
abbrev N_is_set : List Str := ["variables", "places", "thing", "change"]
abbrev P_is_set : List Str := ["variables", "places", "thing"]
theorem sc_is_set : FnScope N_is_set P_is_set (defScope s_is_set) := ⟨rfl, rfl, rfl, by decide +kernel, rfl, by decide +kernel, by decide +kernel⟩
abbrev s_is_way : Stmt := topS 33
abbrev N_is_way : List Str := ["world", "variables", "places", "act", "thing"]
abbrev P_is_way : List Str := ["world", "variables", "places", "act", "thing"]
theorem sc_is_way : FnScope N_is_way P_is_way (defScope s_is_way) := ⟨rfl, rfl, rfl, by decide +kernel, rfl, by decide +kernel, by decide +kernel⟩
abbrev s_is_ask : Stmt := topS 34
abbrev N_is_ask : List Str := ["world", "variables", "places", "thing", "word", "act", "terms", "ways", "way"]
abbrev P_is_ask : List Str := ["world", "variables", "places", "thing"]
theorem sc_is_ask : FnScope N_is_ask P_is_ask (defScope s_is_ask) := ⟨rfl, rfl, rfl, by decide +kernel, rfl, by decide +kernel, by decide +kernel⟩
abbrev s_is_end : Stmt := topS 35
abbrev N_is_end : List Str := ["variables", "thing"]
abbrev P_is_end : List Str := ["variables", "thing"]
theorem sc_is_end : FnScope N_is_end P_is_end (defScope s_is_end) := ⟨rfl, rfl, rfl, by decide +kernel, rfl, by decide +kernel, by decide +kernel⟩
abbrev s_is_statement : Stmt := topS 36
abbrev N_is_statement : List Str := ["world", "variables", "places", "thing"]
abbrev P_is_statement : List Str := ["world", "variables", "places", "thing"]
theorem sc_is_statement : FnScope N_is_statement P_is_statement (defScope s_is_statement) := ⟨rfl, rfl, rfl, by decide +kernel, rfl, by decide +kernel, by decide +kernel⟩
abbrev s_ordered : Stmt := topS 37
abbrev N_ordered : List Str := ["statement"]
abbrev P_ordered : List Str := ["statement"]
theorem sc_ordered : FnScope N_ordered P_ordered (defScope s_ordered) := ⟨rfl, rfl, rfl, by decide +kernel, rfl, by decide +kernel, by decide +kernel⟩
abbrev s_first_of : Stmt := topS 38
abbrev N_first_of : List Str := ["row"]
abbrev P_first_of : List Str := ["row"]
theorem sc_first_of : FnScope N_first_of P_first_of (defScope s_first_of) := ⟨rfl, rfl, rfl, by decide +kernel, rfl, by decide +kernel, by decide +kernel⟩
abbrev s__law_bag : Stmt := topS 41
abbrev N__law_bag : List Str := ["_law_script", "_law_cell"]
abbrev P__law_bag : List Str := ["_law_script"]
theorem sc__law_bag : FnScope N__law_bag P__law_bag (defScope s__law_bag) := ⟨rfl, rfl, rfl, by decide +kernel, rfl, by decide +kernel, by decide +kernel⟩
abbrev s__law_take : Stmt := topS 42
abbrev N__law_take : List Str := ["_law_bag_here", "_law_many", "_law_cell", "_law_mixed_here", "_law_value", "_law_begin", "_law_second"]
abbrev P__law_take : List Str := ["_law_bag_here", "_law_many"]
theorem sc__law_take : FnScope N__law_take P__law_take (defScope s__law_take) := ⟨rfl, rfl, rfl, by decide +kernel, rfl, by decide +kernel, by decide +kernel⟩
abbrev s__law_alike : Stmt := topS 43
abbrev N__law_alike : List Str := ["_law_found", "_law_due"]
abbrev P__law_alike : List Str := ["_law_found", "_law_due"]
theorem sc__law_alike : FnScope N__law_alike P__law_alike (defScope s__law_alike) := ⟨rfl, rfl, rfl, by decide +kernel, rfl, by decide +kernel, by decide +kernel⟩
abbrev s__law_mixed : Stmt := topS 44
abbrev N__law_mixed : List Str := ["_law_bag_here", "_law_things", "_law_found", "_law_thing"]
abbrev P__law_mixed : List Str := ["_law_bag_here", "_law_things"]
theorem sc__law_mixed : FnScope N__law_mixed P__law_mixed (defScope s__law_mixed) := ⟨rfl, rfl, rfl, by decide +kernel, rfl, by decide +kernel, by decide +kernel⟩
abbrev s__law_names : Stmt := topS 45
abbrev N__law_names : List Str := ["_law_bag_here", "_law_many", "_law_letters", "_law_words", "_law_way", "_law_turn", "_law_base", "_law_at", "_law_k"]
abbrev P__law_names : List Str := ["_law_bag_here", "_law_many"]
theorem sc__law_names : FnScope N__law_names P__law_names (defScope s__law_names) := ⟨rfl, rfl, rfl, by decide +kernel, rfl, by decide +kernel, by decide +kernel⟩
abbrev s__law_term : Stmt := topS 46
abbrev N__law_term : List Str := ["_law_bag_here", "_law_names_here", "_law_many", "_law_deep", "_law_way", "_law_name", "_law_parts", "_law_k"]
abbrev P__law_term : List Str := ["_law_bag_here", "_law_names_here", "_law_many", "_law_deep"]
theorem sc__law_term : FnScope N__law_term P__law_term (defScope s__law_term) := ⟨rfl, rfl, rfl, by decide +kernel, rfl, by decide +kernel, by decide +kernel⟩
abbrev s__law_acts : Stmt := topS 47
abbrev N__law_acts : List Str := ["_law_bag_here", "_law_many", "_law_names_here", "_law_words", "_law_acts_here", "_law_name", "_law_outcomes", "_law_word"]
abbrev P__law_acts : List Str := ["_law_bag_here", "_law_many"]
theorem sc__law_acts : FnScope N__law_acts P__law_acts (defScope s__law_acts) := ⟨rfl, rfl, rfl, by decide +kernel, rfl, by decide +kernel, by decide +kernel⟩
abbrev s__law_world_of : Stmt := topS 48
abbrev N__law_world_of : List Str := ["_law_bag_here", "_law_acts_here", "_law_rows", "_law_name"]
abbrev P__law_world_of : List Str := ["_law_bag_here", "_law_acts_here"]
theorem sc__law_world_of : FnScope N__law_world_of P__law_world_of (defScope s__law_world_of) := ⟨rfl, rfl, rfl, by decide +kernel, rfl, by decide +kernel, by decide +kernel⟩
abbrev s__law_goal : Stmt := topS 49
abbrev N__law_goal : List Str := ["_law_bag_here", "_law_at", "_law_places"]
abbrev P__law_goal : List Str := ["_law_bag_here", "_law_at", "_law_places"]
theorem sc__law_goal : FnScope N__law_goal P__law_goal (defScope s__law_goal) := ⟨rfl, rfl, rfl, by decide +kernel, rfl, by decide +kernel, by decide +kernel⟩
abbrev s__law_ask : Stmt := topS 50
abbrev N__law_ask : List Str := ["_law_bag_here", "_law_acts_here", "_law_operations", "_law_many", "_law_at", "_law_places", "_law_act", "_law_terms", "_law_ways", "_law_outcome", "_law_taken", "_law_k"]
abbrev P__law_ask : List Str := ["_law_bag_here", "_law_acts_here", "_law_operations", "_law_many", "_law_at", "_law_places"]
theorem sc__law_ask : FnScope N__law_ask P__law_ask (defScope s__law_ask) := ⟨rfl, rfl, rfl, by decide +kernel, rfl, by decide +kernel, by decide +kernel⟩
abbrev s__law_line : Stmt := topS 51
abbrev N__law_line : List Str := ["_law_bag_here", "_law_acts_here", "_law_operations", "_law_many", "_law_at", "_law_places", "_law_way", "_law_told", "_law_taken", "_law_changes", "_law_one", "_law_k"]
abbrev P__law_line : List Str := ["_law_bag_here", "_law_acts_here", "_law_operations", "_law_many", "_law_at", "_law_places"]
theorem sc__law_line : FnScope N__law_line P__law_line (defScope s__law_line) := ⟨rfl, rfl, rfl, by decide +kernel, rfl, by decide +kernel, by decide +kernel⟩
abbrev s__law_code : Stmt := topS 52
abbrev N__law_code : List Str := ["_law_bag_here", "_law_acts_here", "_law_places", "_law_many", "_law_operations", "_law_rows", "_law_at"]
abbrev P__law_code : List Str := ["_law_bag_here", "_law_acts_here", "_law_places", "_law_many"]
theorem sc__law_code : FnScope N__law_code P__law_code (defScope s__law_code) := ⟨rfl, rfl, rfl, by decide +kernel, rfl, by decide +kernel, by decide +kernel⟩
abbrev s__law_code_of : Stmt := topS 53
abbrev N__law_code_of : List Str := ["_law_bag_here", "_law_world", "_law_code_here", "_law_rows", "_law_row"]
abbrev P__law_code_of : List Str := ["_law_bag_here", "_law_world", "_law_code_here"]
theorem sc__law_code_of : FnScope N__law_code_of P__law_code_of (defScope s__law_code_of) := ⟨rfl, rfl, rfl, by decide +kernel, rfl, by decide +kernel, by decide +kernel⟩
abbrev s__law_first : Stmt := topS 54
abbrev N__law_first : List Str := ["_law_code_here"]
abbrev P__law_first : List Str := ["_law_code_here"]
theorem sc__law_first : FnScope N__law_first P__law_first (defScope s__law_first) := ⟨rfl, rfl, rfl, by decide +kernel, rfl, by decide +kernel, by decide +kernel⟩
abbrev s__law_wrapped : Stmt := topS 55
abbrev N__law_wrapped : List Str := ["_law_terms", "_law_term_here"]
abbrev P__law_wrapped : List Str := ["_law_terms"]
theorem sc__law_wrapped : FnScope N__law_wrapped P__law_wrapped (defScope s__law_wrapped) := ⟨rfl, rfl, rfl, by decide +kernel, rfl, by decide +kernel, by decide +kernel⟩
abbrev s__law_nested : Stmt := topS 56
abbrev N__law_nested : List Str := ["_law_bag_here", "_law_row", "_law_one", "_law_term_here"]
abbrev P__law_nested : List Str := ["_law_bag_here", "_law_row"]
theorem sc__law_nested : FnScope N__law_nested P__law_nested (defScope s__law_nested) := ⟨rfl, rfl, rfl, by decide +kernel, rfl, by decide +kernel, by decide +kernel⟩
abbrev s__law_deep_code : Stmt := topS 57
abbrev N__law_deep_code : List Str := ["_law_bag_here", "_law_acts_here", "_law_places", "_law_many", "_law_found", "_law_row"]
abbrev P__law_deep_code : List Str := ["_law_bag_here", "_law_acts_here", "_law_places", "_law_many"]
theorem sc__law_deep_code : FnScope N__law_deep_code P__law_deep_code (defScope s__law_deep_code) := ⟨rfl, rfl, rfl, by decide +kernel, rfl, by decide +kernel, by decide +kernel⟩
abbrev s__law_near : Stmt := topS 58
abbrev N__law_near : List Str := ["_law_bag_here", "_law_code_here", "_law_found", "_law_way", "_law_rows", "_law_at", "_law_ways", "_law_k"]
abbrev P__law_near : List Str := ["_law_bag_here", "_law_code_here"]
theorem sc__law_near : FnScope N__law_near P__law_near (defScope s__law_near) := ⟨rfl, rfl, rfl, by decide +kernel, rfl, by decide +kernel, by decide +kernel⟩
abbrev s__law_asked : Stmt := topS 59
abbrev N__law_asked : List Str := ["_law_code_here", "_law_place", "e"]
abbrev P__law_asked : List Str := ["_law_code_here", "_law_place"]
theorem sc__law_asked : FnScope N__law_asked P__law_asked (defScope s__law_asked) := ⟨rfl, rfl, rfl, by decide +kernel, rfl, by decide +kernel, by decide +kernel⟩
abbrev s__law_right : Stmt := topS 60
abbrev N__law_right : List Str := ["_law_told", "_law_world", "_law_code_here", "_law_places", "_law_numbers", "_law_place", "_law_rows"]
abbrev P__law_right : List Str := ["_law_told", "_law_world", "_law_code_here"]
theorem sc__law_right : FnScope N__law_right P__law_right (defScope s__law_right) := ⟨rfl, rfl, rfl, by decide +kernel, rfl, by decide +kernel, by decide +kernel⟩
abbrev s_law : Stmt := topS 61
abbrev N_law : List Str := ["_law_script", "_law_bag_here", "_law_turn", "_law_many", "_law_acts_here", "_law_world", "_law_code_here", "_law_sides", "_law_told", "_law_handed", "_law_at", "_law_due", "_law_truths", "_law_more", "_law_wider", "_law_same", "_law_other", "_law_side", "_law_key", "_law_one"]
abbrev P_law : List Str := ["_law_script"]
theorem sc_law : FnScope N_law P_law (defScope s_law) := ⟨rfl, rfl, rfl, by decide +kernel, rfl, by decide +kernel, by decide +kernel⟩
abbrev s_World___init__ : Stmt := inClass (topS 23) 1
abbrev N_World___init__ : List Str := ["self", "acts", "name"]
abbrev P_World___init__ : List Str := ["self", "acts"]
theorem sc_World___init__ : FnScope N_World___init__ P_World___init__ (defScope s_World___init__) := ⟨rfl, rfl, rfl, by decide +kernel, rfl, by decide +kernel, by decide +kernel⟩
abbrev s_World_acts : Stmt := inClass (topS 23) 2
abbrev N_World_acts : List Str := ["self"]
abbrev P_World_acts : List Str := ["self"]
theorem sc_World_acts : FnScope N_World_acts P_World_acts (defScope s_World_acts) := ⟨rfl, rfl, rfl, by decide +kernel, rfl, by decide +kernel, by decide +kernel⟩
abbrev s_World_arguments : Stmt := inClass (topS 23) 3
abbrev N_World_arguments : List Str := ["self", "act"]
abbrev P_World_arguments : List Str := ["self", "act"]
theorem sc_World_arguments : FnScope N_World_arguments P_World_arguments (defScope s_World_arguments) := ⟨rfl, rfl, rfl, by decide +kernel, rfl, by decide +kernel, by decide +kernel⟩
abbrev s_World_outcomes : Stmt := inClass (topS 23) 4
abbrev N_World_outcomes : List Str := ["self", "act"]
abbrev P_World_outcomes : List Str := ["self", "act"]
theorem sc_World_outcomes : FnScope N_World_outcomes P_World_outcomes (defScope s_World_outcomes) := ⟨rfl, rfl, rfl, by decide +kernel, rfl, by decide +kernel, by decide +kernel⟩
abbrev s_World_brings : Stmt := inClass (topS 23) 5
abbrev N_World_brings : List Str := ["self", "act", "outcome"]
abbrev P_World_brings : List Str := ["self", "act", "outcome"]
theorem sc_World_brings : FnScope N_World_brings P_World_brings (defScope s_World_brings) := ⟨rfl, rfl, rfl, by decide +kernel, rfl, by decide +kernel, by decide +kernel⟩
abbrev s_World___eq__ : Stmt := inClass (topS 23) 6
abbrev N_World___eq__ : List Str := ["self", "other"]
abbrev P_World___eq__ : List Str := ["self", "other"]
theorem sc_World___eq__ : FnScope N_World___eq__ P_World___eq__ (defScope s_World___eq__) := ⟨rfl, rfl, rfl, by decide +kernel, rfl, by decide +kernel, by decide +kernel⟩
abbrev s_Code___init__ : Stmt := inClass (topS 39) 1
abbrev N_Code___init__ : List Str := ["self", "world", "variables", "given", "statements", "fits", "at", "statement"]
abbrev P_Code___init__ : List Str := ["self", "world", "variables", "given", "statements"]
theorem sc_Code___init__ : FnScope N_Code___init__ P_Code___init__ (defScope s_Code___init__) := ⟨rfl, rfl, rfl, by decide +kernel, rfl, by decide +kernel, by decide +kernel⟩
abbrev s_Code_world : Stmt := inClass (topS 39) 2
abbrev N_Code_world : List Str := ["self"]
abbrev P_Code_world : List Str := ["self"]
theorem sc_Code_world : FnScope N_Code_world P_Code_world (defScope s_Code_world) := ⟨rfl, rfl, rfl, by decide +kernel, rfl, by decide +kernel, by decide +kernel⟩
abbrev s_Code_variables : Stmt := inClass (topS 39) 3
abbrev N_Code_variables : List Str := ["self"]
abbrev P_Code_variables : List Str := ["self"]
theorem sc_Code_variables : FnScope N_Code_variables P_Code_variables (defScope s_Code_variables) := ⟨rfl, rfl, rfl, by decide +kernel, rfl, by decide +kernel, by decide +kernel⟩
abbrev s_Code_given : Stmt := inClass (topS 39) 4
abbrev N_Code_given : List Str := ["self"]
abbrev P_Code_given : List Str := ["self"]
theorem sc_Code_given : FnScope N_Code_given P_Code_given (defScope s_Code_given) := ⟨rfl, rfl, rfl, by decide +kernel, rfl, by decide +kernel, by decide +kernel⟩
abbrev s_Code___len__ : Stmt := inClass (topS 39) 5
abbrev N_Code___len__ : List Str := ["self"]
abbrev P_Code___len__ : List Str := ["self"]
theorem sc_Code___len__ : FnScope N_Code___len__ P_Code___len__ (defScope s_Code___len__) := ⟨rfl, rfl, rfl, by decide +kernel, rfl, by decide +kernel, by decide +kernel⟩
abbrev s_Code_statement : Stmt := inClass (topS 39) 6
abbrev N_Code_statement : List Str := ["self", "place"]
abbrev P_Code_statement : List Str := ["self", "place"]
theorem sc_Code_statement : FnScope N_Code_statement P_Code_statement (defScope s_Code_statement) := ⟨rfl, rfl, rfl, by decide +kernel, rfl, by decide +kernel, by decide +kernel⟩
abbrev s_Code_statements : Stmt := inClass (topS 39) 7
abbrev N_Code_statements : List Str := ["self"]
abbrev P_Code_statements : List Str := ["self"]
theorem sc_Code_statements : FnScope N_Code_statements P_Code_statements (defScope s_Code_statements) := ⟨rfl, rfl, rfl, by decide +kernel, rfl, by decide +kernel, by decide +kernel⟩
abbrev s_Code_first : Stmt := inClass (topS 39) 8
abbrev N_Code_first : List Str := ["self"]
abbrev P_Code_first : List Str := ["self"]
theorem sc_Code_first : FnScope N_Code_first P_Code_first (defScope s_Code_first) := ⟨rfl, rfl, rfl, by decide +kernel, rfl, by decide +kernel, by decide +kernel⟩
abbrev s_Code_showing : Stmt := inClass (topS 39) 9
abbrev N_Code_showing : List Str := ["self", "place"]
abbrev P_Code_showing : List Str := ["self", "place"]
theorem sc_Code_showing : FnScope N_Code_showing P_Code_showing (defScope s_Code_showing) := ⟨rfl, rfl, rfl, by decide +kernel, rfl, by decide +kernel, by decide +kernel⟩
abbrev s_Code_parts : Stmt := inClass (topS 39) 10
abbrev N_Code_parts : List Str := ["self"]
abbrev P_Code_parts : List Str := ["self"]
theorem sc_Code_parts : FnScope N_Code_parts P_Code_parts (defScope s_Code_parts) := ⟨rfl, rfl, rfl, by decide +kernel, rfl, by decide +kernel, by decide +kernel⟩
abbrev s_Code___eq__ : Stmt := inClass (topS 39) 11
abbrev N_Code___eq__ : List Str := ["self", "other"]
abbrev P_Code___eq__ : List Str := ["self", "other"]
theorem sc_Code___eq__ : FnScope N_Code___eq__ P_Code___eq__ (defScope s_Code___eq__) := ⟨rfl, rfl, rfl, by decide +kernel, rfl, by decide +kernel, by decide +kernel⟩
structure TX (K : PySem.W.Frag) (mg : Str → Option Value) where
  d__wall : DefAt K mg "_wall" s__wall P__wall
  d_is_integer : DefAt K mg "is_integer" s_is_integer P_is_integer
  d_is_name : DefAt K mg "is_name" s_is_name P_is_name
  d_is_outcome : DefAt K mg "is_outcome" s_is_outcome P_is_outcome
  d_is_term : DefAt K mg "is_term" s_is_term P_is_term
  d_is_term_over : DefAt K mg "is_term_over" s_is_term_over P_is_term_over
  d_is_within : DefAt K mg "is_within" s_is_within P_is_within
  d_are_outcomes : DefAt K mg "are_outcomes" s_are_outcomes P_are_outcomes
  d_is_act : DefAt K mg "is_act" s_is_act P_is_act
  d_are_different : DefAt K mg "are_different" s_are_different P_are_different
  d_are_terms_over : DefAt K mg "are_terms_over" s_are_terms_over P_are_terms_over
  d_is_place : DefAt K mg "is_place" s_is_place P_is_place
  d_is_pair : DefAt K mg "is_pair" s_is_pair P_is_pair
  d_is_set : DefAt K mg "is_set" s_is_set P_is_set
  d_is_way : DefAt K mg "is_way" s_is_way P_is_way
  d_is_ask : DefAt K mg "is_ask" s_is_ask P_is_ask
  d_is_end : DefAt K mg "is_end" s_is_end P_is_end
  d_is_statement : DefAt K mg "is_statement" s_is_statement P_is_statement
  d_ordered : DefAt K mg "ordered" s_ordered P_ordered
  d_first_of : DefAt K mg "first_of" s_first_of P_first_of
  d__law_bag : DefAt K mg "_law_bag" s__law_bag P__law_bag
  d__law_take : DefAt K mg "_law_take" s__law_take P__law_take
  d__law_alike : DefAt K mg "_law_alike" s__law_alike P__law_alike
  d__law_mixed : DefAt K mg "_law_mixed" s__law_mixed P__law_mixed
  d__law_names : DefAt K mg "_law_names" s__law_names P__law_names
  d__law_term : DefAt K mg "_law_term" s__law_term P__law_term
  d__law_acts : DefAt K mg "_law_acts" s__law_acts P__law_acts
  d__law_world_of : DefAt K mg "_law_world_of" s__law_world_of P__law_world_of
  d__law_goal : DefAt K mg "_law_goal" s__law_goal P__law_goal
  d__law_ask : DefAt K mg "_law_ask" s__law_ask P__law_ask
  d__law_line : DefAt K mg "_law_line" s__law_line P__law_line
  d__law_code : DefAt K mg "_law_code" s__law_code P__law_code
  d__law_code_of : DefAt K mg "_law_code_of" s__law_code_of P__law_code_of
  d__law_first : DefAt K mg "_law_first" s__law_first P__law_first
  d__law_wrapped : DefAt K mg "_law_wrapped" s__law_wrapped P__law_wrapped
  d__law_nested : DefAt K mg "_law_nested" s__law_nested P__law_nested
  d__law_deep_code : DefAt K mg "_law_deep_code" s__law_deep_code P__law_deep_code
  d__law_near : DefAt K mg "_law_near" s__law_near P__law_near
  d__law_asked : DefAt K mg "_law_asked" s__law_asked P__law_asked
  d__law_right : DefAt K mg "_law_right" s__law_right P__law_right
  d_law : DefAt K mg "law" s_law P_law
  C_World : Addr
  g_World : mg "World" = some (.ref C_World)
  k_World : PySem.W.keepIn K (.ref C_World) = true
  c_World : SCls K C_World
  mk_World : PySem.W.makesIn K C_World = true
  is_World : SIsi K C_World
  ne_World : PySem.W.findIn K (.ref C_World) "__ne__" = some (some (.builtin "object.__ne__"))
  ty_World : PySem.W.typeIn K (.ref C_World) = some (.type "type")
  p_World_its_acts : Addr
  sl_World_its_acts : Slot1 K C_World "its_acts" p_World_its_acts 0
  d_World___init__ : MethAt K C_World "__init__" "World.__init__" s_World___init__ P_World___init__
  d_World_acts : MethAt K C_World "acts" "World.acts" s_World_acts P_World_acts
  d_World_arguments : MethAt K C_World "arguments" "World.arguments" s_World_arguments P_World_arguments
  d_World_outcomes : MethAt K C_World "outcomes" "World.outcomes" s_World_outcomes P_World_outcomes
  d_World_brings : MethAt K C_World "brings" "World.brings" s_World_brings P_World_brings
  d_World___eq__ : MethAt K C_World "__eq__" "World.__eq__" s_World___eq__ P_World___eq__
  C_Code : Addr
  g_Code : mg "Code" = some (.ref C_Code)
  k_Code : PySem.W.keepIn K (.ref C_Code) = true
  c_Code : SCls K C_Code
  mk_Code : PySem.W.makesIn K C_Code = true
  is_Code : SIsi K C_Code
  df_World_Code : PySem.W.subIn K (.ref C_World) (.ref C_Code) = some false
  dn_World_Code : C_World ≠ C_Code
  ne_Code : PySem.W.findIn K (.ref C_Code) "__ne__" = some (some (.builtin "object.__ne__"))
  ty_Code : PySem.W.typeIn K (.ref C_Code) = some (.type "type")
  p_Code_its_given : Addr
  sl_Code_its_given : Slot1 K C_Code "its_given" p_Code_its_given 0
  p_Code_its_statements : Addr
  sl_Code_its_statements : Slot1 K C_Code "its_statements" p_Code_its_statements 1
  p_Code_its_variables : Addr
  sl_Code_its_variables : Slot1 K C_Code "its_variables" p_Code_its_variables 2
  p_Code_its_world : Addr
  sl_Code_its_world : Slot1 K C_Code "its_world" p_Code_its_world 3
  d_Code___init__ : MethAt K C_Code "__init__" "Code.__init__" s_Code___init__ P_Code___init__
  d_Code_world : PropAt K C_Code "world" "Code.world" s_Code_world P_Code_world
  d_Code_variables : PropAt K C_Code "variables" "Code.variables" s_Code_variables P_Code_variables
  d_Code_given : PropAt K C_Code "given" "Code.given" s_Code_given P_Code_given
  d_Code___len__ : MethAt K C_Code "__len__" "Code.__len__" s_Code___len__ P_Code___len__
  d_Code_statement : MethAt K C_Code "statement" "Code.statement" s_Code_statement P_Code_statement
  d_Code_statements : MethAt K C_Code "statements" "Code.statements" s_Code_statements P_Code_statements
  d_Code_first : MethAt K C_Code "first" "Code.first" s_Code_first P_Code_first
  d_Code_showing : MethAt K C_Code "showing" "Code.showing" s_Code_showing P_Code_showing
  d_Code_parts : MethAt K C_Code "parts" "Code.parts" s_Code_parts P_Code_parts
  d_Code___eq__ : MethAt K C_Code "__eq__" "Code.__eq__" s_Code___eq__ P_Code___eq__
  b_ValueError : mg "ValueError" = none
  b_abs : mg "abs" = none
  b_all : mg "all" = none
  b_bool : mg "bool" = none
  b_dict : mg "dict" = none
  b_enumerate : mg "enumerate" = none
  b_int : mg "int" = none
  b_isinstance : mg "isinstance" = none
  b_len : mg "len" = none
  b_list : mg "list" = none
  b_min : mg "min" = none
  b_range : mg "range" = none
  b_repr : mg "repr" = none
  b_set : mg "set" = none
  b_sorted : mg "sorted" = none
  b_str : mg "str" = none
  b_tuple : mg "tuple" = none
  v_LETTERS : Value
  c_LETTERS : mg "LETTERS" = some v_LETTERS
  r_LETTERS : RelV (.str "abcdefghijklmnopqrstuvwxyz") v_LETTERS
  v_MOST_LETTERS : Value
  c_MOST_LETTERS : mg "MOST_LETTERS" = some v_MOST_LETTERS
  r_MOST_LETTERS : RelV (.int 8) v_MOST_LETTERS
  v_MOST_PARTS : Value
  c_MOST_PARTS : mg "MOST_PARTS" = some v_MOST_PARTS
  r_MOST_PARTS : RelV (.int 3) v_MOST_PARTS
  v_MOST_ARGUMENTS : Value
  c_MOST_ARGUMENTS : mg "MOST_ARGUMENTS" = some v_MOST_ARGUMENTS
  r_MOST_ARGUMENTS : RelV (.int 2) v_MOST_ARGUMENTS
  v_MOST_OUTCOMES : Value
  c_MOST_OUTCOMES : mg "MOST_OUTCOMES" = some v_MOST_OUTCOMES
  r_MOST_OUTCOMES : RelV (.int 6) v_MOST_OUTCOMES
  v_MOST_BROUGHT : Value
  c_MOST_BROUGHT : mg "MOST_BROUGHT" = some v_MOST_BROUGHT
  r_MOST_BROUGHT : RelV (.int 2) v_MOST_BROUGHT
  a_NIL : Addr
  c_NIL : mg "NIL" = some (.ref a_NIL)
  q_NIL : ∀ H : Hp, SqT K H a_NIL [.str "nil"]
  v_MOST_VARIABLES : Value
  c_MOST_VARIABLES : mg "MOST_VARIABLES" = some v_MOST_VARIABLES
  r_MOST_VARIABLES : RelV (.int 24) v_MOST_VARIABLES
  v_MOST_TOLD : Value
  c_MOST_TOLD : mg "MOST_TOLD" = some v_MOST_TOLD
  r_MOST_TOLD : RelV (.int 2) v_MOST_TOLD
structure TY (P : Program) (K : PySem.W.Frag) (mg : Str → Option Value) where
  C_MoveError : Addr
  x_MoveError : ExN K mg "MoveError" C_MoveError
  C_Wrong : Addr
  x_Wrong : ExT P K mg "Wrong" "place" C_Wrong
  C_BadAct : Addr
  x_BadAct : ExT P K mg "BadAct" "name" C_BadAct
  C_BadPlace : Addr
  x_BadPlace : ExT P K mg "BadPlace" "at" C_BadPlace
  C_NoPlace : Addr
  x_NoPlace : ExT P K mg "NoPlace" "place" C_NoPlace
  xc_NoPlace : ExcC K C_NoPlace
  em_NoPlace_MoveError : PySem.W.exmOne K (.ref C_NoPlace) (.ref C_MoveError) = some true
end Fm
namespace Fm
open PySem PySem.Spec PyProof.Rows L2
section
variable {P : Program} {w : World} {K : PySem.W.Frag} {mg : Str → Option Value} {base : Heap}
def sp_bag (K : PySem.W.Frag) : Sp := fun vs H Q _ => ∃ (a : Addr) (ns : List Int), vs = [.ref a] ∧ SqL K H a (ns.map V.int) ∧ ns.length ≤ 63 ∧ ∀ H' p, Mv [] H H' → H p = none → Bag H' p → Q (.ref p) H'
theorem cut63 (xs : List V) (h : xs.length ≤ 63) : cutV xs none (some 63) = xs := by
  unfold cutV
  rw [HT.sIx_none, show HT.sIx xs.length xs.length (some 63) = min 63 xs.length from HT.sIx_nat xs.length xs.length 63, List.drop_zero, List.take_of_length_le (by omega)]
theorem ok__law_bag (T : TX K mg) {k : Nat} : FnOk P w K mg base CX0 (k + 1) T.d__law_bag.f T.d__law_bag.fd P__law_bag (sp_bag K) := by
  refine T.d__law_bag.F.ok sc__law_bag (fun vs H Q E h => ?_) (fun cdv A outer s H vs Q E hr h => ?_)
  · obtain ⟨a, ns, rfl, _⟩ := h
    rfl
  · obtain ⟨a, ns, rfl, hS, hl, q⟩ := h
    refine ⟨_, (pss_one (ps_ret (pe_lst (pa_cons pe_int (pa_cons pe_int (pa_cons pe_int (pa_cons (pe_lc (own := [("_law_cell", 1)]) (g := gName 1) (by rfl) sc__law_bag.nd (pi_seq (pe_slice (r := rSlG K) sl_G (pv 0) po_none (po_some pe_int))) (blkOk_by (own := [("_law_cell", 1)]) (N := N__law_bag) (sc := defScope s__law_bag) (by decide +kernel)) (fun _ _ _ _ _ => pg_name (i := 1) sc__law_bag.nd rfl (Or.inl rfl)) (fun _ _ _ _ _ => pts_nil) (fun _ _ _ _ _ => (pe_callB call_abs (by rfl) T.b_abs bt_abs (pa_cons (pv 1) pa_nil)))) pa_nil))))))), ?_⟩
    refine ⟨.ref a, rfl, 63, rfl, Or.inl ⟨a, _, rfl, hS, fun c nc => ⟨c, rfl, Or.inl ⟨⟨_, .inl (.inl upd_same)⟩, fun D nD => ?_⟩⟩⟩⟩
    have hlen : (ns.map V.int).length ≤ 63 := by rw [List.length_map]; exact hl
    rw [cut63 _ hlen] at nD ⊢
    refine lc_list (K := K) (a := c) (xs := ns.map V.int) (fun i H3 => ∃ ms : List Int, H3 c = some (.lst (ns.map V.int)) ∧ H3 D = some (.lst (ms.map V.int)) ∧ ms.length = i ∧ (∀ n ∈ ms, 0 ≤ n) ∧ Mv [] H H3)
      ⟨[], ?_, upd_same, rfl, by simp, ?_⟩ (fun i H3 _ h3 => ?_) (fun i x H3 hx h3 => ?_) (fun H3 h3 => ?_)
    · rw [upd_ne (ne_of_none upd_same nD), upd_same]
    · exact (Mv.new nc).trans (.new nD)
    · obtain ⟨ms, h1, _⟩ := h3
      exact .inl (.inl h1)
    · obtain ⟨ms, h1, h2, h4, h5, h6⟩ := h3
      obtain ⟨n, hn, rfl⟩ : ∃ n ∈ ns, x = .int n := by
        have := List.mem_of_getElem? hx
        obtain ⟨n, hn, e⟩ := List.mem_map.mp this
        exact ⟨n, hn, e.symm⟩
      have hDc : c ≠ D := ne_of_none upd_same nD
      refine ⟨rfl, .int n, rfl, n, rfl, _, h2, ?_, ms ++ [if n < 0 then -n else n], ?_, ?_, ?_, ?_, ?_⟩
      · rw [List.length_map]
        have := (List.getElem?_eq_some_iff.mp hx).1
        rw [List.length_map] at this
        exact small1000 (by omega)
      · rw [upd_ne hDc]
        exact h1
      · rw [upd_same, List.map_append]
        rfl
      · simp [h4]
      · intro z hz
        rcases List.mem_append.mp hz with hz | hz
        · exact h5 z hz
        · rw [List.mem_singleton.mp hz]
          split <;> omega
      · exact h6.wr ((Mv.new nc).free nD)
    · obtain ⟨ms, h1, h2, h4, h5, h6⟩ := h3
      refine ⟨(by decide : 4 ≤ sizeLine), fun p np => q _ p (h6.trans (.new np)) (h6.free np) ⟨D, 0, 1234567891, 0, ms, upd_same, ?_, ?_, h5, by decide, by decide, by decide⟩⟩
      · rw [upd_ne (ne_of_none h2 np)]
        exact h2
      · rw [h4, List.length_map]
        exact hl

/-- a number from 0 to n - 1 is drawn -/
def sp_take : Sp := fun vs H Q _ => ∃ (b : Addr) (n : Int), vs = [.ref b, .int n] ∧ Bag H b ∧ 0 < n ∧ n ≤ 1000000 ∧ ∀ (i : Int) H', 0 ≤ i → i < n → Dr b H H' → Q (.int i) H'
theorem Bag.set {H : Hp} {b c : Addr} {ns : List Int} {s m k : Int} {xs : List V} (hb : H b = some (.lst xs)) (hc : H c = some (.lst (ns.map V.int))) (hcb : c ≠ b)
    (hl : ns.length ≤ 63) (hn : ∀ n ∈ ns, 0 ≤ n) (h1 : 0 ≤ s) (h2 : 0 ≤ k) (h3 : 0 ≤ m) : BagC (upd H b (.lst [.int s, .int m, .int k, .ref c])) b c :=
  ⟨s, m, k, ns, upd_same, by rw [upd_ne hcb]; exact hc, hl, hn, h1, h2, h3⟩
theorem rd_set {p : Addr} {xs ys : List V} {k : Int} {j : Nat} {v : V} {H : Hp} {Q : Hp → Prop} (hp : H p = some (.lst xs)) (hj : ixN xs.length k = some j) (hy : xs.set j v = ys)
    (h : ∀ H', H' p = some (.lst ys) → Mv [p] H H' → (∀ a, a ≠ p → H' a = H a) → Q H') : rSetL (.ref p) (.int k) v H Q := by
  refine ⟨p, xs, k, j, rfl, rfl, hp, hj, ?_⟩
  rw [hy]
  exact h _ upd_same (.set hp (by simp)) fun a ha => upd_ne ha
theorem ok__law_take (T : TX K mg) {k : Nat} : FnOk P w K mg base CX0 (k + 1) T.d__law_take.f T.d__law_take.fd P__law_take sp_take := by
  refine T.d__law_take.F.ok sc__law_take (fun vs H Q E h => ?_) (fun cdv A outer s H vs Q E hr h => ?_)
  · obtain ⟨a, ns, rfl, _⟩ := h
    rfl
  · obtain ⟨b, n, rfl, hB, h0, h1, q⟩ := h
    have hu64 := hr.units
    refine ⟨_, (Evl.pss_cut (ps_if (pt_cmpR (r := rEqG K) (op_eqG hu64) (pe_ix (r := rIx K) ix_seq (pv 0) pe_int (fun _ _ => rfl)) pe_int (nomark _)) (pss_cons (ps_set (i := 2) sc__law_take.nd rfl (Or.inl rfl) pe_int) (Evl.pss_cut (ps_if (pt_cmpR op_lt (pe_ix (r := rIx K) ix_seq (pv 0) pe_int (fun _ _ => rfl)) (pe_callB (r := rLenG K) call_lenG (by rfl) T.b_len bt_len (pa_cons (pe_ix (r := rIx K) ix_seq (pv 0) pe_int (fun _ _ => rfl)) pa_nil)) (nomark _)) (pss_one (ps_set (i := 2) sc__law_take.nd rfl (Or.inl rfl) (pe_ix (r := rIx K) ix_seq (pe_ix (r := rIx K) ix_seq (pv 0) pe_int (fun _ _ => rfl)) (pe_ix (r := rIx K) ix_seq (pv 0) pe_int (fun _ _ => rfl)) (fun _ _ => rfl)))) pss_nil) (pss_cons (ps_augS (pv 0) pe_int get_G pe_int ip_add set_list) (Evl.pss_cut (ps_if (pt_cmpR op_ge (pv 2) pe_int (nomark _)) (pss_one (ps_asg (pv 2) (pg_sub (pv 0) pe_int set_list))) pss_nil) (pss_cons (ps_set (i := 3) sc__law_take.nd rfl (Or.inl rfl) (pe_op (r := rAddG K) op_addG (pe_op (r := rAddG K) op_addG (pe_op op_mulG (pe_ix (r := rIx K) ix_seq (pv 0) pe_int (fun _ _ => rfl)) pe_int) (pe_op op_mod (pe_callTy call_int1 (by rfl) T.b_int bt_int (pa_cons (pv 2) pa_nil)) pe_int)) (pe_op op_mulG pe_int (pe_ix (r := rIx K) ix_seq (pv 0) pe_int (fun _ _ => rfl))))) (pss_one (ps_asg (pe_op op_mod (pe_callTy call_int1 (by rfl) T.b_int bt_int (pa_cons (pv 3) pa_nil)) pe_int) (pg_sub (pv 0) pe_int set_list)))))))) pss_nil) (pss_cons (ps_if (pt_cmpR op_gt (pe_ix (r := rIx K) ix_seq (pv 0) pe_int (fun _ _ => rfl)) pe_int (nomark _)) (pss_cons (ps_set (i := 4) sc__law_take.nd rfl (Or.inl rfl) (pe_op op_mod (pe_callTy call_int1 (by rfl) T.b_int bt_int (pa_cons (pe_ix (r := rIx K) ix_seq (pv 0) pe_int (fun _ _ => rfl)) pa_nil)) (pv 1))) (pss_cons (ps_asg (pe_op op_fdivW (pe_ix (r := rIx K) ix_seq (pv 0) pe_int (fun _ _ => rfl)) (pv 1)) (pg_sub (pv 0) pe_int set_list)) (pss_one (ps_ret (pv 4))))) pss_nil) (pss_cons (ps_set (i := 5) sc__law_take.nd rfl (Or.inl rfl) (pe_op op_mod (pe_callTy call_int1 (by rfl) T.b_int bt_int (pa_cons (pe_op op_mulG (pe_op (r := rAddG K) op_addG (pe_ix (r := rIx K) ix_seq (pv 0) pe_int (fun _ _ => rfl)) pe_int) pe_int) pa_nil)) pe_int)) (pss_cons (ps_set (i := 6) sc__law_take.nd rfl (Or.inl rfl) (pe_op op_mod (pe_callTy call_int1 (by rfl) T.b_int bt_int (pa_cons (pe_op op_mulG (pe_op op_mod (pe_callTy call_int1 (by rfl) T.b_int bt_int (pa_cons (pe_op op_mulG (pv 5) (pv 5)) pa_nil)) pe_int) pe_int) pa_nil)) pe_int)) (pss_cons (ps_if (pt_cmpR op_gt (pv 1) pe_int (nomark _)) (pss_one (ps_ret (pe_op op_mod (pe_callTy call_int1 (by rfl) T.b_int bt_int (pa_cons (pe_op (r := rAddG K) op_addG (pe_op op_mulG (pv 6) pe_int) (pv 5)) pa_nil)) (pv 1)))) pss_nil) (pss_one (ps_ret (pe_op op_mod (pe_callTy call_int1 (by rfl) T.b_int bt_int (pa_cons (pe_op op_fdivW (pv 6) pe_int) pa_nil)) (pv 1))))))))), ?_⟩
    obtain ⟨c, hB⟩ := hB
    have hBC := hB
    obtain ⟨z, m, j, ns, eb, ec, hl, hn, hz, hj, hm⟩ := hB
    have hcb : c ≠ b := Bag.ne (xs := [.int z, .int m, .int j]) eb ec
    have sq : ∀ {H : Hp} {xs : List V}, H b = some (.lst xs) → SqL K H b xs := fun h => .inl (.inl h)
    -- behind the first if
    refine ⟨fun σ H1 => ∃ y2 y3 y4 y5 y6, σ = [some (.ref b), some (.int n), y2, y3, y4, y5, y6] ∧ Dr b H H1 ∧ BagC H1 b c, ?_, fun σ H1 hM => ?_⟩
    · refine ⟨.ref b, rfl, Or.inl ⟨b, _, 0, .int z, rfl, rfl, sq eb, rfl, Or.inl ⟨rfl, _, rfl, ite2 (fun e => ?_) (fun e => ?_)⟩⟩⟩
      · -- cell = 0; the next cell
        refine ⟨fun σ H1 => ∃ x : Int, 0 ≤ x ∧ σ = [some (.ref b), some (.int n), some (.int x), none, none, none, none] ∧ H1 = H, ?_, fun σ H1 hM => ?_⟩
        · refine ⟨.ref b, rfl, Or.inl ⟨b, _, 2, .int j, rfl, rfl, sq eb, rfl, .ref b, rfl, Or.inl ⟨b, _, 3, .ref c, rfl, rfl, sq eb, rfl, Or.inl ⟨c, _, rfl, .inl (.inl (.inl ec)), j, _, rfl, rfl, _, rfl, ite2 (fun e => ?_) (fun e => ?_)⟩⟩⟩⟩
          · have e' : j < (ns.map V.int).length := of_decide_eq_true e
            obtain ⟨i, rfl⟩ := Int.eq_ofNat_of_zero_le hj
            have hi : i < ns.length := by
              rw [List.length_map] at e'
              omega
            have gi : (ns.map V.int)[i]? = some (.int ns[i]) := by
              rw [List.getElem?_map, List.getElem?_eq_getElem hi]
              rfl
            refine ⟨.ref b, rfl, Or.inl ⟨b, _, 3, .ref c, rfl, rfl, sq eb, rfl, .ref b, rfl, Or.inl ⟨b, _, 2, .int (i : Int), rfl, rfl, sq eb, rfl, Or.inl ⟨c, _, _, .int ns[i], rfl, rfl, .inl (.inl ec), atI_nat gi, ?_⟩⟩⟩⟩
            exact ⟨ns[i], hn _ (List.getElem_mem hi), rfl, rfl⟩
          · exact ⟨0, Int.le_refl _, rfl, rfl⟩
        · obtain ⟨x, hx, rfl, rfl⟩ := hM
          -- bag[2] += 1
          refine ⟨.ref b, rfl, b, _, 2, .int j, rfl, rfl, sq eb, rfl, j, 1, rfl, rfl, rd_set eb rfl rfl fun H2 eb2 m1 k1 => ?_⟩
          have ec2 : H2 c = some (.lst (ns.map V.int)) := by rw [k1 c hcb]; exact ec
          -- a great cell is kept
          refine ⟨fun σ H3 => ∃ z' : Int, 0 ≤ z' ∧ σ = [some (.ref b), some (.int n), some (.int x), none, none, none, none] ∧ H3 b = some (.lst [.int z', .int m, .int (j + 1), .ref c]) ∧ H3 c = some (.lst (ns.map V.int)) ∧ Mv [b] H2 H3, ?_, fun σ H3 hM => ?_⟩
          · refine ⟨.int x, rfl, x, _, rfl, rfl, _, rfl, ite2 (fun e => ?_) (fun e => ?_)⟩
            · refine ⟨.int x, rfl, .ref b, rfl, b, _, 0, 0, rfl, rfl, eb2, rfl, x, hx, rfl, upd_same, ?_, .set eb2 (by simp)⟩
              rw [upd_ne hcb]
              exact ec2
            · exact ⟨z, hz, rfl, eb2, ec2, .refl⟩
          · obtain ⟨z', hz', rfl, eb3, ec3, m3⟩ := hM
            refine ⟨.ref b, rfl, Or.inl ⟨b, _, 1, .int m, rfl, rfl, sq eb3, rfl, Or.inl ⟨m, 48271, rfl, rfl, .inr ⟨by decide, by decide⟩, .int x, rfl, Or.inl ⟨x, rfl, x, _, rfl, rfl, (by decide : (0 : Int) < _), ?_⟩⟩⟩⟩
            refine Or.inl ⟨_, _, rfl, rfl, .ref b, rfl, Or.inl ⟨b, _, 2, .int (j + 1), rfl, rfl, sq eb3, rfl, Or.inl ⟨7919, j + 1, rfl, rfl, .inl ⟨by decide, by decide⟩, Or.inl ⟨_, _, rfl, rfl, ?_⟩⟩⟩⟩
            refine ⟨_, rfl, Or.inl ⟨_, rfl, _, _, rfl, rfl, (by decide : (0 : Int) < _), .ref b, rfl, b, _, 1, 1, rfl, rfl, eb3, rfl, _, _, _, _, _, rfl, ?_, ?_⟩⟩
            · exact .mkc ((m1.trans m3).trans (.set eb3 (by simp))) hBC (Bag.set eb3 ec3 hcb hl hn hz' (by omega) (Int.emod_nonneg _ (by decide)))
            · exact Bag.set eb3 ec3 hcb hl hn hz' (by omega) (Int.emod_nonneg _ (by decide))
      · exact ⟨_, _, _, _, _, rfl, .refl, z, m, j, ns, eb, ec, hl, hn, hz, hj, hm⟩
    · obtain ⟨y2, y3, y4, y5, y6, rfl, hD, hB⟩ := hM
      have hBC1 := hB
      obtain ⟨z, m, j, ns, eb, ec, hl, hn, hz, hj, hm⟩ := hB
      have hcb : c ≠ b := Bag.ne (xs := [.int z, .int m, .int j]) eb ec
      refine ⟨.ref b, rfl, Or.inl ⟨b, _, 0, .int z, rfl, rfl, sq eb, rfl, z, 0, rfl, rfl, _, rfl, ite2 (fun e => ?_) (fun e => ?_)⟩⟩
      · -- value = int(bag[0]) % many; bag[0] = bag[0] // many; return value
        refine ⟨.ref b, rfl, Or.inl ⟨b, _, 0, .int z, rfl, rfl, sq eb, rfl, Or.inl ⟨z, rfl, .int n, rfl, z, n, rfl, rfl, h0, ?_⟩⟩⟩
        refine ⟨.ref b, rfl, Or.inl ⟨b, _, 0, .int z, rfl, rfl, sq eb, rfl, .int n, rfl, z, n, rfl, rfl, ?_, ?_⟩⟩
        · exact wide_div (b := 64) h0 (by omega) (by decide) (by decide)
        · refine ⟨.ref b, rfl, b, _, 0, 0, rfl, rfl, eb, rfl, ?_⟩
          refine ⟨.int (z % n), rfl, q _ _ (Int.emod_nonneg z (by omega)) (Int.emod_lt_of_pos z h0) (hD.trans (.mkc (.set eb (by simp)) hBC1 ?_))⟩
          exact Bag.set eb ec hcb hl hn (Int.ediv_nonneg hz (by omega)) hj hm
      · refine ⟨.ref b, rfl, Or.inl ⟨b, _, 1, .int m, rfl, rfl, sq eb, rfl, Or.inl ⟨m, 1, rfl, rfl, Or.inl ⟨_, _, rfl, rfl, .inr ⟨by decide, by decide⟩, Or.inl ⟨_, rfl, _, _, rfl, rfl, (by decide : (0 : Int) < _), ?_⟩⟩⟩⟩⟩
        have hx0 : 0 ≤ (m + 1) * 39373 % 1000000007 := Int.emod_nonneg _ (by decide)
        have hx1 : (m + 1) * 39373 % 1000000007 < 1000000007 := Int.emod_lt_of_pos _ (by decide)
        refine ⟨_, rfl, _, rfl, Or.inl ⟨(m + 1) * 39373 % 1000000007, (m + 1) * 39373 % 1000000007, rfl, rfl, .inl ⟨by omega, by omega⟩, Or.inl ⟨_, rfl, _, _, rfl, rfl, (by decide : (0 : Int) < _), Or.inl ⟨_, _, rfl, rfl, .inr ⟨by decide, by decide⟩, Or.inl ⟨_, rfl, _, _, rfl, rfl, (by decide : (0 : Int) < _), ?_⟩⟩⟩⟩⟩
        refine ⟨.int n, rfl, n, _, rfl, rfl, _, rfl, ite2 (fun e => ?_) (fun e => ?_)⟩
        · exact absurd (of_decide_eq_true e) (by omega)
        · refine ⟨_, rfl, _, 7, rfl, rfl, ⟨by decide, by decide⟩, Or.inl ⟨_, rfl, .int n, rfl, _, n, rfl, rfl, h0, ?_⟩⟩
          exact q _ _ (Int.emod_nonneg _ (by omega)) (Int.emod_lt_of_pos _ h0) hD
end
end Fm
namespace Fm
open PySem PySem.Spec PyProof.Rows L2
/-- a new list of names -/
def sp_names : Sp := fun vs H Q _ => ∃ (b : Addr) (n : Nat), vs = [.ref b, .int n] ∧ Bag H b ∧ 0 < n ∧ n ≤ 12 ∧
  ∀ (p : Addr) (xs : List Str) H', xs.length = n → (∀ x ∈ xs, Nm x) → H p = none → H' p = some (.lst (xs.map V.str)) → Dr b H H' → Q (.ref p) H'
theorem rd_split {X : Cx} {a b : Str} {H : Hp} {Q : VK} (P : List Str → Bool) (hP : P (Txt.split a b) = true)
    (h : ∀ p ws H', P ws = true → H p = none → H' p = some (.lst (ws.map V.str)) → Mv [] H H' → Q (.ref p) H') : rNewStrs (Txt.split a b) H Q :=
  fun p np => h p _ _ hP np upd_same (.new np)
theorem str_len_append (x y : Str) : (x ++ y).length = x.length + y.length := by first | exact strLen_append x y | (show (x.cps ++ y.cps).size = _; simp [Str.length])
theorem str_cps_append (x y : Str) : (x ++ y).cps.toList = x.cps.toList ++ y.cps.toList := by
  show (x.cps ++ y.cps).toList = _
  simp
theorem join_chars : ∀ l : List Nat, Txt.join "" (l.map fun c => (⟨#[c]⟩ : Str)) = ⟨l.toArray⟩
  | [] => by decide +kernel
  | [c] => by
    show Builtin.Str.glued _ _ = _
    rw [StrLaws.glued_eq_join]
    rfl
  | c :: d :: l => by
    have ih := join_chars (d :: l)
    show Builtin.Str.glued _ _ = _
    have ih' : Builtin.Str.glued "" ((d :: l).map fun c => (⟨#[c]⟩ : Str)) = ⟨(d :: l).toArray⟩ := ih
    rw [StrLaws.glued_eq_join] at ih' ⊢
    show (⟨#[c]⟩ : Str) ++ "" ++ Str.join "" ((d :: l).map fun c => (⟨#[c]⟩ : Str)) = _
    rw [ih']
    show (⟨(#[c] ++ #[]) ++ (d :: l).toArray⟩ : Str) = _
    simp
theorem cutS_to (z : Str) (i : Nat) (h : i ≤ z.length) : (cutS z none (some (i : Int))).cps.toList = z.cps.toList.take i := by
  unfold cutS
  rw [HT.sIx_none, HT.sIx_nat, Nat.min_eq_left h]
  simp
theorem cutS_from (z : Str) (i : Nat) (h : i ≤ z.length) : (cutS z (some (i : Int)) none).cps.toList = z.cps.toList.drop i := by
  unfold cutS
  rw [HT.sIx_none, HT.sIx_nat, Nat.min_eq_left h]
  have e : z.cps.toList.length = z.length := by simp [Str.length]
  show ((z.cps.toList.drop i).take (z.length - i)).toArray.toList = _
  rw [List.take_of_length_le (by rw [List.length_drop, e]; exact Nat.le_refl _)]
theorem len_cps (z : Str) : z.cps.toList.length = z.length := by simp [Str.length]
theorem sum_ones : ∀ cs : List Nat, ((cs.map fun c => (⟨#[c]⟩ : Str)).map (·.length)).sum = cs.length
  | [] => rfl
  | c :: cs => by
    have := sum_ones cs
    simp only [List.map_cons, List.sum_cons, List.length_cons, this]
    show 1 + cs.length = _
    omega
theorem cutV_from {xs : List V} {i : Int} (h0 : 0 ≤ i) (h : i ≤ xs.length) : cutV xs (some i) none = xs.drop i.toNat := by
  obtain ⟨j, rfl⟩ := Int.eq_ofNat_of_zero_le h0
  unfold cutV
  rw [HT.sIx_none, HT.sIx_nat, Nat.min_eq_left (by omega), List.take_of_length_le (by rw [List.length_drop]; exact Nat.le_refl _)]
  rfl
theorem cutV_to {xs : List V} {i : Int} (h0 : 0 ≤ i) : cutV xs none (some i) = xs.take i.toNat := by
  obtain ⟨j, rfl⟩ := Int.eq_ofNat_of_zero_le h0
  unfold cutV
  rw [HT.sIx_none, HT.sIx_nat, List.drop_zero]
  show xs.take (min j xs.length - 0) = xs.take j
  rw [Nat.sub_zero]
  by_cases e : j ≤ xs.length
  · rw [Nat.min_eq_left e]
  · rw [Nat.min_eq_right (by omega), List.take_of_length_le (Nat.le_refl _), List.take_of_length_le (by omega)]
theorem rd_letter {K : PySem.W.Frag} {z : Str} {j : Int} {H : Hp} {Q : VK} (hz : (decide (z.length = 26) && z.cps.toList.all fun c => decide (97 ≤ c) && decide (c ≤ 122)) = true) (h0 : 0 ≤ j) (h1 : j < 26)
    (h : ∀ c : Nat, 97 ≤ c → c ≤ 122 → z.cps.toList[j.toNat]? = some c → Q (.str ⟨#[c]⟩) H) : rIx K (.str z) (.int j) H Q := by
  simp only [Bool.and_eq_true, decide_eq_true_eq, List.all_eq_true] at hz
  obtain ⟨hl, ha⟩ := hz
  obtain ⟨i, rfl⟩ := Int.eq_ofNat_of_zero_le h0
  have hi : i < z.cps.toList.length := by rw [len_cps, hl]; omega
  have e := List.getElem?_eq_getElem hi
  have hc := ha _ (List.getElem_mem hi)
  exact Or.inr (Or.inr ⟨z, i, _, rfl, rfl, by rw [hl]; decide, atI_nat e, h _ hc.1 hc.2 e⟩)
section
variable {P : Program} {w : World} {K : PySem.W.Frag} {mg : Str → Option Value} {base : Heap}
theorem ok__law_names (T : TX K mg) {k : Nat} : FnOk P w K mg base CX0 (k + 2) T.d__law_names.f T.d__law_names.fd P__law_names sp_names := by
  have G__law_take : FnOk P w K mg base CX0 (k + 1) T.d__law_take.f T.d__law_take.fd P__law_take sp_take := ok__law_take T
  refine T.d__law_names.F.ok sc__law_names (fun vs H Q E h => ?_) (fun cdv A outer s H vs Q E hr h => ?_)
  · obtain ⟨b, n, rfl, _⟩ := h
    rfl
  · obtain ⟨b, n, rfl, hB, h0, h1, q⟩ := h
    have hu64 := hr.units
    refine ⟨_, (pss_cons (ps_set (i := 2) sc__law_names.nd rfl (Or.inr rfl) pe_str) (pss_cons (ps_set (i := 3) sc__law_names.nd rfl (Or.inl rfl) pe_str) (pss_cons (ps_set (i := 3) sc__law_names.nd rfl (Or.inl rfl) (pe_bm PySem.F.plainAttrs_str PySem.F.slot_str_split PySem.F.type_str_split mt_split (pe_op (r := rAddG K) op_addG (pv 3) pe_str) (pa_cons pe_str pa_nil))) (pss_cons (ps_asg (pe_tup (pa_cons (pe_call G__law_take (hr.mono (by omega)) rfl T.d__law_take.g T.d__law_take.F.kp T.d__law_take.b .nil pass0 (pa_cons (pv 0) (pa_cons pe_int pa_nil))) (pa_cons (pe_call G__law_take (hr.mono (by omega)) rfl T.d__law_take.g T.d__law_take.F.kp T.d__law_take.b .nil pass0 (pa_cons (pv 0) (pa_cons pe_int pa_nil))) pa_nil))) (pg_tup rfl (pgs_cons (pg_name (i := 4) sc__law_names.nd rfl (Or.inl rfl)) (pgs_cons (pg_name (i := 5) sc__law_names.nd rfl (Or.inr rfl)) pgs_nil)))) (pss_cons (ps_set (i := 6) sc__law_names.nd rfl (Or.inr rfl) (pe_bm PySem.F.plainAttrs_str PySem.F.slot_str_join PySem.F.type_str_join mt_join pe_str (pa_cons (pe_lc (own := [("_law_k", 8)]) (g := gName 8) (by rfl) sc__law_names.nd (pi_range1 (by rfl) T.b_range (pa_cons (pe_op (r := rAddG K) op_addG pe_int (pe_call G__law_take (hr.mono (by omega)) rfl T.d__law_take.g T.d__law_take.F.kp T.d__law_take.b .nil pass0 (pa_cons (pv 0) (pa_cons pe_int pa_nil)))) pa_nil)) (blkOk_by (own := [("_law_k", 8)]) (N := N__law_names) (sc := defScope s__law_names) (by decide +kernel)) (fun _ _ _ _ _ => pg_name (i := 8) sc__law_names.nd rfl (Or.inl rfl)) (fun _ _ _ _ _ => pts_nil) (fun _ _ _ _ _ => (pe_ix (r := rIx K) ix_seq (pv 2) (pe_call G__law_take (hr.mono (by omega)) rfl T.d__law_take.g T.d__law_take.F.kp T.d__law_take.b .nil pass0 (pa_cons (pv 0) (pa_cons pe_int pa_nil))) (fun _ _ => rfl)))) pa_nil))) (pss_cons (ps_set (i := 7) sc__law_names.nd rfl (Or.inr rfl) (pe_call G__law_take (hr.mono (by omega)) rfl T.d__law_take.g T.d__law_take.F.kp T.d__law_take.b .nil pass0 (pa_cons (pv 0) (pa_cons (pe_op (r := rAddG K) op_addG (pe_callB (r := rLenG K) call_lenG (by rfl) T.b_len bt_len (pa_cons (pv 6) pa_nil)) pe_int) pa_nil)))) (pss_cons (ps_if (pt_cmpR (r := rEqG K) (op_eqG hu64) (pv 4) pe_int (nomark _)) (pss_one (ps_ret (pe_slice (r := rSlG K) sl_G (pe_op (r := rAddG K) op_addG (pe_slice (r := rSlG K) sl_G (pv 3) (po_some (pv 5)) po_none) (pe_slice (r := rSlG K) sl_G (pv 3) po_none (po_some (pv 5)))) po_none (po_some (pv 1))))) pss_nil) (pss_cons (ps_if (pt_cmpR (r := rEqG K) (op_eqG hu64) (pv 4) pe_int (nomark _)) (pss_one (ps_ret (pe_lc (own := [("_law_k", 8)]) (g := gName 8) (by rfl) sc__law_names.nd (pi_range1 (by rfl) T.b_range (pa_cons (pv 1) pa_nil)) (blkOk_by (own := [("_law_k", 8)]) (N := N__law_names) (sc := defScope s__law_names) (by decide +kernel)) (fun _ _ _ _ _ => pg_name (i := 8) sc__law_names.nd rfl (Or.inl rfl)) (fun _ _ _ _ _ => pts_nil) (fun _ _ _ _ _ => (pe_ix (r := rIx K) ix_seq (pv 2) (pe_op op_mod (pe_callTy call_int1 (by rfl) T.b_int bt_int (pa_cons (pe_op (r := rAddG K) op_addG (pv 5) (pe_op op_mulG pe_int (pv 8))) pa_nil)) pe_int) (fun _ _ => rfl)))))) pss_nil) (pss_one (ps_ret (pe_lc (own := [("_law_k", 8)]) (g := gName 8) (by rfl) sc__law_names.nd (pi_range1 (by rfl) T.b_range (pa_cons (pv 1) pa_nil)) (blkOk_by (own := [("_law_k", 8)]) (N := N__law_names) (sc := defScope s__law_names) (by decide +kernel)) (fun _ _ _ _ _ => pg_name (i := 8) sc__law_names.nd rfl (Or.inl rfl)) (fun _ _ _ _ _ => pts_nil) (fun _ _ _ _ _ => (pe_op (r := rAddG K) op_addG (pe_op (r := rAddG K) op_addG (pe_slice (r := rSlG K) sl_G (pv 6) po_none (po_some (pv 7))) (pe_ix (r := rIx K) ix_seq (pv 2) (pe_op op_mod (pe_callTy call_int1 (by rfl) T.b_int bt_int (pa_cons (pe_op (r := rAddG K) op_addG (pv 5) (pe_op op_mulG pe_int (pv 8))) pa_nil)) pe_int) (fun _ _ => rfl))) (pe_slice (r := rSlG K) sl_G (pv 6) (po_some (pv 7)) po_none)))))))))))))), ?_⟩
    refine ⟨_, rfl, Or.inr (Or.inl ⟨_, _, rfl, rfl, by decide +kernel, rfl, _, _, rfl, rfl, by decide +kernel, by decide +kernel, ?_⟩)⟩
    refine rd_split (X := (cxOf CX0 P w K mg base N__law_names "_law_names" (defScope s__law_names) T.d__law_names.f cdv A outer s H E)) (fun ws => decide (ws.length = 20) && ws.all fun x => decide (Nm x)) (by decide +kernel) fun wp ws H1 hws nwp ewp m1 => ?_
    simp only [Bool.and_eq_true, decide_eq_true_eq, List.all_eq_true] at hws
    obtain ⟨hw20, hwN⟩ := hws
    -- way, turn
    refine ⟨.ref b, rfl, b, 4, rfl, hB.mv m1, by decide, by decide, fun way H2 hw0 hw1 d2 => ⟨.ref b, rfl, b, 20, rfl, d2.bag (hB.mv m1), by decide, by decide, fun turn H3 ht0 ht1 d3 => ?_⟩⟩
    refine ⟨(by decide : 2 ≤ sizeLine), fun p np => ⟨p, _, rfl, .inl (.inl upd_same), rfl, _, _, rfl, _, _, rfl, rfl, ?_⟩⟩
    have d14 := (d2.trans d3).trans (Dr.new (o := .tup [.int way, .int turn]) np)
    have hB4 := d14.bag (hB.mv m1)
    generalize upd H3 p (.tup [.int way, .int turn]) = H4 at d14 hB4 ⊢
    have hwb : wp ≠ b := (hB.fneq nwp)
    have ew4 : H4 wp = some (.lst (ws.map V.str)) := d14.get hwb ewp
    -- base = ''.join([..])
    refine ⟨rfl, .ref b, rfl, b, 7, rfl, hB4, by decide, by decide, fun l H5 hl0 hl1 d5 => Or.inl ⟨1, l, rfl, rfl, 1 + l, rfl, by omega, by omega, fun D nD => ?_⟩⟩
    have hB5 := d5.bag hB4
    refine lc_range (lo := 0) (n := (1 + l).toNat) (fun i H6 => ∃ cs : List Nat, H6 D = some (.lst (cs.map fun c => V.str ⟨#[c]⟩)) ∧ cs.length = i ∧ (∀ c ∈ cs, 97 ≤ c ∧ c ≤ 122) ∧ Dr b H5 H6)
      ⟨[], upd_same, rfl, by simp, Dr.new nD⟩ (fun i H6 hi h6 => ?_) (fun H6 h6 => ?_)
    · obtain ⟨cs, e6, l6, c6, d6⟩ := h6
      refine ⟨rfl, _, rfl, .ref b, rfl, b, 26, rfl, d6.bag hB5, by decide, by decide, fun j H7 hj0 hj1 d7 => rd_letter (by decide +kernel) hj0 hj1 fun c hc0 hc1 _ => ?_⟩
      refine ⟨_, d7.get (hB5.fneq nD) e6, ?_, cs ++ [c], ?_, by simp [l6], ?_, (d6.trans d7).wr nD⟩
      · rw [List.length_map, l6]
        exact small1000 (by omega)
      · rw [upd_same, List.map_append]
        rfl
      · intro z hz
        rcases List.mem_append.mp hz with hz | hz
        · exact c6 z hz
        · rw [List.mem_singleton.mp hz]
          exact ⟨hc0, hc1⟩
    · obtain ⟨cs, e6, l6, c6, d6⟩ := h6
      have hmap : cs.map (fun c => V.str ⟨#[c]⟩) = (cs.map fun c => (⟨#[c]⟩ : Str)).map V.str := by rw [List.map_map]; rfl
      refine ⟨_, D, _, rfl, rfl, .inl (.inl (.inl (by rw [← hmap]; exact e6))), ?_, ?_⟩
      · rw [sum_ones, List.length_map, l6, show ("" : Str).length = 0 from by decide]
        omega
      · rw [join_chars]
        obtain ⟨B, hB0, hBl, hBc⟩ : ∃ B : Str, B = ⟨cs.toArray⟩ ∧ B.length = (1 + l).toNat ∧ ∀ c ∈ B.cps.toList, 97 ≤ c ∧ c ≤ 122 := ⟨_, rfl, by rw [← l6]; rfl, by simpa using c6⟩
        rw [← hB0]
        have hB6 := d6.bag hB5
        -- at
        refine ⟨.ref b, rfl, .str B, rfl, Or.inr (Or.inl ⟨B, rfl, Nat.le_of_lt (small1000 (by omega)), Or.inl ⟨_, 1, rfl, rfl, b, _, rfl, hB6, by omega, by omega, fun pl H7 hp0 hp1 d7 => ?_⟩⟩)⟩
        have d17 := (d14.trans d5).trans (d6.trans d7)
        have ew7 : H7 wp = some (.lst (ws.map V.str)) := d17.get hwb ewp
        have dH7 : Dr b H H7 := (Dr.of m1).trans d17
        have hB7 : Bag H7 b := dH7.bag hB
        have lenL : ∀ c : Nat, (⟨#[c]⟩ : Str).length = 1 := fun _ => rfl
        have fresh : ∀ {p H'}, Mv [] H7 H' → H' p = none → H p = none := fun m e => dH7.free hB (m.free e)
        refine ⟨.int way, rfl, Or.inl ⟨rfl, _, rfl, ite2 (fun e => ?_) (fun e => ?_)⟩⟩
        · -- the words, turned
          refine ⟨.ref wp, rfl, .int turn, rfl, turn, rfl, Or.inl ⟨wp, _, rfl, .inl (.inl ew7), fun p1 np1 => ?_⟩⟩
          have n1 : wp ≠ p1 := ne_of_none ew7 np1
          refine ⟨.ref wp, rfl, .int turn, rfl, turn, rfl, Or.inl ⟨wp, _, rfl, .inl (.inl (by rw [upd_ne n1]; exact ew7)), fun p2 np2 => ?_⟩⟩
          have n2 : p1 ≠ p2 := ne_of_none upd_same np2
          rw [cutV_from ht0 (by rw [List.length_map]; omega), cutV_to ht0] at *
          refine Or.inr (Or.inr (Or.inr ⟨p1, p2, _, _, rfl, rfl, by rw [upd_ne n2, upd_same], upd_same, ?_, fun p3 np3 => ?_⟩))
          · rw [List.length_drop, List.length_take, List.length_map]
            exact Nat.le_of_lt (small1000 (by omega))
          · refine ⟨.int n, rfl, (n : Int), rfl, Or.inl ⟨p3, _, rfl, .inl (.inl upd_same), fun p4 np4 => ?_⟩⟩
            refine q p4 ((ws.drop turn.toNat ++ ws.take turn.toNat).take n) _ ?_ (fun x hx => ?_) (fresh (((Mv.new (S := []) np1).trans (Mv.new np2)).trans (Mv.new np3)) np4) ?_ (dH7.trans (Dr.of (((Mv.new np1).trans (Mv.new np2)).trans ((Mv.new np3).trans (Mv.new np4)))))
            · rw [List.length_take, List.length_append, List.length_drop, List.length_take]
              omega
            · have h := List.mem_of_mem_take hx
              rcases List.mem_append.mp h with h | h
              · exact hwN x (List.mem_of_mem_drop h)
              · exact hwN x (List.mem_of_mem_take h)
            · rw [upd_same, cutV_to (by omega), List.map_take, List.map_append, List.map_drop, List.map_take]
              rfl
        · refine ⟨.int way, rfl, Or.inl ⟨rfl, _, rfl, ite2 (fun e => ?_) (fun e => ?_)⟩⟩
          · refine ⟨.int n, rfl, (n : Int), rfl, by omega, by omega, fun D8 nD8 => ?_⟩
            refine lc_range (lo := 0) (n := (n : Int).toNat) (fun i H8 => ∃ xs : List Str, H8 D8 = some (.lst (xs.map V.str)) ∧ xs.length = i ∧ (∀ x ∈ xs, Nm x) ∧ Mv [] H7 H8)
              ⟨[], upd_same, rfl, by simp, .new nD8⟩ (fun i H8 hi h8 => ?_) (fun H8 h8 => ?_)
            · obtain ⟨xs, e8, l8, c8, m8⟩ := h8
              refine ⟨rfl, _, rfl, .int turn, rfl, _, rfl, Or.inl ⟨3, _, rfl, rfl, .inl ⟨by decide, by decide⟩, Or.inl ⟨turn, _, rfl, rfl, Or.inl ⟨_, rfl, _, _, rfl, rfl, (by decide : (0 : Int) < _), ?_⟩⟩⟩⟩
              refine rd_letter (by decide +kernel) (Int.emod_nonneg _ (by decide)) (Int.emod_lt_of_pos _ (by decide)) fun c hc0 hc1 _ => ?_
              refine ⟨_, e8, ?_, xs ++ [⟨#[c]⟩], ?_, by simp [l8], ?_, m8.wr nD8⟩
              · rw [List.length_map, l8]
                exact small1000 (by omega)
              · rw [upd_same, List.map_append]
                rfl
              · intro z hz
                rcases List.mem_append.mp hz with hz | hz
                · exact c8 z hz
                · rw [List.mem_singleton.mp hz]
                  exact ⟨by rw [lenL]; decide, by rw [lenL]; decide, by simpa using ⟨hc0, hc1⟩⟩
            · obtain ⟨xs, e8, l8, c8, m8⟩ := h8
              exact q D8 xs H8 (by omega) c8 (dH7.free hB nD8) e8 (dH7.trans (Dr.of m8))
          · refine ⟨.int n, rfl, (n : Int), rfl, by omega, by omega, fun D8 nD8 => ?_⟩
            obtain ⟨at', rfl⟩ := Int.eq_ofNat_of_zero_le hp0
            have hat : at' ≤ B.length := by omega
            refine lc_range (lo := 0) (n := (n : Int).toNat) (fun i H8 => ∃ xs : List Str, H8 D8 = some (.lst (xs.map V.str)) ∧ xs.length = i ∧ (∀ x ∈ xs, Nm x) ∧ Mv [] H7 H8)
              ⟨[], upd_same, rfl, by simp, .new nD8⟩ (fun i H8 hi h8 => ?_) (fun H8 h8 => ?_)
            · obtain ⟨xs, e8, l8, c8, m8⟩ := h8
              have hsz : B.length ≤ sizeLine := Nat.le_of_lt (small1000 (by omega))
              have l1 : (cutS B none (some (at' : Int))).length = at' := by rw [← len_cps, cutS_to B at' hat, List.length_take, len_cps]; omega
              have l2 : (cutS B (some (at' : Int)) none).length = B.length - at' := by rw [← len_cps, cutS_from B at' hat, List.length_drop, len_cps]
              refine ⟨rfl, .str B, rfl, _, rfl, _, rfl, Or.inr (Or.inr ⟨B, rfl, hsz, _, rfl, .int turn, rfl, _, rfl, Or.inl ⟨3, _, rfl, rfl, .inl ⟨by decide, by decide⟩, Or.inl ⟨turn, _, rfl, rfl, Or.inl ⟨_, rfl, _, _, rfl, rfl, (by decide : (0 : Int) < _), ?_⟩⟩⟩⟩)⟩
              refine rd_letter (by decide +kernel) (Int.emod_nonneg _ (by decide)) (Int.emod_lt_of_pos _ (by decide)) fun c hc0 hc1 _ => ?_
              refine Or.inr (Or.inl ⟨_, _, rfl, rfl, by rw [l1, lenL]; exact Nat.le_of_lt (small1000 (by omega)), .str B, rfl, _, rfl, _, rfl, Or.inr (Or.inr ⟨B, rfl, hsz, Or.inr (Or.inl ⟨_, _, rfl, rfl, ?_, ?_⟩)⟩)⟩)
              · rw [str_len_append, l1, l2, lenL]
                exact Nat.le_of_lt (small1000 (by omega))
              · refine ⟨_, e8, ?_, xs ++ [cutS B none (some (at' : Int)) ++ ⟨#[c]⟩ ++ cutS B (some (at' : Int)) none], ?_, by simp [l8], ?_, m8.wr nD8⟩
                · rw [List.length_map, l8]
                  exact small1000 (by omega)
                · rw [upd_same, List.map_append]
                  rfl
                · intro z hz
                  rcases List.mem_append.mp hz with hz | hz
                  · exact c8 z hz
                  · rw [List.mem_singleton.mp hz]
                    refine ⟨?_, ?_, fun d hd => ?_⟩
                    · rw [str_len_append, str_len_append, l1, l2, lenL]
                      omega
                    · rw [str_len_append, str_len_append, l1, l2, lenL]
                      omega
                    · rw [str_cps_append, str_cps_append, cutS_to B at' hat, cutS_from B at' hat] at hd
                      rcases List.mem_append.mp hd with hd | hd
                      · rcases List.mem_append.mp hd with hd | hd
                        · exact hBc d (List.mem_of_mem_take hd)
                        · have : d = c := by simpa using hd
                          rw [this]
                          exact ⟨hc0, hc1⟩
                      · exact hBc d (List.mem_of_mem_drop hd)
            · obtain ⟨xs, e8, l8, c8, m8⟩ := h8
              exact q D8 xs H8 (by omega) c8 (dH7.free hB nD8) e8 (dH7.trans (Dr.of m8))
end
end Fm
namespace Fm
open PySem PySem.Spec PyProof.Rows L2
def sp_term (K : PySem.W.Frag) (d : Nat) : Sp := fun vs H Q _ => ∃ (b nm : Addr) (xs : List Str) (many deep : Int), vs = [.ref b, .ref nm, .int many, .int deep] ∧ Bag H b ∧
  H nm = some (.lst (xs.map V.str)) ∧ nm ≠ b ∧ xs ≠ [] ∧ xs.length ≤ 1000 ∧ (∀ x ∈ xs, Nm x) ∧ 0 ≤ many ∧ many ≤ 1000000 ∧ deep.toNat < d ∧
  ∀ v (t : Tm) H', t.ok (fun i => 0 ≤ i ∧ i < many) → t.dep ≤ max deep.toNat 1 → (0 < many → t.dep ≤ deep.toNat) → Im K H' v t.d → Dr b H H' → Q v H'
local macro_rules | `(tactic| walk_at "nn") => `(tactic| dsimp only [tC, tNil, tCons, tCB, tCall, gName, tSeq, tAsg, tPar, tDrop, tRet])
section
variable {P : Program} {w : World} {K : PySem.W.Frag} {mg : Str → Option Value} {base : Heap}
theorem ok__law_term (T : TX K mg) : ∀ d : Nat, FnOk P w K mg base CX0 (d + 2) T.d__law_term.f T.d__law_term.fd P__law_term (sp_term K d)
  | 0 => ⟨fun vs H Q E h => by obtain ⟨_, _, _, _, _, _, _, _, _, _, _, _, _, _, h, _⟩ := h; omega, fun _ _ _ _ _ _ _ _ _ _ _ _ _ h => by obtain ⟨_, _, _, _, _, _, _, _, _, _, _, _, _, _, h, _⟩ := h; omega⟩
  | d + 1 => by
    have G__law_term := ok__law_term T d
    have G__law_take : FnOk P w K mg base CX0 1 T.d__law_take.f T.d__law_take.fd P__law_take sp_take := ok__law_take T
    refine T.d__law_term.F.ok sc__law_term (fun vs H Q E h => ?_) (fun cdv A outer s H vs Q E hr h => ?_)
    · obtain ⟨b, nm, xs, many, deep, rfl, _⟩ := h
      rfl
    · obtain ⟨b, nm, xs, many, deep, rfl, hB, hN, hnb, hx0, hx1, hxN, hm0, hm1, hd, q⟩ := h
      have hu64 := hr.units
      have hlen : 0 < xs.length := List.length_pos_iff.mpr hx0
      refine ⟨_, (pss_cons (ps_set (i := 4) sc__law_term.nd rfl (Or.inl rfl) (pe_call G__law_take (hr.mono (by omega)) rfl T.d__law_take.g T.d__law_take.F.kp T.d__law_take.b .nil pass0 (pa_cons (pv 0) (pa_cons pe_int pa_nil)))) (pss_cons (ps_if (PW.pt (pw_and (pt_cmpR op_gt (pv 2) pe_int (nomark _)) (pw_and1 (PW.pt (pw_or (pt_cmpR op_lt (pv 3) pe_int (nomark _)) (pw_or1 (pt_cmpR (r := rEqG K) (op_eqG hu64) (pv 4) pe_int (nomark _)))))))) (pss_one (ps_ret (pe_call G__law_take (hr.mono (by omega)) rfl T.d__law_take.g T.d__law_take.F.kp T.d__law_take.b .nil pass0 (pa_cons (pv 0) (pa_cons (pv 2) pa_nil))))) pss_nil) (pss_cons (ps_par (i := 5) (j := 6) rfl sc__law_term.nd rfl rfl (by decide) rfl rfl (pa_cons (pe_ix (r := rIx K) ix_seq (pv 1) (pe_call G__law_take (hr.mono (by omega)) rfl T.d__law_take.g T.d__law_take.F.kp T.d__law_take.b .nil pass0 (pa_cons (pv 0) (pa_cons (pe_callB (r := rLenG K) call_lenG (by rfl) T.b_len bt_len (pa_cons (pv 1) pa_nil)) pa_nil))) (fun _ _ => rfl)) (pa_cons (pe_call G__law_take (hr.mono (by omega)) rfl T.d__law_take.g T.d__law_take.F.kp T.d__law_take.b .nil pass0 (pa_cons (pv 0) (pa_cons pe_int pa_nil))) pa_nil)) rfl) (pss_cons (ps_if (PW.pt (pw_or (PW.pt (pw_and (pt_cmpR op_le (pv 3) pe_int (nomark _)) (pw_and1 (pt_cmpR (r := rEqG K) (op_eqG hu64) (pv 2) pe_int (nomark _))))) (pw_or1 (pt_cmpR (r := rEqG K) (op_eqG hu64) (pv 4) pe_int (nomark _))))) (pss_one (ps_ret (pe_tup (pa_cons (pv 5) pa_nil)))) pss_nil) (pss_one (ps_ret (pe_op (r := rAddG K) op_addG (pe_tup (pa_cons (pv 5) pa_nil)) (pe_callTy (r := rTupOf K) call_tupG (by rfl) T.b_tuple bt_tuple (pa_cons (pe_lc (own := [("_law_k", 7)]) (g := gName 7) (by rfl) sc__law_term.nd (pi_range1 (by rfl) T.b_range (pa_cons (pv 6) pa_nil)) (blkOk_by (own := [("_law_k", 7)]) (N := N__law_term) (sc := defScope s__law_term) (by decide +kernel)) (fun _ _ _ _ _ => pg_name (i := 7) sc__law_term.nd rfl (Or.inl rfl)) (fun _ _ _ _ _ => pts_nil) (fun _ _ _ _ _ => (pe_call G__law_term (hr.mono (by omega)) rfl T.d__law_term.g T.d__law_term.F.kp T.d__law_term.b .nil pass0 (pa_cons (pv 0) (pa_cons (pv 1) (pa_cons (pv 2) (pa_cons (pe_op op_sub (pv 3) pe_int) pa_nil))))))) pa_nil))))))))), ?_⟩
      -- way
      refine ⟨.ref b, rfl, b, 4, rfl, hB, by decide, by decide, fun way H1 hw0 hw1 d1 => ?_⟩
      have hB1 := d1.bag hB
      have hN1 := d1.get hnb hN
      dsimp only [gName, tSeq, tPar]
      refine st_if (tb_and (tb_test (tv_I (tv_var rfl) tv_c)) (tb_or (tb_test (tv_I (tv_var rfl) tv_c)) (tb_test (tv_eqI (tv_var rfl) tv_c)))) ?_ ?_
      · -- an unknown
        intro e
        simp only [Bool.and_eq_true, decide_eq_true_eq] at e
        refine ⟨.ref b, rfl, .int many, rfl, b, many, rfl, hB1, e.1, hm1, fun i H2 hi0 hi1 d2 => ?_⟩
        exact q _ (.var i) H2 ⟨hi0, hi1⟩ (by simp [Tm.dep]) (fun _ => by simp [Tm.dep]) (Im.int i) (d1.trans d2)
      · intro e
        have e1 : ¬ (0 < many ∧ deep < 1) := fun z => by simp [z.1, z.2] at e
        -- name, parts
        refine ⟨.ref nm, rfl, .ref b, rfl, .ref nm, rfl, ?_⟩
        walk_at "nn"
        refine rd_len (.inl (.inl (.inl hN1))) ?_
        refine ⟨b, _, rfl, hB1, by rw [List.length_map]; omega, by rw [List.length_map]; omega, fun ni H2 hn0 hn1 d2 => ?_⟩
        rw [List.length_map] at hn1
        have hni : ni.toNat < xs.length := by omega
        have hB2 := d2.bag hB1
        have hN2 := d2.get hnb hN1
        refine rd_ixL (.inl (.inl hN2)) hn0 (v := .str xs[ni.toNat]) (by rw [List.getElem?_map, List.getElem?_eq_getElem hni]; rfl) ?_
        obtain ⟨nx, hnx, hNm⟩ : ∃ nx, nx = xs[ni.toNat] ∧ Nm nx := ⟨_, rfl, hxN _ (List.getElem_mem hni)⟩
        rw [← hnx]
        refine ⟨.ref b, rfl, b, 4, rfl, hB2, by decide, by decide, fun parts H3 hp0 hp1 d3 => ⟨_, _, rfl, ?_⟩⟩
        have hB3 := d3.bag hB2
        have hN3 := d3.get hnb hN2
        have d13 := (d1.trans d2).trans d3
        refine st_if (tb_or (tb_and (tb_test (tv_I (tv_var rfl) tv_c)) (tb_test (tv_eqI (tv_var rfl) tv_c))) (tb_test (tv_eqI (tv_var rfl) tv_c))) ?_ ?_
        · -- a constant
          intro e
          refine ⟨_, rfl, (by decide : 1 ≤ sizeLine), fun p np => ?_⟩
          refine q _ (.op nx []) _ ⟨hNm, by simp, trivial⟩ (by simp [Tm.dep, Tm.deps]; omega) (fun z => ?_) (Im.tup (.inl (.inl upd_same)) (Ims.cons (Im.str nx) Ims.nil)) (d13.trans (Dr.new np))
          simp only [Tm.dep, Tm.deps]
          omega
        · intro e
          have e2 : ¬ (deep ≤ 1 ∧ many = 0) := fun z => by simp [z.1, z.2] at e
          have hdeep : 1 ≤ deep := by omega
          refine ⟨_, rfl, (by decide : 1 ≤ sizeLine), fun p np => ?_⟩
          have d4 := d13.trans (Dr.new (o := .tup [.str nx]) np)
          have e4 : SqT K (upd H3 p (.tup [.str nx])) p [.str nx] := .inl (.inl upd_same)
          have hB4 := d4.bag hB
          have hN4 := d4.get hnb hN
          generalize upd H3 p (.tup [.str nx]) = H4 at d4 e4 hB4 hN4 ⊢
          refine ⟨.int parts, rfl, parts, rfl, by omega, by omega, fun D nD => ?_⟩
          refine lc_range (lo := 0) (n := parts.toNat) (fun i H5 => ∃ (vs : List V) (ts : List Tm), H5 D = some (.lst vs) ∧ Ims K H5 vs (Tm.ds ts) ∧ ts.length = i ∧ Tm.oks (fun i => 0 ≤ i ∧ i < many) ts ∧ Tm.deps ts ≤ max (deep - 1).toNat 1 ∧ (0 < many → Tm.deps ts ≤ (deep - 1).toNat) ∧ Dr b H4 H5)
            ⟨[], [], upd_same, Ims.nil, rfl, trivial, by simp [Tm.deps], fun _ => by simp [Tm.deps], Dr.new nD⟩ (fun i H5 hi h5 => ?_) (fun H5 h5 => ?_)
          · obtain ⟨vs, ts, e5, i5, l5, o5, p5, r5, d5⟩ := h5
            have hB5 := d5.bag hB4
            have hN5 := d5.get hnb hN4
            refine ⟨rfl, .ref b, rfl, .ref nm, rfl, .int many, rfl, .int deep, rfl, deep, 1, rfl, rfl, b, nm, xs, many, deep - 1, rfl, hB5, hN5, hnb, hx0, hx1, hxN, hm0, hm1, by omega, fun v t H6 ho hd1 hd2 him d6 => ?_⟩
            refine ⟨_, d6.get (hB4.fneq nD) e5, ?_, vs ++ [v], ts ++ [t], upd_same, ?_, by simp [l5], ?_, ?_, fun z => ?_, (d5.trans d6).wr nD⟩
            · rw [i5.length, Tm.ds_map, List.length_map, l5]
              exact small1000 (by omega)
            · rw [show Tm.ds (ts ++ [t]) = Tm.ds ts ++ [t.d] by simp [Tm.ds_map]]
              exact ((i5.mv d6.mv).append (Ims.cons him Ims.nil)).mv (Mv.set (S := [D]) (d6.get (hB4.fneq nD) e5) (by simp))
            · rw [Tm.oks_iff] at o5 ⊢
              intro y hy
              rcases List.mem_append.mp hy with hy | hy
              · exact o5 y hy
              · rw [List.mem_singleton.mp hy]
                exact ho
            · rw [Tm.deps_le] at p5 ⊢
              intro y hy
              rcases List.mem_append.mp hy with hy | hy
              · exact p5 y hy
              · rw [List.mem_singleton.mp hy]
                exact hd1
            · have r5' := r5 z
              have hd2' := hd2 z
              rw [Tm.deps_le] at r5' ⊢
              intro y hy
              rcases List.mem_append.mp hy with hy | hy
              · exact r5' y hy
              · rw [List.mem_singleton.mp hy]
                exact hd2'
          · obtain ⟨vs, ts, e5, i5, l5, o5, p5, r5, d5⟩ := h5
            walk_at "nn"
            refine rd_tupOf (.inl (.inl e5)) fun p6 H6 m6 e6 => ?_
            refine rd_cat (m6.sqT (d5.mv.sqT e4)) e6 ?_ fun p7 H7 m7 e7 => ?_
            · rw [i5.length, Tm.ds_map, List.length_map, l5]
              exact Nat.le_of_lt (small1000 (by simp; omega))
            · refine q _ (.op nx ts) H7 ⟨hNm, by omega, o5⟩ ?_ (fun z => ?_) (Im.tup e7 ?_) (d4.trans (d5.trans (Dr.of (m6.trans m7))))
              · simp only [Tm.dep]
                omega
              · have := r5 z
                simp only [Tm.dep]
                omega
              · exact Ims.cons (Im.str nx) ((i5.mv m6).mv m7)
end
end Fm
namespace Fm
open PySem PySem.Spec PyProof.Rows L2
theorem bt_range : bootBuiltins "range" = some (.type "range") := by decide +kernel
/-! things: what a function of kinds may be handed -/
inductive Th where
  | non
  | bl (b : Bool)
  | int (i : Int)
  | str (x : Str)
  | tup (ts : List Th)
  | lst
  | dct
mutual
/-- v is such a thing; b: a list that may change meanwhile -/
def Is (K : PySem.W.Frag) (b : Addr) (H : Hp) (v : V) : Th → Prop
  | .non => v = .non
  | .bl c => v = .bl c
  | .int i => v = .int i
  | .str x => v = .str x ∧ x.length ≤ 1000
  | .tup ts => ∃ a xs, v = .ref a ∧ SqT K H a xs ∧ IsAll K b H xs ts
  | .lst => ∃ a xs, v = .ref a ∧ a ≠ b ∧ H a = some (.lst xs)
  | .dct => ∃ a kvs, v = .ref a ∧ a ≠ b ∧ H a = some (.dK kvs)
def IsAll (K : PySem.W.Frag) (b : Addr) (H : Hp) (xs : List V) : List Th → Prop
  | [] => xs = []
  | t :: ts => ∃ y ys, xs = y :: ys ∧ Is K b H y t ∧ IsAll K b H ys ts
end
section
variable {K : PySem.W.Frag} {b : Addr} {H H' : Hp}
mutual
theorem Is.mv (m : Mv [b] H H') : ∀ (t : Th) (v : V), Is K b H v t → Is K b H' v t
  | .non, v, h => h
  | .bl _, v, h => h
  | .int _, v, h => h
  | .str _, v, h => h
  | .tup ts, v, h => by
    obtain ⟨a, xs, e, hs, ha⟩ := h
    exact ⟨a, xs, e, m.sqT hs, IsAll.mv m ts xs ha⟩
  | .lst, v, h => by
    obtain ⟨a, xs, e, hb, ha⟩ := h
    exact ⟨a, xs, e, hb, m.keep a _ (by simpa using hb) ha⟩
  | .dct, v, h => by
    obtain ⟨a, xs, e, hb, ha⟩ := h
    exact ⟨a, xs, e, hb, m.keep a _ (by simpa using hb) ha⟩
theorem IsAll.mv (m : Mv [b] H H') : ∀ (ts : List Th) (xs : List V), IsAll K b H xs ts → IsAll K b H' xs ts
  | [], xs, h => h
  | t :: ts, xs, h => by
    obtain ⟨y, ys, e, h1, h2⟩ := h
    exact ⟨y, ys, e, Is.mv m t y h1, IsAll.mv m ts ys h2⟩
end
theorem Is.mv0 {t : Th} {v : V} (h : Is K b H v t) (m : Mv [] H H') : Is K b H' v t := Is.mv (m.mono (by simp)) t v h
theorem IsAll.mv0 {ts : List Th} {xs : List V} (h : IsAll K b H xs ts) (m : Mv [] H H') : IsAll K b H' xs ts := IsAll.mv (m.mono (by simp)) ts xs h
theorem Is.dr {t : Th} {v : V} (h : Is K b H v t) (m : Dr b H H') : Is K b H' v t := Is.mv m.mv t v h
theorem IsAll.dr {ts : List Th} {xs : List V} (h : IsAll K b H xs ts) (m : Dr b H H') : IsAll K b H' xs ts := IsAll.mv m.mv ts xs h
theorem IsAll.length : ∀ {ts : List Th} {xs : List V}, IsAll K b H xs ts → xs.length = ts.length
  | [], xs, h => by
    have h' : xs = [] := h
    rw [h']
    rfl
  | t :: ts, xs, h => by
    obtain ⟨y, ys, rfl, _, k⟩ := h
    simp [k.length]
theorem IsAll.append : ∀ {ts us : List Th} {xs ys : List V}, IsAll K b H xs ts → IsAll K b H ys us → IsAll K b H (xs ++ ys) (ts ++ us)
  | [], _, xs, _, h, k => by
    have h' : xs = [] := h
    rw [h']
    exact k
  | t :: ts, _, xs, _, h, k => by
    obtain ⟨y, zs, rfl, h1, h2⟩ := h
    exact ⟨y, zs ++ _, rfl, h1, h2.append k⟩
theorem IsAll.nil : IsAll K b H [] [] := rfl
theorem IsAll.cons {t : Th} {ts : List Th} {y : V} {ys : List V} (h : Is K b H y t) (k : IsAll K b H ys ts) : IsAll K b H (y :: ys) (t :: ts) := ⟨y, ys, rfl, h, k⟩
theorem IsAll.get : ∀ {ts : List Th} {xs : List V} {i : Nat} {v : V}, IsAll K b H xs ts → xs[i]? = some v → ∃ t, ts[i]? = some t ∧ Is K b H v t
  | [], xs, _, _, h, e => by
    have h' : xs = [] := h
    rw [h'] at e
    simp at e
  | t :: ts, _, 0, _, h, e => by
    obtain ⟨y, ys, rfl, h1, h2⟩ := h
    simp at e
    subst e
    exact ⟨t, rfl, h1⟩
  | t :: ts, _, i + 1, _, h, e => by
    obtain ⟨y, ys, rfl, h1, h2⟩ := h
    exact h2.get (i := i) (by simpa using e)
theorem IsAll.take : ∀ {ts : List Th} {xs : List V} (n : Nat), IsAll K b H xs ts → IsAll K b H (xs.take n) (ts.take n)
  | [], xs, n, h => by
    have h' : xs = [] := h
    rw [h']
    simpa using IsAll.nil
  | t :: ts, _, 0, h => by simpa using IsAll.nil
  | t :: ts, _, n + 1, h => by
    obtain ⟨y, ys, rfl, h1, h2⟩ := h
    exact IsAll.cons h1 (h2.take n)
theorem IsAll.drop : ∀ {ts : List Th} {xs : List V} (n : Nat), IsAll K b H xs ts → IsAll K b H (xs.drop n) (ts.drop n)
  | [], xs, n, h => by
    have h' : xs = [] := h
    rw [h']
    simpa using IsAll.nil
  | t :: ts, _, 0, h => by simpa using h
  | t :: ts, _, n + 1, h => by
    obtain ⟨y, ys, rfl, h1, h2⟩ := h
    exact h2.drop n
theorem IsAll.last {ts : List Th} {t : Th} : ∀ {us : List Th} {xs : List V}, us = ts ++ [t] → IsAll K b H xs us → ∃ ys y, xs = ys ++ [y] ∧ IsAll K b H ys ts ∧ Is K b H y t := by
  induction ts with
  | nil =>
    intro us xs e h
    subst e
    obtain ⟨y, ys, rfl, h1, h2⟩ := h
    have h3 : ys = [] := h2
    exact ⟨[], y, by rw [h3]; rfl, IsAll.nil, h1⟩
  | cons u ts ih =>
    intro us xs e h
    subst e
    obtain ⟨y, ys, rfl, h1, h2⟩ := h
    obtain ⟨zs, z, rfl, h3, h4⟩ := ih rfl h2
    exact ⟨y :: zs, z, rfl, IsAll.cons h1 h3, h4⟩
/-! classes -/
def tyN : Th → String
  | .non => "NoneType"
  | .bl _ => "bool"
  | .int _ => "int"
  | .str _ => "str"
  | .tup _ => "tuple"
  | .lst => "list"
  | .dct => "dict"
theorem tyx_is {t : Th} {v : V} (h : Is K b H v t) : TyX K H v (.type (tyN t)) := by
  cases t with
  | non => cases (show v = V.non from h); exact .base .non
  | bl c => cases (show v = V.bl c from h); exact .base (.bl c)
  | int i => cases (show v = V.int i from h); exact .base (.int i)
  | str x => cases (show v = V.str x from h.1); exact .base (.str x)
  | tup ts =>
    obtain ⟨a, xs, rfl, hs, _⟩ := h
    rcases hs with (hs | ⟨o, hs⟩) | ⟨o, its, n, hk, hc, _⟩
    · exact .base (.tup hs)
    · exact .fTuple hs
    · exact .kTuple hk hc
  | lst =>
    obtain ⟨a, xs, rfl, _, ha⟩ := h
    exact .base (.lst ha)
  | dct =>
    obtain ⟨a, kvs, rfl, _, ha⟩ := h
    exact .base (.dK ha)
theorem rd_isi {t : Th} {v : V} {T : String} {c : Bool} {Q : VK} (h : Is K b H v t) (k : kitB (tyN t) T = some c) (q : Q (.bl c) H) : rIsi K [v, .ty T] H Q := ⟨v, .ty T, _, _, c, rfl, .ty T, tyx_is h, kit_ty k, q⟩
def isIntT : Th → Bool
  | .int _ => true
  | .bl _ => true
  | _ => false
def isBoolT : Th → Bool
  | .bl _ => true
  | _ => false
def isStrT : Th → Bool
  | .str _ => true
  | _ => false
def isTupT : Th → Bool
  | .tup _ => true
  | _ => false
def isLstT : Th → Bool
  | .lst => true
  | _ => false
theorem kit_int (t : Th) : kitB (tyN t) "int" = some (isIntT t) := by cases t <;> (simp only [tyN, isIntT]; decide +kernel)
theorem kit_bool (t : Th) : kitB (tyN t) "bool" = some (isBoolT t) := by cases t <;> (simp only [tyN, isBoolT]; decide +kernel)
theorem kit_str (t : Th) : kitB (tyN t) "str" = some (isStrT t) := by cases t <;> (simp only [tyN, isStrT]; decide +kernel)
theorem kit_tup (t : Th) : kitB (tyN t) "tuple" = some (isTupT t) := by cases t <;> (simp only [tyN, isTupT]; decide +kernel)
theorem kit_lst (t : Th) : kitB (tyN t) "list" = some (isLstT t) := by cases t <;> (simp only [tyN, isLstT]; decide +kernel)
end
/-! what kind a thing is -/
def lettersS : Str := "abcdefghijklmnopqrstuvwxyz"
def nmd (x : Str) : Bool := decide (1 ≤ x.length) && decide (x.length ≤ 8) && x.cps.toList.all fun c => decide (c ∈ lettersS.cps.toList)
def isWhole : Th → Bool
  | .int _ => true
  | _ => false
def isNamed : Th → Bool
  | .str x => nmd x
  | _ => false
mutual
def isTerm : Th → Bool
  | .int i => decide (0 ≤ i)
  | .tup [] => false
  | .tup (t :: ts) => isNamed t && decide (ts.length ≤ 3) && isTerms ts
  | _ => false
def isTerms : List Th → Bool
  | [] => true
  | t :: ts => isTerm t && isTerms ts
end
mutual
def Th.cnt : Th → Nat
  | .tup ts => Th.cnts ts + 1
  | _ => 1
def Th.cnts : List Th → Nat
  | [] => 0
  | t :: ts => t.cnt + Th.cnts ts
end
theorem isTerms_all : ∀ ts : List Th, isTerms ts = ts.all isTerm
  | [] => by simp [isTerms]
  | t :: ts => by simp [isTerms, isTerms_all ts]
theorem Th.cnts_append : ∀ ts us : List Th, Th.cnts (ts ++ us) = Th.cnts ts + Th.cnts us
  | [], us => by simp [Th.cnts]
  | t :: ts, us => by
    simp only [List.cons_append, Th.cnts, Th.cnts_append ts us]
    omega
mutual
/-- a term as a thing -/
def Tm.th : Tm → Th
  | .var i => .int i
  | .op x ts => .tup (.str x :: Tm.ths ts)
def Tm.ths : List Tm → List Th
  | [] => []
  | t :: ts => t.th :: Tm.ths ts
end
section
variable {K : PySem.W.Frag} {b : Addr} {H : Hp}
mutual
theorem Is.of_im {R : Int → Prop} : ∀ (t : Tm) (v : V), t.ok R → Im K H v t.d → Is K b H v t.th
  | .var i, v, _, h => h.intI
  | .op x ts, v, k, h => by
    obtain ⟨a, xs0, rfl, ha, hxs⟩ := h.tupI
    obtain ⟨x', xs, rfl, hx', hys⟩ := hxs.invD
    exact ⟨a, x' :: xs, rfl, ha, IsAll.cons ⟨hx'.strI, by have := k.1.2.1; omega⟩ (IsAll.of_ims ts xs k.2.2 hys)⟩
theorem IsAll.of_ims {R : Int → Prop} : ∀ (ts : List Tm) (xs : List V), Tm.oks R ts → Ims K H xs (Tm.ds ts) → IsAll K b H xs (Tm.ths ts)
  | [], xs, _, h => h.nilD
  | t :: ts, xs, k, h => by
    obtain ⟨v, vs, rfl, h1, h2⟩ := h.invD
    exact IsAll.cons (Is.of_im t v k.1 h1) (IsAll.of_ims ts vs k.2 h2)
end
end
theorem nmd_nm {x : Str} (h : Nm x) : nmd x = true := by
  unfold nmd
  have h3 : (x.cps.toList.all fun c => decide (c ∈ lettersS.cps.toList)) = true := by
    rw [List.all_eq_true]
    intro c hc
    have := h.2.2 c hc
    have k : ∀ c : Fin 123, 97 ≤ c.val → decide (c.val ∈ lettersS.cps.toList) = true := by decide +kernel
    exact k ⟨c, by omega⟩ this.1
  rw [h3, decide_eq_true h.1, decide_eq_true h.2.1]
  rfl
end Fm
namespace Fm
open PySem PySem.Spec PyProof.Rows L2
local macro_rules | `(tactic| walk_at "nn") => `(tactic| dsimp only [tC, tNil, tCons, tCB, tCall, gName, tSeq, tAsg, tPar, tDrop, tRet])
local macro_rules | `(tactic| walk_at "nc") => `(tactic| dsimp only [tC, tNil, tCons, tCB])
theorem hu65_of {k : Nat} {A : Around} (h : Room k A) : A.units + 65 < cLine := by
  have := h.un
  omega
/-- a test of one thing -/
def sp_kind (K : PySem.W.Frag) (f : Th → Bool) : Sp := fun vs H Q _ => ∃ (v : V) (t : Th) (b : Addr), vs = [v] ∧ Is K b H v t ∧ ∀ H', Mv [] H H' → Q (.bl (f t)) H'
section
variable {P : Program} {w : World} {K : PySem.W.Frag} {mg : Str → Option Value} {base : Heap}
theorem ok_is_integer (T : TX K mg) {k : Nat} : FnOk P w K mg base CX0 (k + 1) T.d_is_integer.f T.d_is_integer.fd P_is_integer (sp_kind K isWhole) := by
  refine T.d_is_integer.F.ok sc_is_integer (fun vs H Q E h => ?_) (fun cdv A outer s H vs Q E hr h => ?_)
  · obtain ⟨_, _, _, rfl, _⟩ := h
    rfl
  · obtain ⟨v, t, b, rfl, hv, q⟩ := h
    refine ⟨_, (pss_one (ps_ret (pe_and (pe_callB (r := rIsi K) call_isi (by rfl) T.b_isinstance bt_isinstance (pa_cons (pv 0) (pa_cons (pe_ty T.b_int bt_int) pa_nil))) (pe_one (pe_not (pe_callB (r := rIsi K) call_isi (by rfl) T.b_isinstance bt_isinstance (pa_cons (pv 0) (pa_cons (pe_ty T.b_bool bt_bool) pa_nil)))))))), ?_⟩
    refine ⟨v, rfl, ?_⟩
    walk_at "nn"
    refine rd_isi hv (kit_int t) ?_
    refine ⟨_, rfl, ?_⟩
    cases t with
    | int j =>
      refine ⟨v, rfl, ?_⟩
      walk_at "nc"
      exact rd_isi hv (kit_bool (.int j)) ⟨_, rfl, q H .refl⟩
    | bl c =>
      refine ⟨v, rfl, ?_⟩
      walk_at "nc"
      exact rd_isi hv (kit_bool (.bl c)) ⟨_, rfl, q H .refl⟩
    | non => exact q H .refl
    | str x => exact q H .refl
    | tup ts => exact q H .refl
    | lst => exact q H .refl
    | dct => exact q H .refl
theorem ok_is_name (T : TX K mg) {k : Nat} : FnOk P w K mg base CX0 (k + 1) T.d_is_name.f T.d_is_name.fd P_is_name (sp_kind K isNamed) := by
  refine T.d_is_name.F.ok sc_is_name (fun vs H Q E h => ?_) (fun cdv A outer s H vs Q E hr h => ?_)
  · obtain ⟨_, _, _, rfl, _⟩ := h
    rfl
  · obtain ⟨v, t, b, rfl, hv, q⟩ := h
    have hu65 := hu65_of hr
    refine ⟨_, (pss_cons (ps_if (PW.pt (pw_or (pt_not (pt_val (pe_callB (r := rIsi K) call_isi (by rfl) T.b_isinstance bt_isinstance (pa_cons (pv 0) (pa_cons (pe_ty T.b_str bt_str) pa_nil))))) (pw_or1 (pt_not (pt_chain op_le op_le pe_int (pe_callB (r := rLenG K) call_lenG (by rfl) T.b_len bt_len (pa_cons (pv 0) pa_nil)) (pe_glob rfl T.c_MOST_LETTERS T.r_MOST_LETTERS)))))) (pss_one (ps_ret pe_bl)) pss_nil) (pss_one (ps_ret (pe_callB (r := rAll K) (cr_all rfl) (by rfl) T.b_all bt_all (pa_cons (pe_lc (own := [("sign", 1)]) (g := gName 1) (by rfl) sc_is_name.nd (pi_str (pv 0)) (blkOk_by (own := [("sign", 1)]) (N := N_is_name) (sc := defScope s_is_name) (by decide +kernel)) (fun _ _ _ _ _ => pg_name (i := 1) sc_is_name.nd rfl (Or.inl rfl)) (fun _ _ _ _ _ => pts_nil) (fun _ _ _ _ _ => (pe_cmpR (r := rInG K) (op_inG hu65) (pv 1) (pe_glob rfl T.c_LETTERS T.r_LETTERS) rfl))) pa_nil))))), ?_⟩
    refine ⟨v, rfl, ?_⟩
    walk_at "nn"
    refine rd_isi hv (kit_str t) ?_
    refine ⟨_, rfl, ?_⟩
    cases t with
    | int j => exact q H .refl
    | bl c => exact q H .refl
    | non => exact q H .refl
    | tup ts => exact q H .refl
    | lst => exact q H .refl
    | dct => exact q H .refl
    | str x =>
      obtain ⟨rfl, hlen⟩ := hv
      refine ⟨.str x, rfl, ?_⟩
      walk_at "nc"
      refine Or.inr (Or.inl ⟨x, rfl, Nat.le_of_lt (small1000 (by omega)), 1, _, rfl, rfl, _, rfl, ite2 (fun e1 => ?_) (fun e1 => ?_)⟩)
      · refine ⟨_, 8, rfl, rfl, _, rfl, ite2 (fun e2 => ?_) (fun e2 => ?_)⟩
        · have e : isNamed (.str x) = false := by
            simp only [isNamed, nmd]
            have : ¬ x.length ≤ 8 := by simp at e2; omega
            rw [decide_eq_false this]
            simp
          rw [e] at q
          exact q H .refl
        · have h1 : 1 ≤ x.length := by simp at e1; omega
          have h2 : x.length ≤ 8 := by simp at e2; omega
          refine ⟨.str x, rfl, x, rfl, fun D nD => ?_⟩
          have hsz : x.cps.toList.length = x.cps.size := by simp
          have hsl : x.cps.size = x.length := rfl
          refine lc_it walk_str (fun i H1 => H1 D = some (.lst (((x.cps.toList.take i).map fun c => decide (c ∈ lettersS.cps.toList)).map V.bl)) ∧ Mv [] H H1) ⟨upd_same, .new nD⟩ (fun _ _ _ _ => trivial) (fun i y H1 H2 hi h1 hy => ?_) (fun H1 h1 => ?_)
          · obtain ⟨e1, m1⟩ := h1
            obtain ⟨rfl, c, hc, rfl⟩ := hy
            have hc' : x.cps.toList[i]? = some c := by simpa using hc
            refine ⟨rfl, .str ⟨#[c]⟩, rfl, Or.inr ⟨c, _, rfl, rfl, _, e1, ?_, ?_, m1.wr nD⟩⟩
            · rw [List.length_map, List.length_map, List.length_take]
              exact small1000 (by omega)
            · rw [upd_same, List.take_add_one, hc']
              simp
              rfl
          · obtain ⟨e1, m1⟩ := h1
            rw [← hsz, List.take_length] at e1
            refine ⟨D, _, rfl, .inl (.inl e1), ?_⟩
            have e : isNamed (.str x) = ((x.cps.toList.map fun c => decide (c ∈ lettersS.cps.toList)).all id) := by
              simp only [isNamed, nmd]
              rw [decide_eq_true h1, decide_eq_true h2, List.all_map]
              rfl
            rw [← e]
            exact q H1 m1
      · have e : isNamed (.str x) = false := by
          simp only [isNamed, nmd]
          have : ¬ 1 ≤ x.length := by simp at e1; omega
          rw [decide_eq_false this]
          simp
        rw [e] at q
        exact ⟨_, rfl, q H .refl⟩
end
end Fm
namespace Fm
open PySem PySem.Spec PyProof.Rows L2
local macro_rules | `(tactic| walk_at "nn") => `(tactic| dsimp only [tC, tNil, tCons, tCB, tCall, gName, tSeq, tAsg, tPar, tDrop, tRet])
local macro_rules | `(tactic| walk_at "nc") => `(tactic| dsimp only [tC, tNil, tCons, tCB])
theorem isTerms_append (ts us : List Th) : isTerms (ts ++ us) = (isTerms ts && isTerms us) := by
  rw [isTerms_all, isTerms_all, isTerms_all, List.all_append]
theorem Th.cnt_pos (t : Th) : 1 ≤ t.cnt := by cases t <;> simp [Th.cnt]
theorem Th.cnts_len : ∀ ts : List Th, ts.length ≤ Th.cnts ts
  | [] => Nat.zero_le _
  | t :: ts => by
    have := Th.cnts_len ts
    have := t.cnt_pos
    simp only [Th.cnts, List.length_cons]
    omega
def sp_isTerm (K : PySem.W.Frag) : Sp := fun vs H Q _ => ∃ (v : V) (t : Th) (b : Addr), vs = [v] ∧ Is K b H v t ∧ t.cnt ≤ 90000 ∧ ∀ H', Mv [] H H' → Q (.bl (isTerm t)) H'
section
variable {P : Program} {w : World} {K : PySem.W.Frag} {mg : Str → Option Value} {base : Heap}
theorem ok_is_term (T : TX K mg) {k : Nat} : FnOk P w K mg base CX0 (k + 2) T.d_is_term.f T.d_is_term.fd P_is_term (sp_isTerm K) := by
  have G_is_integer : FnOk P w K mg base CX0 1 T.d_is_integer.f T.d_is_integer.fd P_is_integer (sp_kind K isWhole) := ok_is_integer T
  have G_is_name : FnOk P w K mg base CX0 1 T.d_is_name.f T.d_is_name.fd P_is_name (sp_kind K isNamed) := ok_is_name T
  refine T.d_is_term.F.ok sc_is_term (fun vs H Q E h => ?_) (fun cdv A outer s H vs Q E hr h => ?_)
  · obtain ⟨_, _, _, rfl, _⟩ := h
    rfl
  · obtain ⟨v, t, b, rfl, hv, hcn, q⟩ := h
    have hu65 := hu65_of hr
    refine ⟨_, (pss_cons (ps_set (i := 1) sc_is_term.nd rfl (Or.inl rfl) (pe_lst (pa_cons (pv 0) pa_nil))) (pss_cons (ps_while PassesOwn.never (pt_cmpR (r := rNeNil K) (op_neNil (Nat.lt_of_le_of_lt (Nat.le_add_right _ 65) hu65)) (pv 1) (pe_lst pa_nil) (nomark _)) (pss_cons (ps_set (i := 2) sc_is_term.nd rfl (Or.inl rfl) (pe_bm0 PySem.F.plainAttrs_list PySem.F.slot_list_pop PySem.F.type_list_pop mt_pop (pv 1))) (pss_one (ps_if (pt_val (pe_call G_is_integer (hr.mono (by omega)) rfl T.d_is_integer.g T.d_is_integer.F.kp T.d_is_integer.b .nil pass0 (pa_cons (pv 2) pa_nil))) (pss_one (ps_if (pt_cmpR op_lt (pv 2) pe_int (nomark _)) (pss_one (ps_ret pe_bl)) pss_nil)) (pss_one (ps_if (PW.pt (pw_or (pt_not (pt_val (pe_callB (r := rIsi K) call_isi (by rfl) T.b_isinstance bt_isinstance (pa_cons (pv 2) (pa_cons (pe_ty T.b_tuple bt_tuple) pa_nil))))) (pw_or (pt_not (pt_chain op_le op_le pe_int (pe_callB (r := rLenG K) call_lenG (by rfl) T.b_len bt_len (pa_cons (pv 2) pa_nil)) (pe_op (r := rAddG K) op_addG pe_int (pe_glob rfl T.c_MOST_PARTS T.r_MOST_PARTS)))) (pw_or1 (pt_not (pt_val (pe_call G_is_name (hr.mono (by omega)) rfl T.d_is_name.g T.d_is_name.F.kp T.d_is_name.b .nil pass0 (pa_cons (pe_ix (r := rIx K) ix_seq (pv 2) pe_int (fun _ _ => rfl)) pa_nil)))))))) (pss_one (ps_ret pe_bl)) (pss_one (ps_expr (pe_bm PySem.F.plainAttrs_list PySem.F.slot_list_extend PySem.F.type_list_extend (r := rExtG K) mt_extendG (pv 1) (pa_cons (pe_slice (r := rSlG K) sl_G (pv 2) (po_some pe_int) po_none) pa_nil)))))))))) (pss_one (ps_ret pe_bl)))), ?_⟩
    refine ⟨v, rfl, (by decide : 1 ≤ sizeLine), fun l nl => ?_⟩
    refine ⟨fun m σ H2 => ∃ (ys : List V) (us : List Th) (y : Option V), σ = [some v, some (.ref l), y] ∧ H2 l = some (.lst ys) ∧ IsAll K b H ys us ∧ isTerms us = isTerm t ∧ Th.cnts us ≤ 90000 ∧ m = Th.cnts us ∧ Mv [] H H2,
      ⟨_, [v], [t], none, rfl, upd_same, IsAll.cons hv IsAll.nil, by simp [isTerms], by simp only [Th.cnts]; omega, rfl, .new nl⟩, fun m σ H2 hW => ?_⟩
    obtain ⟨ys, us, y, rfl, e2, i2, s2, b2, rfl, m2⟩ := hW
    refine ⟨.ref l, rfl, Nat.zero_le _, fun q1 n1 => ⟨l, q1, ys, rfl, rfl, .inl (.inl (same_new n1 _ _ e2)), .inl (.inl upd_same), ?_⟩⟩
    have m23 : Mv [] H (upd H2 q1 (.lst [])) := m2.trans (.new n1)
    have e3 : upd H2 q1 (.lst []) l = some (.lst ys) := same_new n1 _ _ e2
    generalize upd H2 q1 (.lst []) = H3 at m23 e3 ⊢
    refine ⟨_, rfl, ?_⟩
    rcases List.eq_nil_or_concat us with rfl | ⟨us', u, rfl⟩
    · have hy : ys = [] := i2
      subst hy
      rw [show isTerms ([] : List Th) = true from by simp [isTerms]] at s2
      rw [← s2] at q
      exact q H3 m23
    · rw [List.concat_eq_append] at *
      obtain ⟨ys', z, rfl, i4, hz⟩ := IsAll.last rfl i2
      rw [show (!(ys' ++ [z]).isEmpty) = true by simp]
      refine ⟨fun σ' H' => ∃ m', m' < Th.cnts (us' ++ [u]) ∧ _, fun _ _ h => h, ?_⟩
      -- one = waiting.pop()
      refine ⟨.ref l, rfl, .inl ⟨rfl, _, .inl (.inl e3)⟩, l, _, z, rfl, rfl, e3, by simp, ?_⟩
      have m25 : Mv [] H (upd H3 l (.lst (ys' ++ [z]).dropLast)) := m23.wr nl
      have e5 : upd H3 l (.lst (ys' ++ [z]).dropLast) l = some (.lst ys') := by rw [upd_same, List.dropLast_concat]
      generalize upd H3 l (.lst (ys' ++ [z]).dropLast) = H5 at m25 e5 ⊢
      rw [Th.cnts_append] at b2 ⊢
      rw [isTerms_append] at s2
      have e1u : isTerms [u] = isTerm u := by simp [isTerms]
      have c1u : Th.cnts [u] = u.cnt := by simp [Th.cnts]
      rw [e1u] at s2
      rw [c1u] at b2 ⊢
      have hpos := u.cnt_pos
      have hbad : isTerm u = false → isTerm t = false := fun e => by rw [← s2, e, Bool.and_false]
      -- is_integer(one)
      refine ⟨z, rfl, z, u, b, rfl, hz.mv0 m25, fun H6 m6 => ?_⟩
      have m26 := m25.trans m6
      have e6 := m6.same _ _ e5
      refine ⟨_, rfl, ?_⟩
      have bad : isTupT u = false → isWhole u = false → isTerm u = false := fun h1 h2 => by
        cases u <;> simp [isTupT, isWhole, isTerm] at *
      cases u with
      | int i =>
        cases (show z = V.int i from hz)
        refine ⟨.int i, rfl, i, 0, rfl, rfl, _, rfl, ite2 (fun e => ?_) (fun e => ?_)⟩
        · have h0 : ¬ 0 ≤ i := by simp at e; omega
          have e9 := hbad (by simp only [isTerm]; exact decide_eq_false h0)
          rw [e9] at q
          exact q H6 m26
        · have h0 : 0 ≤ i := by simp at e; omega
          refine ⟨Th.cnts us', by omega, ys', us', _, rfl, e6, i4, ?_, by omega, rfl, m26⟩
          rw [← s2]
          simp only [isTerm]
          rw [decide_eq_true h0, Bool.and_true]
      | tup ts =>
        obtain ⟨a1, zs0, rfl, ha1, hzs0⟩ := hz
        have hl0 := hzs0.length
        have ha6 := m26.sqT ha1
        refine ⟨.ref a1, rfl, ?_⟩
        walk_at "nn"
        refine rd_isi (show Is K b H6 (.ref a1) (.tup ts) from ⟨a1, zs0, rfl, ha6, hzs0.mv0 m26⟩) (kit_tup (.tup ts)) ⟨_, rfl, ?_⟩
        refine ⟨.ref a1, rfl, ?_⟩
        walk_at "nc"
        refine rd_len (.inr ha6) ⟨1, _, rfl, rfl, _, rfl, ite2 (fun e => ?_) (fun e => ?_)⟩
        · have h1 : 1 ≤ zs0.length := by simp at e; omega
          refine Or.inl ⟨1, 3, rfl, rfl, _, _, rfl, rfl, _, rfl, ite2 (fun e1 => ?_) (fun e1 => ?_)⟩
          · have h2 : ¬ zs0.length ≤ 4 := by simp at e1; omega
            have e9 := hbad (by
              cases ts with
              | nil => simp [isTerm]
              | cons t0 tr =>
                simp only [List.length_cons] at hl0
                simp only [isTerm]
                rw [decide_eq_false (show ¬ tr.length ≤ 3 by omega)]
                simp)
            rw [e9] at q
            exact q H6 m26
          · have h2 : zs0.length ≤ 4 := by simp at e1; omega
            cases ts with
            | nil =>
              simp only [List.length_nil] at hl0
              omega
            | cons t0 tr =>
              obtain ⟨z0, zs, rfl, hz0, hzs⟩ := hzs0
              simp only [List.length_cons] at hl0 h2
              refine ⟨.ref a1, rfl, rd_ixT ha6 (by decide) (v := z0) rfl ?_⟩
              refine ⟨z0, t0, b, rfl, hz0.mv0 m26, fun H7 m7 => ⟨_, rfl, ite2 (fun e2 => ?_) (fun e2 => ?_)⟩⟩
              · have e9 := hbad (by
                  simp only [isTerm]
                  rw [show isNamed t0 = false by simpa using e2]
                  simp)
                rw [e9] at q
                exact q H7 (m26.trans m7)
              · have m27 := m26.trans m7
                have e7 := m7.same _ _ e6
                refine ⟨.ref l, rfl, .inl ⟨rfl, _, .inl (.inl e7)⟩, .ref a1, rfl, 1, rfl, rd_sl1 (m27.sqT ha1) fun p8 H8 m8 e8 => ?_⟩
                have hl4 := i4.length
                have hc4 := Th.cnts_len us'
                simp only [Th.cnt, Th.cnts] at b2 ⊢
                have hpos0 := t0.cnt_pos
                have hczs := Th.cnts_len tr
                refine Or.inr ⟨l, p8, ys', zs, rfl, rfl, m8.same _ _ e7, e8, Nat.le_trans (show ys'.length + zs.length ≤ 100000 by omega) (by decide), ?_⟩
                refine ⟨Th.cnts (us' ++ tr), by rw [Th.cnts_append]; omega, ys' ++ zs, us' ++ tr, _, rfl, upd_same, i4.append hzs, ?_, by rw [Th.cnts_append]; omega, rfl, (m27.trans m8).wr nl⟩
                rw [← s2, isTerms_append]
                simp only [isTerm]
                rw [show isNamed t0 = true by simpa using e2, decide_eq_true (show tr.length ≤ 3 by omega)]
                rfl
        · have h1 : ¬ 1 ≤ zs0.length := by simp at e; omega
          have e9 := hbad (by
            cases ts with
            | nil => simp [isTerm]
            | cons t0 tr =>
              simp only [List.length_cons] at hl0
              omega)
          rw [e9] at q
          exact ⟨_, rfl, q H6 m26⟩
      | non =>
        refine ⟨z, rfl, ?_⟩
        walk_at "nn"
        refine rd_isi (hz.mv0 m26) (kit_tup .non) ⟨_, rfl, ?_⟩
        have e9 := hbad (by simp [isTerm])
        rw [e9] at q
        exact q H6 m26
      | bl c =>
        refine ⟨z, rfl, ?_⟩
        walk_at "nn"
        refine rd_isi (hz.mv0 m26) (kit_tup (.bl c)) ⟨_, rfl, ?_⟩
        have e9 := hbad (by simp [isTerm])
        rw [e9] at q
        exact q H6 m26
      | str x =>
        refine ⟨z, rfl, ?_⟩
        walk_at "nn"
        refine rd_isi (hz.mv0 m26) (kit_tup (.str x)) ⟨_, rfl, ?_⟩
        have e9 := hbad (by simp [isTerm])
        rw [e9] at q
        exact q H6 m26
      | lst =>
        refine ⟨z, rfl, ?_⟩
        walk_at "nn"
        refine rd_isi (hz.mv0 m26) (kit_tup .lst) ⟨_, rfl, ?_⟩
        have e9 := hbad (by simp [isTerm])
        rw [e9] at q
        exact q H6 m26
      | dct =>
        refine ⟨z, rfl, ?_⟩
        walk_at "nn"
        refine rd_isi (hz.mv0 m26) (kit_tup .dct) ⟨_, rfl, ?_⟩
        have e9 := hbad (by simp [isTerm])
        rw [e9] at q
        exact q H6 m26
end
end Fm
namespace Fm
open PySem PySem.Spec PyProof.Rows L2
local macro_rules | `(tactic| walk_at "nn") => `(tactic| dsimp only [tC, tNil, tCons, tCB, tCall, gName, tSeq, tAsg, tPar, tDrop, tRet])
local macro_rules | `(tactic| walk_at "nc") => `(tactic| dsimp only [tC, tNil, tCons, tCB])
def initS (x : Str) : Str := ⟨(x.cps.toList.take (x.length - 1)).toArray⟩
def dashed (x : Str) : Bool := decide (x.cps.toList.drop (x.length - 1) = [45])
def isOutc : Th → Bool
  | .str x => if dashed x = true then nmd (initS x) else nmd x
  | _ => false
theorem toList_len (x : Str) : x.cps.toList.length = x.length := by simp; rfl
theorem sIx_m1 (n d : Nat) : HT.sIx n d (some (-1)) = n - 1 := by
  show (if (-1 : Int) < 0 then ((-1 : Int) + (n : Int)).toNat else min (-1 : Int).toNat n) = n - 1
  rw [if_pos (by decide)]
  omega
theorem cut_last (x : Str) : cutS x (some (-1)) none = ⟨(x.cps.toList.drop (x.length - 1)).toArray⟩ := by
  unfold cutS
  rw [sIx_m1, HT.sIx_none, List.take_of_length_le]
  rw [List.length_drop, toList_len]
  omega
theorem cut_init (x : Str) : cutS x none (some (-1)) = initS x := by
  unfold cutS initS
  rw [sIx_m1, HT.sIx_none, List.drop_zero, Nat.sub_zero]
theorem dash_eq (x : Str) : decide (V.str (cutS x (some (-1)) none) = V.str "-") = dashed x := by
  rw [cut_last]
  unfold dashed
  rw [Bool.eq_iff_iff, decide_eq_true_iff, decide_eq_true_iff]
  constructor
  · intro h
    injection h with h
    have h2 := congrArg (fun s : Str => s.cps.toList) h
    have e45 : (Str.ofString "-").cps.toList = [45] := by decide +kernel
    rw [← e45]
    simpa using h2
  · intro h
    rw [h]
    rfl
theorem initS_len (x : Str) : (initS x).length = x.length - 1 := by
  show (x.cps.toList.take (x.length - 1)).toArray.size = _
  rw [List.size_toArray, List.length_take, toList_len]
  omega
def sp_vals (K : PySem.W.Frag) : Sp := fun vs H Q _ => ∃ (n : Int) (v : V) (t : Th) (b : Addr), vs = [.int n, v] ∧ Is K b H v t ∧ t.cnt ≤ 90000 ∧ ∀ H', Mv [] H H' → Q (.bl (match t with | .tup ts => decide ((ts.length : Int) = n) && isTerms ts | _ => false)) H'
section
variable {P : Program} {w : World} {K : PySem.W.Frag} {mg : Str → Option Value} {base : Heap}
theorem ok_is_outcome (T : TX K mg) {k : Nat} : FnOk P w K mg base CX0 (k + 2) T.d_is_outcome.f T.d_is_outcome.fd P_is_outcome (sp_kind K isOutc) := by
  have G_is_name : FnOk P w K mg base CX0 1 T.d_is_name.f T.d_is_name.fd P_is_name (sp_kind K isNamed) := ok_is_name T
  refine T.d_is_outcome.F.ok sc_is_outcome (fun vs H Q E h => ?_) (fun cdv A outer s H vs Q E hr h => ?_)
  · obtain ⟨_, _, _, rfl, _⟩ := h
    rfl
  · obtain ⟨v, t, b, rfl, hv, q⟩ := h
    have hu64 := hr.units
    refine ⟨_, (pss_cons (ps_if (PW.pt (pw_and (pt_val (pe_callB (r := rIsi K) call_isi (by rfl) T.b_isinstance bt_isinstance (pa_cons (pv 0) (pa_cons (pe_ty T.b_str bt_str) pa_nil)))) (pw_and1 (pt_cmpR (r := rEqG K) (op_eqG hu64) (pe_slice (r := rSlG K) sl_G (pv 0) (po_some (pe_un un_neg pe_int)) po_none) pe_str (nomark _))))) (pss_one (ps_ret (pe_call G_is_name (hr.mono (by omega)) rfl T.d_is_name.g T.d_is_name.F.kp T.d_is_name.b .nil pass0 (pa_cons (pe_slice (r := rSlG K) sl_G (pv 0) po_none (po_some (pe_un un_neg pe_int))) pa_nil)))) pss_nil) (pss_one (ps_ret (pe_call G_is_name (hr.mono (by omega)) rfl T.d_is_name.g T.d_is_name.F.kp T.d_is_name.b .nil pass0 (pa_cons (pv 0) pa_nil))))), ?_⟩
    refine ⟨v, rfl, ?_⟩
    walk_at "nn"
    refine rd_isi hv (kit_str t) ⟨_, rfl, ?_⟩
    cases t with
    | int j => exact ⟨v, rfl, v, .int j, b, rfl, hv, q⟩
    | bl c => exact ⟨v, rfl, v, .bl c, b, rfl, hv, q⟩
    | non => exact ⟨v, rfl, v, .non, b, rfl, hv, q⟩
    | tup ts => exact ⟨v, rfl, v, .tup ts, b, rfl, hv, q⟩
    | lst => exact ⟨v, rfl, v, .lst, b, rfl, hv, q⟩
    | dct => exact ⟨v, rfl, v, .dct, b, rfl, hv, q⟩
    | str x =>
      obtain ⟨rfl, hlen⟩ := hv
      have hsz : x.length ≤ sizeLine := Nat.le_of_lt (small1000 (by omega))
      refine ⟨.str x, rfl, 1, rfl, -1, rfl, Or.inr (Or.inr ⟨x, rfl, hsz, Or.inl ⟨rfl, ?_⟩⟩)⟩
      have ed := dash_eq x
      rw [show (("-" : String) : Str) = Str.ofString "-" from rfl] at ed
      rw [ed]
      refine ⟨_, rfl, ite2 (fun e => ?_) (fun e => ?_)⟩
      · refine ⟨.str x, rfl, 1, rfl, -1, rfl, Or.inr (Or.inr ⟨x, rfl, hsz, ?_⟩)⟩
        rw [cut_init]
        refine ⟨_, .str (initS x), b, rfl, ⟨rfl, by rw [initS_len]; omega⟩, fun H' m => ?_⟩
        have := q H' m
        simp only [isOutc] at this
        rw [if_pos e] at this
        exact this
      · refine ⟨.str x, rfl, _, .str x, b, rfl, ⟨rfl, hlen⟩, fun H' m => ?_⟩
        have := q H' m
        simp only [isOutc] at this
        rw [if_neg e] at this
        exact this
end
end Fm
namespace Fm
open PySem PySem.Spec PyProof.Rows L2
local macro_rules | `(tactic| walk_at "nn") => `(tactic| dsimp only [tC, tNil, tCons, tCB, tCall, gName, tSeq, tAsg, tPar, tDrop, tRet])
local macro_rules | `(tactic| walk_at "nc") => `(tactic| dsimp only [tC, tNil, tCons, tCB, tCall])
/-! terms over some variables -/
mutual
def under (many : Int) : Th → Bool
  | .int i => decide (i < many)
  | .tup (_ :: ts) => unders many ts
  | _ => true
def unders (many : Int) : List Th → Bool
  | [] => true
  | t :: ts => under many t && unders many ts
end
theorem unders_append (many : Int) (ts us : List Th) : unders many (ts ++ us) = (unders many ts && unders many us) := by
  induction ts with
  | nil => simp [unders]
  | cons t ts ih => simp [unders, ih, Bool.and_assoc]
def sp_termOver (K : PySem.W.Frag) : Sp := fun vs H Q _ => ∃ (many : Int) (v : V) (t : Th) (b : Addr), vs = [.int many, v] ∧ Is K b H v t ∧ t.cnt ≤ 90000 ∧ ∀ H', Mv [] H H' → Q (.bl (isTerm t && under many t)) H'
section
variable {P : Program} {w : World} {K : PySem.W.Frag} {mg : Str → Option Value} {base : Heap}
theorem ok_is_term_over (T : TX K mg) {k : Nat} : FnOk P w K mg base CX0 (k + 3) T.d_is_term_over.f T.d_is_term_over.fd P_is_term_over (sp_termOver K) := by
  have G_is_term : FnOk P w K mg base CX0 2 T.d_is_term.f T.d_is_term.fd P_is_term (sp_isTerm K) := ok_is_term T
  refine T.d_is_term_over.F.ok sc_is_term_over (fun vs H Q E h => ?_) (fun cdv A outer s H vs Q E hr h => ?_)
  · obtain ⟨_, _, _, _, rfl, _⟩ := h
    rfl
  · obtain ⟨many, v, t, b, rfl, hv, hcn, q⟩ := h
    have hu65 := hu65_of hr
    refine ⟨_, (pss_cons (ps_if (pt_not (pt_val (pe_call G_is_term (hr.mono (by omega)) rfl T.d_is_term.g T.d_is_term.F.kp T.d_is_term.b .nil pass0 (pa_cons (pv 1) pa_nil)))) (pss_one (ps_ret pe_bl)) pss_nil) (pss_cons (ps_set (i := 2) sc_is_term_over.nd rfl (Or.inl rfl) (pe_lst (pa_cons (pv 1) pa_nil))) (pss_cons (ps_while PassesOwn.never (pt_cmpR (r := rNeNil K) (op_neNil (Nat.lt_of_le_of_lt (Nat.le_add_right _ 65) hu65)) (pv 2) (pe_lst pa_nil) (nomark _)) (pss_cons (ps_set (i := 3) sc_is_term_over.nd rfl (Or.inl rfl) (pe_bm0 PySem.F.plainAttrs_list PySem.F.slot_list_pop PySem.F.type_list_pop mt_pop (pv 2))) (pss_one (ps_if (pt_not (pt_val (pe_callB (r := rIsi K) call_isi (by rfl) T.b_isinstance bt_isinstance (pa_cons (pv 3) (pa_cons (pe_ty T.b_int bt_int) pa_nil))))) (pss_one (ps_expr (pe_bm PySem.F.plainAttrs_list PySem.F.slot_list_extend PySem.F.type_list_extend (r := rExtG K) mt_extendG (pv 2) (pa_cons (pe_slice (r := rSlG K) sl_G (pv 3) (po_some pe_int) po_none) pa_nil)))) (pss_one (ps_if (pt_cmpR op_ge (pv 3) (pv 0) (nomark _)) (pss_one (ps_ret pe_bl)) pss_nil)))))) (pss_one (ps_ret pe_bl))))), ?_⟩
    refine ⟨v, rfl, v, t, b, rfl, hv, hcn, fun H1 m1 => ⟨_, rfl, ite2 (fun e1 => ?_) (fun e1 => ?_)⟩⟩
    · have e9 : isTerm t = false := by simpa using e1
      rw [e9] at q
      exact q H1 m1
    have e9 : isTerm t = true := by simpa using e1
    rw [e9] at q
    refine ⟨v, rfl, (by decide : 1 ≤ sizeLine), fun l nl => ?_⟩
    have nl0 := m1.free nl
    refine ⟨fun m σ H2 => ∃ (ys : List V) (us : List Th) (y : Option V), σ = [some (.int many), some v, some (.ref l), y] ∧ H2 l = some (.lst ys) ∧ IsAll K b H ys us ∧ isTerms us = true ∧ unders many us = under many t ∧ Th.cnts us ≤ 90000 ∧ m = Th.cnts us ∧ Mv [] H H2,
      ⟨_, [v], [t], none, rfl, upd_same, IsAll.cons hv IsAll.nil, by simp [isTerms, e9], by simp [unders], by simp only [Th.cnts]; omega, rfl, m1.trans (.new nl)⟩, fun m σ H2 hW => ?_⟩
    obtain ⟨ys, us, y, rfl, e2, i2, s2, t2, b2, rfl, m2⟩ := hW
    refine ⟨.ref l, rfl, Nat.zero_le _, fun q1 n1 => ⟨l, q1, ys, rfl, rfl, .inl (.inl (same_new n1 _ _ e2)), .inl (.inl upd_same), ?_⟩⟩
    have m23 : Mv [] H (upd H2 q1 (.lst [])) := m2.trans (.new n1)
    have e3 : upd H2 q1 (.lst []) l = some (.lst ys) := same_new n1 _ _ e2
    generalize upd H2 q1 (.lst []) = H3 at m23 e3 ⊢
    refine ⟨_, rfl, ?_⟩
    rcases List.eq_nil_or_concat us with rfl | ⟨us', u, rfl⟩
    · have hy : ys = [] := i2
      subst hy
      rw [show unders many ([] : List Th) = true from by simp [unders]] at t2
      rw [← t2] at q
      exact q H3 m23
    · rw [List.concat_eq_append] at *
      obtain ⟨ys', z, rfl, i4, hz⟩ := IsAll.last rfl i2
      rw [show (!(ys' ++ [z]).isEmpty) = true by simp]
      refine ⟨fun σ' H' => ∃ m', m' < Th.cnts (us' ++ [u]) ∧ _, fun _ _ h => h, ?_⟩
      refine ⟨.ref l, rfl, .inl ⟨rfl, _, .inl (.inl e3)⟩, l, _, z, rfl, rfl, e3, by simp, ?_⟩
      have m25 : Mv [] H (upd H3 l (.lst (ys' ++ [z]).dropLast)) := m23.wr nl0
      have e5 : upd H3 l (.lst (ys' ++ [z]).dropLast) l = some (.lst ys') := by rw [upd_same, List.dropLast_concat]
      generalize upd H3 l (.lst (ys' ++ [z]).dropLast) = H5 at m25 e5 ⊢
      rw [Th.cnts_append] at b2 ⊢
      rw [isTerms_append, Bool.and_eq_true] at s2
      rw [unders_append] at t2
      have e1u : isTerms [u] = isTerm u := by simp [isTerms]
      have c1u : Th.cnts [u] = u.cnt := by simp [Th.cnts]
      rw [e1u] at s2
      rw [show unders many [u] = under many u by simp [unders]] at t2
      rw [c1u] at b2 ⊢
      have hpos := u.cnt_pos
      refine ⟨z, rfl, ?_⟩
      walk_at "nn"
      refine rd_isi (hz.mv0 m25) (kit_int u) ⟨_, rfl, ?_⟩
      cases u with
      | int i =>
        cases (show z = V.int i from hz)
        refine ⟨.int i, rfl, .int many, rfl, i, many, rfl, rfl, _, rfl, ite2 (fun e => ?_) (fun e => ?_)⟩
        · have h0 : ¬ i < many := by simp at e; omega
          rw [show under many t = false by rw [← t2]; simp only [under]; rw [decide_eq_false h0, Bool.and_false]] at q
          exact q H5 m25
        · have h0 : i < many := by simp at e; omega
          refine ⟨Th.cnts us', by omega, ys', us', _, rfl, e5, i4, s2.1, ?_, by omega, rfl, m25⟩
          rw [← t2]
          simp only [under]
          rw [decide_eq_true h0, Bool.and_true]
      | tup ts =>
        obtain ⟨a1, zs0, rfl, ha1, hzs0⟩ := hz
        cases ts with
        | nil => simp [isTerm] at s2
        | cons t0 tr =>
          obtain ⟨z0, zs, rfl, hz0, hzs⟩ := hzs0
          have s3 : isTerms tr = true ∧ tr.length ≤ 3 := by
            have := s2.2
            simp only [isTerm, Bool.and_eq_true, decide_eq_true_eq] at this
            exact ⟨this.2, this.1.2⟩
          have hlz := hzs.length
          refine ⟨.ref l, rfl, .inl ⟨rfl, _, .inl (.inl e5)⟩, .ref a1, rfl, 1, rfl, rd_sl1 (m25.sqT ha1) fun p8 H8 m8 e8 => ?_⟩
          have hl4 := i4.length
          have hc4 := Th.cnts_len us'
          simp only [Th.cnt, Th.cnts] at b2 ⊢
          have hpos0 := t0.cnt_pos
          have hczs := Th.cnts_len tr
          refine Or.inr ⟨l, p8, ys', zs, rfl, rfl, m8.same _ _ e5, e8, Nat.le_trans (show ys'.length + zs.length ≤ 100000 by omega) (by decide), ?_⟩
          refine ⟨Th.cnts (us' ++ tr), by rw [Th.cnts_append]; omega, ys' ++ zs, us' ++ tr, _, rfl, upd_same, i4.append hzs, ?_, ?_, by rw [Th.cnts_append]; omega, rfl, (m25.trans m8).wr nl0⟩
          · rw [isTerms_append, s2.1, s3.1]
            rfl
          · rw [← t2, unders_append]
            simp only [under]
      | non => simp [isTerm] at s2
      | bl c => simp [isTerm] at s2
      | str x => simp [isTerm] at s2
      | lst => simp [isTerm] at s2
      | dct => simp [isTerm] at s2
end
mutual
theorem isTerm_th {R : Int → Prop} (hR : ∀ i, R i → 0 ≤ i) : ∀ t : Tm, t.ok R → isTerm t.th = true
  | .var i, h => by simpa [Tm.th, isTerm] using hR i h
  | .op x ts, h => by
    simp only [Tm.th, isTerm, isNamed, nmd_nm h.1, isTerms_ths hR ts h.2.2, Bool.true_and, Bool.and_true, ths_len, decide_eq_true_eq]
    exact h.2.1
theorem isTerms_ths {R : Int → Prop} (hR : ∀ i, R i → 0 ≤ i) : ∀ ts : List Tm, Tm.oks R ts → isTerms (Tm.ths ts) = true
  | [], _ => by simp [Tm.ths, isTerms]
  | t :: ts, h => by simp [Tm.ths, isTerms, isTerm_th hR t h.1, isTerms_ths hR ts h.2]
theorem ths_len : ∀ ts : List Tm, (Tm.ths ts).length = ts.length
  | [] => by simp [Tm.ths]
  | t :: ts => by simp [Tm.ths, ths_len ts]
end
mutual
theorem under_th {R : Int → Prop} {n : Int} (hR : ∀ i, R i → i < n) : ∀ t : Tm, t.ok R → under n t.th = true
  | .var i, h => by simpa [Tm.th, under] using hR i h
  | .op x ts, h => by
    simp only [Tm.th, under]
    exact unders_ths hR ts h.2.2
theorem unders_ths {R : Int → Prop} {n : Int} (hR : ∀ i, R i → i < n) : ∀ ts : List Tm, Tm.oks R ts → unders n (Tm.ths ts) = true
  | [], _ => by simp [Tm.ths, unders]
  | t :: ts, h => by simp [Tm.ths, unders, under_th hR t h.1, unders_ths hR ts h.2]
end
mutual
theorem cnt_th : ∀ t : Tm, t.th.cnt ≤ t.cst + t.lv
  | .var i => by simp [Tm.th, Th.cnt, Tm.lv]
  | .op x ts => by
    have := cnts_ths ts
    simp only [Tm.th, Th.cnt, Th.cnts, Tm.cst, Tm.lv]
    omega
theorem cnts_ths : ∀ ts : List Tm, Th.cnts (Tm.ths ts) ≤ Tm.csts ts + Tm.lvs ts
  | [] => by simp [Tm.ths, Th.cnts]
  | t :: ts => by
    have := cnt_th t
    have := cnts_ths ts
    simp only [Tm.ths, Th.cnts, Tm.csts, Tm.lvs]
    omega
end
end Fm
namespace Fm
open PySem PySem.Spec PyProof.Rows L2 SlX
/-! a built-in's method within a comprehension, d.items() -/
section
variable {X : Cx} {K : PySem.W.Frag} {o e : Expr} {es : List Expr} {to : TE} {t : TA} {apos cpos : Pos} {T id : String} {name f : Str} {r : V → List V → Hp → VK → Prop}
theorem pe_bm0C (hK : X.K = K) (pa : PlainAttrs T) (slot : Slot T name id) (hty : typeOf (.builtin id) = pure (.type "method_descriptor")) (hm : MtR X id r) (ho : PE X o to)
    (hbase : attributeBase o name X.env (eval o X.env) = eval o X.env := by rfl) (hline : (apos.endLine == cpos.line) = true := by rfl) : PE X (.Call (.Attribute o name apos) [] [] cpos) (tBM0 K T r to) := by
  subst hK
  exact pe_bm0 pa slot hty hm ho hbase hline
theorem pe_slC (hK : X.K = K) (he : PE X e to) (hb : attributeBase e f X.env (eval e X.env) = eval e X.env := by rfl) : PE X (.Attribute e f apos) (SlX.tSl K to f) := by
  subst hK
  exact pe_sl he hb
end
/-- a dict comprehension over what is walked -/
theorem dc_it {J : It} {n : Nat} {G : Hp → Prop} {Y : Nat → Hp → V → Hp → Prop} (w : Walk J n G Y) {g : TG} {tt : TT} {tk tv : TE} {vs : List Nat} {σ : L2.St} {H1 : Hp} {D : Addr} {Qd : Hp → Prop} (Pv : Nat → Hp → Prop) (h0 : Pv 0 (upd H1 D (.dK []))) (hG : ∀ i H, i ≤ n → Pv i H → G H)
    (hs : ∀ i x H H', i < n → Pv i H → Y i H x H' → g x (wipe σ vs) H' fun σ2 H2 => wipe σ2 vs = wipe σ vs ∧ tt σ2 H2 fun b H3 =>
      if b = true then tk σ2 H3 fun y H4 => tv σ2 H4 fun z H5 => ∃ kvs k, y = kV k ∧ H5 D = some (.dK kvs) ∧ kvs.length < sizeLine ∧ Pv (i + 1) (upd H5 D (.dK (putK kvs k z))) else Pv (i + 1) H3) (hd : ∀ H, Pv n H → Qd H) :
    ∃ W : Nat → Nat → Hp → Prop, (∃ m, W 0 m (upd H1 D (.dK []))) ∧ ∀ i m H, W i m H →
      (J.stop i H ∧ Qd H) ∨ (J.go i H ∧ ∃ Nx : Hp → Prop, (∀ H', Nx H' → ∃ m', m' < m ∧ W (i + 1) m' H') ∧ ∀ x H', J.yld i H x H' → g x (wipe σ vs) H' fun σ2 H2 => wipe σ2 vs = wipe σ vs ∧ tt σ2 H2 fun b H3 =>
        if b = true then tk σ2 H3 fun y H4 => tv σ2 H4 fun z H5 => ∃ kvs k, y = kV k ∧ H5 D = some (.dK kvs) ∧ kvs.length < sizeLine ∧ Nx (upd H5 D (.dK (putK kvs k z))) else Nx H3) := by
  refine ⟨fun i m H => m = n - i ∧ i ≤ n ∧ Pv i H, ⟨n, by simp, Nat.zero_le _, h0⟩, ?_⟩
  rintro i m H ⟨rfl, hi, p⟩
  have q := hG i H hi p
  by_cases hlt : i < n
  · exact .inr ⟨w.goes i H hlt q, Pv (i + 1), fun H' p' => ⟨n - (i + 1), by omega, rfl, hlt, p'⟩, fun x H' y => hs i x H H' hlt p (w.yields i H x H' hlt q y)⟩
  · have e : i = n := by omega
    subst e
    exact .inl ⟨w.stops H q, hd H p⟩
/-! orders -/
structure TotO {κ : Type} (le : κ → κ → Bool) : Prop where
  tr : ∀ a b c, le a b = true → le b c = true → le a c = true
  to : ∀ a b, (le a b || le b a) = true
  an : ∀ a b, le a b = true → le b a = true → a = b
def leS (x y : Str) : Bool := !decide (y.cps.toList < x.cps.toList)
def leZ (i j : Int) : Bool := decide (i ≤ j)
theorem leS_iff {x y : Str} : leS x y = true ↔ x.cps.toList ≤ y.cps.toList := by
  unfold leS
  rw [Bool.not_eq_true', decide_eq_false_iff_not, List.not_lt]
theorem totS : TotO leS where
  tr a b c h k := leS_iff.mpr (List.le_trans (leS_iff.mp h) (leS_iff.mp k))
  to a b := by
    rcases List.le_total a.cps.toList b.cps.toList with h | h
    · rw [leS_iff.mpr h]; rfl
    · rw [leS_iff.mpr h, Bool.or_true]
  an a b h k := str_ext (List.le_antisymm (leS_iff.mp h) (leS_iff.mp k))
theorem totZ : TotO leZ where
  tr a b c h k := by
    have := of_decide_eq_true h
    have := of_decide_eq_true k
    exact decide_eq_true (by omega)
  to a b := by
    unfold leZ
    rw [← Bool.decide_or]
    exact decide_eq_true (by omega)
  an a b h k := by
    have := of_decide_eq_true h
    have := of_decide_eq_true k
    omega
theorem inj_of_nd {α κ : Type} {k : α → κ} : ∀ {xs : List α}, (xs.map k).Nodup → ∀ {a b}, a ∈ xs → b ∈ xs → k a = k b → a = b
  | [], _, _, _, h, _, _ => absurd h List.not_mem_nil
  | x :: xs, n, a, b, ha, hb, e => by
    rw [List.map_cons, List.nodup_cons] at n
    rcases List.mem_cons.mp ha with h1 | h1
    · rcases List.mem_cons.mp hb with h2 | h2
      · rw [h1, h2]
      · exact absurd (List.mem_map.mpr ⟨b, h2, by rw [← e, h1]⟩) n.1
    · rcases List.mem_cons.mp hb with h2 | h2
      · exact absurd (List.mem_map.mpr ⟨a, h1, by rw [e, h2]⟩) n.1
      · exact inj_of_nd n.2 h1 h2 e
section
variable {α κ : Type} {le : κ → κ → Bool} {k : α → κ}
/-- xs by the key k -/
def srt (le : κ → κ → Bool) (k : α → κ) (xs : List α) : List α := xs.mergeSort fun a b => le (k a) (k b)
theorem srt_perm (xs : List α) : (srt le k xs).Perm xs := List.mergeSort_perm _ _
theorem srt_pw (t : TotO le) (xs : List α) : (srt le k xs).Pairwise fun a b => le (k a) (k b) = true :=
  List.pairwise_mergeSort (le := fun a b => le (k a) (k b)) (fun a b c h h' => t.tr (k a) (k b) (k c) h h') (fun a b => t.to (k a) (k b)) xs
theorem srt_mem {xs : List α} {a : α} : a ∈ srt le k xs ↔ a ∈ xs := (srt_perm xs).mem_iff
theorem srt_len (xs : List α) : (srt le k xs).length = xs.length := (srt_perm xs).length_eq
theorem srt_one (t : TotO le) {xs ys : List α} (n : (xs.map k).Nodup) (p : ys.Perm xs) (s : ys.Pairwise fun a b => le (k a) (k b) = true) : ys = srt le k xs :=
  List.Perm.eq_of_pairwise (le := fun a b => le (k a) (k b) = true) (fun a b ha hb h h' => inj_of_nd n (p.mem_iff.mp ha) (srt_mem.mp hb) (t.an _ _ h h')) s (srt_pw t xs) (p.trans (srt_perm xs).symm)
theorem srt_keys (t : TotO le) {xs : List α} (n : (xs.map k).Nodup) {ys : List κ} (p : ys.Perm (xs.map k)) (s : ys.Pairwise fun a b => le a b = true) : ys = (srt le k xs).map k :=
  List.Perm.eq_of_pairwise (le := fun a b => le a b = true) (fun a b _ _ h h' => t.an _ _ h h') s (List.pairwise_map.mpr (srt_pw t xs)) (p.trans ((srt_perm xs).map k).symm)
theorem srt_nd {xs : List α} (n : (xs.map k).Nodup) : ((srt le k xs).map k).Nodup := ((srt_perm xs).map k).nodup_iff.mpr n
theorem srt_idem (t : TotO le) {xs : List α} (n : (xs.map k).Nodup) : srt le k (srt le k xs) = srt le k xs := (srt_one t (srt_nd n) (.refl _) (srt_pw t xs)).symm
theorem srt_of_perm (t : TotO le) {xs ys : List α} (n : (xs.map k).Nodup) (p : ys.Perm xs) : srt le k ys = srt le k xs := srt_one t n ((srt_perm ys).trans p) (srt_pw t ys)
end
theorem srt_map {α β κ : Type} {le : κ → κ → Bool} {k : α → κ} {l : β → κ} (t : TotO le) {f : α → β} (hk : ∀ a, l (f a) = k a) {xs : List α} (n : (xs.map k).Nodup) : srt le l (xs.map f) = (srt le k xs).map f := by
  have e : (xs.map f).map l = xs.map k := by
    rw [List.map_map]
    exact List.map_congr_left fun a _ => hk a
  refine (srt_one t (by rw [e]; exact n) ((srt_perm xs).map f) ?_).symm
  rw [List.pairwise_map]
  refine (srt_pw t xs).imp fun {a b} h => ?_
  rw [hk, hk]
  exact h
theorem risingS_pw : ∀ (p : Str) (l : List Str), risingS p l = true → (p :: l).Pairwise fun a b => leS a b = true
  | p, [], _ => List.pairwise_singleton _ _
  | p, x :: r, h => by
    have h' : (!ltCps x.cps.toList p.cps.toList) = true ∧ risingS x r = true := by simpa [risingS] using h
    have h1 : leS p x = true := by
      have := h'.1
      rw [ltCps_eq] at this
      exact this
    have ih := risingS_pw x r h'.2
    refine .cons (fun c hc => ?_) ih
    rcases List.mem_cons.mp hc with rfl | hc
    · exact h1
    · exact totS.tr _ _ _ h1 ((List.pairwise_cons.mp ih).1 c hc)
theorem sortedS_pw : ∀ (l : List Str), sortedS l = true → l.Pairwise fun a b => leS a b = true
  | [], _ => .nil
  | x :: r, h => risingS_pw x r h
theorem nd_key {α β : Type} {f : α → β} : ∀ {xs : List α} {x y : α}, (xs.map f).Nodup → x ∈ xs → y ∈ xs → f x = f y → x = y
  | z :: xs, x, y, n, hx, hy, e => by
    rw [List.map_cons, List.nodup_cons] at n
    rcases List.mem_cons.mp hx with ex | mx
    · rcases List.mem_cons.mp hy with ey | my
      · rw [ex, ey]
      · exact absurd (List.mem_map.mpr ⟨y, my, by rw [← e, ex]⟩) n.1
    · rcases List.mem_cons.mp hy with ey | my
      · exact absurd (List.mem_map.mpr ⟨x, mx, by rw [e, ey]⟩) n.1
      · exact nd_key n.2 mx my e
/-! dicts -/
section
variable {κ : Type} [DecidableEq κ]
theorem valV_mem {kvs : List (κ × V)} {k : κ} {v : V} (n : (kvs.map (·.1)).Nodup) (h : (k, v) ∈ kvs) : valV kvs k = some v := by
  induction kvs with
  | nil => exact absurd h List.not_mem_nil
  | cons p r ih =>
    rw [List.map_cons, List.nodup_cons] at n
    rcases List.mem_cons.mp h with rfl | h
    · exact valV_pos rfl
    · rw [valV_neg (fun e => n.1 (by rw [e]; exact List.mem_map.mpr ⟨_, h, rfl⟩))]
      exact ih n.2 h
theorem valV_none {kvs : List (κ × V)} {k : κ} (h : k ∉ kvs.map (·.1)) : valV kvs k = none := by
  induction kvs with
  | nil => rfl
  | cons p r ih =>
    rw [List.map_cons, List.mem_cons, not_or] at h
    rw [valV_neg (fun e => h.1 e.symm)]
    exact ih h.2
theorem putK_new {kvs : List (κ × V)} {k : κ} {v : V} (h : k ∉ kvs.map (·.1)) : putK kvs k v = kvs ++ [(k, v)] := by
  unfold putK
  rw [valV_any, valV_none h]
  rfl
theorem putK_keys {kvs : List (κ × V)} {k : κ} {v : V} : (putK kvs k v).map (·.1) = if k ∈ kvs.map (·.1) then kvs.map (·.1) else kvs.map (·.1) ++ [k] := by
  by_cases h : k ∈ kvs.map (·.1)
  · rw [if_pos h]
    unfold putK
    have : (kvs.any fun kv => decide (kv.1 = k)) = true := by
      obtain ⟨p, hp, e⟩ := List.mem_map.mp h
      exact List.any_eq_true.mpr ⟨p, hp, by simpa using e⟩
    rw [if_pos this, List.map_map]
    refine List.map_congr_left fun p _ => ?_
    simp only [Function.comp]
    split <;> rfl
  · rw [if_neg h, putK_new h]
    simp
theorem nd_snoc {α : Type} {xs : List α} {x : α} (n : xs.Nodup) (h : x ∉ xs) : (xs ++ [x]).Nodup := by
  rw [List.nodup_append]
  refine ⟨n, by simp, fun a ha b hb => ?_⟩
  rw [List.mem_singleton] at hb
  subst hb
  exact fun e => h (by rw [← e]; exact ha)
theorem putK_nd {kvs : List (κ × V)} {k : κ} {v : V} (n : (kvs.map (·.1)).Nodup) : ((putK kvs k v).map (·.1)).Nodup := by
  rw [putK_keys]
  split
  · exact n
  · exact nd_snoc n ‹_›
theorem putK_mem {kvs : List (κ × V)} {k : κ} {v : V} {p : κ × V} (h : p ∈ putK kvs k v) : p ∈ kvs ∨ p = (k, v) := by
  unfold putK at h
  split at h
  · obtain ⟨q, hq, rfl⟩ := List.mem_map.mp h
    split
    · rename_i e
      exact .inr (by rw [e])
    · exact .inl hq
  · rcases List.mem_append.mp h with h | h
    · exact .inl h
    · exact .inr (List.mem_singleton.mp h)
theorem putK_len {kvs : List (κ × V)} {k : κ} {v : V} : kvs.length ≤ (putK kvs k v).length ∧ (putK kvs k v).length ≤ kvs.length + 1 ∧ 1 ≤ (putK kvs k v).length := by
  have e : (putK kvs k v).length = ((putK kvs k v).map (·.1)).length := by simp
  have h := putK_keys (kvs := kvs) (k := k) (v := v)
  rw [e, h]
  split
  · rename_i hk
    have : 0 < (kvs.map (·.1)).length := List.length_pos_of_mem hk
    rw [List.length_map] at this ⊢
    omega
  · simp
end
theorem mergeK_nd : ∀ (more kvs : List (L2.Key × V)), ((kvs ++ more).map (·.1)).Nodup → mergeK kvs more = kvs ++ more
  | [], kvs, _ => by simp [mergeK]
  | p :: r, kvs, n => by
    have h : p.1 ∉ kvs.map (·.1) := by
      rw [List.map_append, List.nodup_append] at n
      intro h
      exact n.2.2 _ h p.1 (by simp) rfl
    show mergeK (putK kvs p.1 p.2) r = _
    rw [putK_new h, mergeK_nd r (kvs ++ [(p.1, p.2)]) (by simpa using n)]
    simp
/-! lists of texts -/
section
variable {K : PySem.W.Frag} {H : Hp}
theorem dp_strs : ∀ o : List Str, DpAll K H (o.map V.str) (o.map PyData.str)
  | [] => .nil
  | x :: o => .cons (.str x) (dp_strs o)
theorem strs_shaped {o : List Str} (h : ∀ s ∈ o, PyData.strOk s = true) : SeqAt.shaped (.list (o.map PyData.str)) = true := by
  have h1 : ∀ o : List Str, (∀ s ∈ o, PyData.strOk s = true) → PyData.canLayAll0 (o.map PyData.str) = true := fun o => by
    induction o with
    | nil => intro _; rfl
    | cons x o ih =>
      intro h
      simp [PyData.canLayAll0, PyData.canLay0, ih fun s hs => h s (by simp [hs]), h x (by simp)]
  have h2 : ∀ o : List Str, PyData.depthAll (o.map PyData.str) = 0 := fun o => by
    induction o with
    | nil => rfl
    | cons x o ih => simp [PyData.depthAll, PyData.depth, ih]
  show (PyData.canLay0 (.list (o.map PyData.str)) && decide (PyData.depth (.list (o.map PyData.str)) ≤ 64)) = true
  simp only [PyData.canLay0, PyData.depth, h1 o h, h2]
  rfl
theorem shaped_lay {d : PyData} (h : SeqAt.shaped d = true) : d.canLay0 = true := by
  have h' : (d.canLay0 && decide (d.depth ≤ 64)) = true := h
  rw [Bool.and_eq_true] at h'
  exact h'.1
/-- list of texts == list of texts, the same -/
theorem rd_eqS {a b : Addr} {xs : List Str} {Q : VK} (ha : H a = some (.lst (xs.map V.str))) (hb : H b = some (.lst (xs.map V.str))) (hx : ∀ s ∈ xs, PyData.strOk s = true) (q : Q (.bl true) H) : rEqG K (.ref a) (.ref b) H Q := by
  refine Or.inr ⟨_, _, .lst (.inl (.inl ha)) (dp_strs xs), .lst (.inl (.inl hb)) (dp_strs xs), strs_shaped hx, strs_shaped hx, ?_⟩
  rw [SeqAt.eqv_refl _ (shaped_lay (strs_shaped hx))]
  exact q
theorem inV_strs (x : Str) : ∀ xs : List Str, inV (.str x) (xs.map V.str) = decide (x ∈ xs)
  | [] => rfl
  | y :: ys => by
    have ih := inV_strs x ys
    unfold inV at ih ⊢
    rw [List.map_cons, List.any_cons, ih]
    simp only [eqV, List.mem_cons, Bool.decide_or]
    congr 1
    rw [Bool.eq_iff_iff, beq_iff_eq, decide_eq_true_iff]
    exact eq_comm
theorem flat_strs (xs : List Str) : (xs.map V.str).all flatV = true := by
  rw [List.all_map, List.all_eq_true]
  intro _ _
  rfl
/-- x not in a list of texts -/
theorem rd_notS {a : Addr} {xs : List Str} {x : Str} {Q : VK} (ha : H a = some (.lst (xs.map V.str))) (q : Q (.bl (!decide (x ∈ xs))) H) : rIn K true (.str x) (.ref a) H Q := by
  refine ⟨a, _, rfl, .inl (.inl (.inl ha)), rfl, flat_strs xs, ?_⟩
  rw [inV_strs]
  exact q
end
/-! d != {}, d == {} -/
section
variable {X : Cx}
def rNeE : R2 := fun x y H Q => ∃ (a b : Addr) (kvs : List (L2.Key × V)), x = .ref a ∧ y = .ref b ∧ H a = some (.dK kvs) ∧ H b = some (.dK []) ∧ Q (.bl (!kvs.isEmpty)) H
def rEqE : R2 := fun x y H Q => ∃ (a b : Addr) (kvs : List (L2.Key × V)), x = .ref a ∧ y = .ref b ∧ H a = some (.dK kvs) ∧ H b = some (.dK []) ∧ Q (.bl kvs.isEmpty) H
theorem op_neE (hu : X.A.units < cLine) : OpR X (compareOp .NotEq) rNeE := by
  intro pins s σ H x y v u Q I rx ry h
  obtain ⟨a, b, kvs, rfl, rfl, ea, eb, q⟩ := h
  cases kvs with
  | nil => exact op_ne_dictA hu pins s σ H _ _ v u Q I rx ry ⟨a, b, [], [], rfl, rfl, ea, eb, rfl, fun p hp => absurd hp List.not_mem_nil, q⟩
  | cons kv kvs =>
    obtain rfl : v = Value.ref a := rx
    obtain rfl : u = Value.ref b := ry
    obtain ⟨_, ya, va, ra, da⟩ := (show ObjOk X.prog X.w H s.heap a (.dK (kv :: kvs)) from I.hok a _ ea)
    obtain ⟨_, yb, vb, rb, db⟩ := (show ObjOk X.prog X.w H s.heap b (.dK []) from I.hok b _ eb)
    have hl : va.length ≠ vb.length := by rw [← ra.length, ← rb.length]; simp
    exact PySem.W.keq_ne (knd := mixKind X.prog X.w) (r := true) ya yb da db hu (fun h => absurd h hl) (fin_bl I q (by simp [hl]))
theorem op_eqE (hu : X.A.units < cLine) : OpR X (compareOp .Eq) rEqE := by
  intro pins s σ H x y v u Q I rx ry h
  obtain ⟨a, b, kvs, rfl, rfl, ea, eb, q⟩ := h
  cases kvs with
  | nil => exact op_eq_dictA hu pins s σ H _ _ v u Q I rx ry ⟨a, b, [], [], rfl, rfl, ea, eb, rfl, fun p hp => absurd hp List.not_mem_nil, q⟩
  | cons kv kvs =>
    obtain rfl : v = Value.ref a := rx
    obtain rfl : u = Value.ref b := ry
    obtain ⟨_, ya, va, ra, da⟩ := (show ObjOk X.prog X.w H s.heap a (.dK (kv :: kvs)) from I.hok a _ ea)
    obtain ⟨_, yb, vb, rb, db⟩ := (show ObjOk X.prog X.w H s.heap b (.dK []) from I.hok b _ eb)
    have hl : va.length ≠ vb.length := by rw [← ra.length, ← rb.length]; simp
    exact PySem.W.keq_eq (knd := mixKind X.prog X.w) (r := true) ya yb da db hu (fun h => absurd h hl) (fin_bl I q (by simp [hl]))
end
/-! heaps -/
section
variable {b p : Addr} {H H' : Hp} {o : HO}
theorem Dr.getK (d : Dr b H H') (hB : Bag H b) (h : H p = some o) (ho : ∀ xs, o ≠ .lst xs) : H' p = some o := by
  refine d.get ?_ h
  rintro rfl
  obtain ⟨xs, e⟩ := hB.lst
  rw [e] at h
  exact ho xs (Option.some.inj h).symm
theorem Mv.unlock {d : Addr} {u : HO} {od : Obj} (h : H d = some u) (hu : ∀ xs, u ≠ .tup xs) (hv : ∀ o xs, u ≠ .frz o (.tup xs)) (m : Mv [] (upd H d (.frz od u)) H') : Mv [] H (upd H' d u) := by
  refine ⟨fun a xs r => ?_, fun a o _ e => ?_⟩
  · have hd : a ≠ d := by
      rintro rfl
      rcases r with r | ⟨o, r⟩
      · rw [h] at r
        exact hu xs (Option.some.inj r)
      · rw [h] at r
        exact hv o xs (Option.some.inj r)
    have r' : Rd (upd H d (.frz od u)) a (.tup xs) := r.imp (fun r => by rw [upd_ne hd]; exact r) fun ⟨o, r⟩ => ⟨o, by rw [upd_ne hd]; exact r⟩
    exact (m.tk a xs r').imp (fun r => by rw [upd_ne hd]; exact r) fun ⟨o, r⟩ => ⟨o, by rw [upd_ne hd]; exact r⟩
  · by_cases hd : a = d
    · subst hd
      rw [upd_same, ← e, h]
    · rw [upd_ne hd]
      exact m.keep a o (by simp) (by rw [upd_ne hd]; exact e)
theorem Mv.put {d : Addr} {u o : HO} (h : H d = some u) (hu : ∀ xs, u ≠ .tup xs) (hv : ∀ o xs, u ≠ .frz o (.tup xs)) : Mv [d] H (upd H d o) := by
  refine ⟨fun a xs r => ?_, fun a o n e => ?_⟩
  · have hd : a ≠ d := by
      rintro rfl
      rcases r with r | ⟨o, r⟩
      · rw [h] at r
        exact hu xs (Option.some.inj r)
      · rw [h] at r
        exact hv o xs (Option.some.inj r)
    exact r.imp (fun r => by rw [upd_ne hd]; exact r) fun ⟨o, r⟩ => ⟨o, by rw [upd_ne hd]; exact r⟩
  · rw [upd_ne (fun z => n (by rw [z]; exact List.mem_singleton.mpr rfl))]
    exact e
theorem Mv.putD {d : Addr} {kvs : List (L2.Key × V)} {o : HO} (h : H d = some (.dK kvs)) : Mv [d] H (upd H d o) := .put h (fun _ z => by cases z) (fun _ _ z => by cases z)
theorem Mv.lock {d : Addr} {u : HO} {od : Obj} (h : H d = some u) (hu : ∀ xs, u ≠ .tup xs) (hv : ∀ o xs, u ≠ .frz o (.tup xs)) : Mv [d] H (upd H d (.frz od u)) := .put h hu hv
theorem slO_nolst {a C dx : Addr} {vs : List (Option V)} (xs : List V) : SlO a C dx vs ≠ .lst xs := fun z => by
  unfold SlO at z
  cases z
theorem Slt.mv {a C dx : Addr} {vs : List (Option V)} (h : Slt H a C dx vs) (m : Mv [] H H') : Slt H' a C dx vs := h.imp (fun h => ⟨m.same _ _ h.1, h.2⟩) fun h => ⟨m.same _ _ h.1, m.same _ _ h.2⟩
theorem Slt.dr {a C dx : Addr} {vs : List (Option V)} (h : Slt H a C dx vs) (d : Dr b H H') (hB : Bag H b) : Slt H' a C dx vs :=
  h.imp (fun h => ⟨d.getK hB h.1 (fun _ z => by cases z), h.2⟩) fun h => ⟨d.getK hB h.1 slO_nolst, d.getK hB h.2 (fun _ z => by cases z)⟩
end
/-! acts -/
structure ActR where
  nm : Str
  ar : Int
  outs : List (Str × Int)
/-- an act in a dict: its tuple at a, its outcomes at o -/
structure ActA where
  r : ActR
  a : Addr
  o : Addr
def ActA.kv (z : ActA) : L2.Key × V := (.inr z.r.nm, .ref z.a)
structure ActsAt (K : PySem.W.Frag) (H : Hp) (d : Addr) (zs : List ActA) : Prop where
  at_ : H d = some (.dK (zs.map ActA.kv))
  nd : (zs.map (·.r.nm)).Nodup
  tup : ∀ z ∈ zs, SqT K H z.a [.int z.r.ar, .ref z.o]
  out : ∀ z ∈ zs, H z.o = some (.dK (z.r.outs.map rowK))
  ond : ∀ z ∈ zs, (z.r.outs.map (·.1)).Nodup
section
variable {K : PySem.W.Frag} {H H' : Hp} {b d : Addr} {zs : List ActA}
theorem ActsAt.mv (h : ActsAt K H d zs) (m : Mv [] H H') : ActsAt K H' d zs := ⟨m.same _ _ h.at_, h.nd, fun z hz => m.sqT (h.tup z hz), fun z hz => m.same _ _ (h.out z hz), h.ond⟩
theorem ActsAt.dr (h : ActsAt K H d zs) (m : Dr b H H') (hB : Bag H b) : ActsAt K H' d zs :=
  ⟨m.getK hB h.at_ (fun _ z => by cases z), h.nd, fun z hz => m.mv.sqT (h.tup z hz), fun z hz => m.getK hB (h.out z hz) (fun _ z => by cases z), h.ond⟩
theorem kv_keys (zs : List ActA) : (zs.map ActA.kv).map (·.1) = (zs.map (·.r.nm)).map Sum.inr := by
  rw [List.map_map, List.map_map]
  rfl
theorem nd_inr {xs : List Str} (n : xs.Nodup) : (xs.map (Sum.inr : Str → L2.Key)).Nodup := by
  refine List.Pairwise.map _ (fun a b h => ?_) n
  exact fun e => h (Sum.inr.inj e)
theorem ActsAt.nk (h : ActsAt K H d zs) : ((zs.map ActA.kv).map (·.1)).Nodup := by
  rw [kv_keys]
  exact nd_inr h.nd
theorem ActsAt.val (h : ActsAt K H d zs) {z : ActA} (hz : z ∈ zs) : valV (zs.map ActA.kv) (.inr z.r.nm) = some (.ref z.a) := valV_mem h.nk (List.mem_map.mpr ⟨z, hz, rfl⟩)
theorem row_keys (rs : List (Str × Int)) : (rs.map rowK).map (·.1) = (rs.map (·.1)).map Sum.inr := by
  rw [List.map_map, List.map_map]
  rfl
theorem row_val {rs : List (Str × Int)} (n : (rs.map (·.1)).Nodup) {x : Str} {i : Int} (h : (x, i) ∈ rs) : valV (rs.map rowK) (.inr x) = some (.int i) :=
  valV_mem (by rw [row_keys]; exact nd_inr n) (List.mem_map.mpr ⟨(x, i), h, rfl⟩)
/-- behind a lock on d itself, or on another dict -/
theorem Dr.lst_ne {l : Addr} {xs : List V} (hB : Bag H b) (h : H l = some (.lst xs)) (hx : ∀ i, xs.getLast? ≠ some (.ref i)) : l ≠ b := by
  rintro rfl
  obtain ⟨c, s, m, k, ns, h1, _⟩ := hB
  rw [h1] at h
  have := Option.some.inj h
  injection this with this
  exact hx c (by rw [← this]; rfl)
end
def ActR.norm (r : ActR) : ActR := { r with outs := srt leS (·.1) r.outs }
def normW (rs : List ActR) : List ActR := srt leS (·.nm) (rs.map ActR.norm)
theorem paired_rows {K : PySem.W.Frag} {H : Hp} : ∀ (ps : List (Addr × Str × Int)), (∀ z ∈ ps, H z.1 = some (.tup [.str z.2.1, .int z.2.2])) → Paired (fun p (kv : L2.Key × V) => SqT K H p [kV kv.1, kv.2]) (ps.map (·.1)) ((ps.map (·.2)).map rowK)
  | [], _ => .nil
  | z :: ps, h => .cons (.inl (.inl (h z (by simp)))) (paired_rows ps fun y hy => h y (by simp [hy]))
/-- dict of the pairs of a list, in order by their texts -/
theorem srt_outs {rows qs : List (Str × Int)} (n : (rows.map (·.1)).Nodup) (p : qs.Perm rows) (s : qs.Pairwise fun e f => e.1.cps.toList < f.1.cps.toList) : qs = srt leS (·.1) rows :=
  srt_one totS n p (s.imp fun {a b} h => leS_iff.mpr (List.le_of_lt h))
/-- a World at x -/
def WldAt (K : PySem.W.Frag) (H : Hp) (C x : Addr) (rs : List ActR) : Prop := ∃ dx d zs, Slt H x C dx [some (.ref d)] ∧ ActsAt K H d zs ∧ zs.map (·.r) = rs
section
variable {K : PySem.W.Frag} {H H' : Hp} {b C x : Addr} {rs : List ActR}
theorem WldAt.mv (h : WldAt K H C x rs) (m : Mv [] H H') : WldAt K H' C x rs := by
  obtain ⟨dx, d, zs, h1, h2, h3⟩ := h
  exact ⟨dx, d, zs, Slt.mv h1 m, h2.mv m, h3⟩
theorem WldAt.dr (h : WldAt K H C x rs) (m : Dr b H H') (hB : Bag H b) : WldAt K H' C x rs := by
  obtain ⟨dx, d, zs, h1, h2, h3⟩ := h
  exact ⟨dx, d, zs, Slt.dr h1 m hB, h2.dr m hB, h3⟩
end
end Fm
namespace Fm
open PySem PySem.Spec PyProof.Rows L2 SlX
local macro_rules | `(tactic| walk_at "nn") => `(tactic| dsimp only [tC, tNil, tCons, tCB, tCall, gName, tSeq, tAsg, tPar, tDrop, tRet])
local macro_rules | `(tactic| walk_at "nc") => `(tactic| dsimp only [tC, tNil, tCons, tCB, tCall])
/-- a name of an outcome -/
def On (x : Str) : Prop := isOutc (.str x) = true ∧ x.length ≤ 9
theorem on_nm {x : Str} (h : Nm x) : On x := by
  refine ⟨?_, by have := h.2.1; omega⟩
  have hd : dashed x = false := by
    unfold dashed
    refine decide_eq_false fun e => ?_
    have h1 : 45 ∈ x.cps.toList := List.mem_of_mem_drop (i := x.length - 1) (by rw [e]; simp)
    have := h.2.2 45 h1
    omega
  simp only [isOutc]
  rw [hd]
  exact nmd_nm h
theorem on_ok {x : Str} (h : On x) : PyData.strOk x = true := by
  show x.cps.all (· < 0x110000) = true
  rw [Array.all_eq_true_iff_forall_mem]
  have low : ∀ z : Str, nmd z = true → ∀ c ∈ z.cps.toList, c < 0x110000 := fun z hz c hc => by
    unfold nmd at hz
    rw [Bool.and_eq_true, List.all_eq_true] at hz
    have := hz.2 c hc
    have k : ∀ c ∈ lettersS.cps.toList, c < 0x110000 := by decide +kernel
    exact k c (of_decide_eq_true this)
  intro c hc
  have hc' : c ∈ x.cps.toList := by simpa using hc
  have h1 := h.1
  simp only [isOutc] at h1
  simp only [decide_eq_true_eq]
  split at h1
  · rename_i hd
    have hd' : x.cps.toList.drop (x.length - 1) = [45] := of_decide_eq_true hd
    rw [← List.take_append_drop (x.length - 1) x.cps.toList, hd'] at hc'
    rcases List.mem_append.mp hc' with hc' | hc'
    · exact low _ h1 c (by simpa [initS] using hc')
    · rw [List.mem_singleton] at hc'
      omega
  · exact low x h1 c hc'
structure ActR.ok (r : ActR) : Prop where
  nm : Nm r.nm
  ar0 : 0 ≤ r.ar
  ar2 : r.ar ≤ 2
  o1 : 1 ≤ r.outs.length
  o6 : r.outs.length ≤ 6
  on : ∀ e ∈ r.outs, On e.1 ∧ 0 ≤ e.2 ∧ e.2 ≤ 2
theorem ActR.ok_norm {r : ActR} (h : r.ok) : r.norm.ok := ⟨h.nm, h.ar0, h.ar2, by simp only [ActR.norm]; rw [srt_len]; exact h.o1, by simp only [ActR.norm]; rw [srt_len]; exact h.o6, fun e he => h.on e (srt_mem.mp he)⟩
def within (m : Int) : Th → Bool
  | .int i => decide (0 ≤ i) && decide (i ≤ m)
  | _ => false
def sp_within (K : PySem.W.Frag) : Sp := fun vs H Q _ => ∃ (v : V) (t : Th) (b : Addr) (m : Int), vs = [v, .int m] ∧ Is K b H v t ∧ ∀ H', Mv [] H H' → Q (.bl (within m t)) H'
def sp_outs : Sp := fun vs H Q _ => ∃ (o : Addr) (rows : List (Str × Int)), vs = [.ref o] ∧ H o = some (.dK (rows.map rowK)) ∧ (rows.map (·.1)).Nodup ∧ 1 ≤ rows.length ∧ rows.length ≤ 6 ∧ (∀ e ∈ rows, On e.1 ∧ 0 ≤ e.2 ∧ e.2 ≤ 2) ∧ ∀ H', Mv [] H H' → Q (.bl true) H'
def sp_act (K : PySem.W.Frag) : Sp := fun vs H Q _ => ∃ (r : ActR) (a o : Addr), vs = [.ref a] ∧ SqT K H a [.int r.ar, .ref o] ∧ H o = some (.dK (r.outs.map rowK)) ∧ (r.outs.map (·.1)).Nodup ∧ r.ok ∧ ∀ H', Mv [] H H' → Q (.bl true) H'
theorem tyx_sqT {K : PySem.W.Frag} {H : Hp} {a : Addr} {xs : List V} (h : SqT K H a xs) : TyX K H (.ref a) (.type "tuple") := by
  rcases h with (hs | ⟨o, hs⟩) | ⟨o, its, n, hk, hc, _⟩
  · exact .base (.tup hs)
  · exact .fTuple hs
  · exact .kTuple hk hc
theorem hu1_of {k : Nat} {A : Around} (h : Room k A) : A.units + 1 < cLine := by
  have := hu65_of h
  omega
section
variable {P : Program} {w : World} {K : PySem.W.Frag} {mg : Str → Option Value} {base : Heap}
theorem ok_is_within (T : TX K mg) {k : Nat} : FnOk P w K mg base CX0 (k + 2) T.d_is_within.f T.d_is_within.fd P_is_within (sp_within K) := by
  have G_is_integer : FnOk P w K mg base CX0 1 T.d_is_integer.f T.d_is_integer.fd P_is_integer (sp_kind K isWhole) := ok_is_integer T
  refine T.d_is_within.F.ok sc_is_within (fun vs H Q E h => ?_) (fun cdv A outer s H vs Q E hr h => ?_)
  · obtain ⟨_, _, _, _, rfl, _⟩ := h
    rfl
  · obtain ⟨v, t, b, m, rfl, hv, q⟩ := h
    refine ⟨_, (pss_one (ps_ret (pe_and (pe_call G_is_integer (hr.mono (by omega)) rfl T.d_is_integer.g T.d_is_integer.F.kp T.d_is_integer.b .nil pass0 (pa_cons (pv 0) pa_nil)) (pe_one (pe_chain op_le op_le pe_int (pv 0) (pv 1)))))), ?_⟩
    refine ⟨v, rfl, v, t, b, rfl, hv, fun H1 m1 => ⟨_, rfl, ?_⟩⟩
    cases t with
    | int i =>
      cases (show v = V.int i from hv)
      refine ⟨.int i, rfl, 0, i, rfl, rfl, _, rfl, ite2 (fun e => ?_) (fun e => ?_)⟩
      · refine ⟨.int m, rfl, i, m, rfl, rfl, ?_⟩
        have := q H1 m1
        simp only [within] at this
        rw [show decide (0 ≤ i) = true from e] at this
        exact this
      · have := q H1 m1
        simp only [within] at this
        rw [show decide (0 ≤ i) = false by simpa using e] at this
        exact this
    | bl c => exact q H1 m1
    | non => exact q H1 m1
    | str x => exact q H1 m1
    | tup ts => exact q H1 m1
    | lst => exact q H1 m1
    | dct => exact q H1 m1
theorem ok_are_outcomes (T : TX K mg) {k : Nat} : FnOk P w K mg base CX0 (k + 3) T.d_are_outcomes.f T.d_are_outcomes.fd P_are_outcomes sp_outs := by
  have G_is_outcome : FnOk P w K mg base CX0 2 T.d_is_outcome.f T.d_is_outcome.fd P_is_outcome (sp_kind K isOutc) := ok_is_outcome T
  have G_is_within : FnOk P w K mg base CX0 2 T.d_is_within.f T.d_is_within.fd P_is_within (sp_within K) := ok_is_within T
  refine T.d_are_outcomes.F.ok sc_are_outcomes (fun vs H Q E h => ?_) (fun cdv A outer s H vs Q E hr h => ?_)
  · obtain ⟨_, _, rfl, _⟩ := h
    rfl
  · obtain ⟨o, rows, rfl, ho, hnd, h1, h6, hon, q⟩ := h
    have hu65 := hu65_of hr
    have hu1 := hu1_of hr
    refine ⟨_, (pss_cons (ps_if (PW.pt (pw_or (pt_not (pt_val (pe_callB (r := rIsi K) call_isi (by rfl) T.b_isinstance bt_isinstance (pa_cons (pv 0) (pa_cons (pe_ty T.b_dict bt_dict) pa_nil))))) (pw_or1 (pt_not (pt_chain op_le op_le pe_int (pe_callB (r := rLenG K) call_lenG (by rfl) T.b_len bt_len (pa_cons (pv 0) pa_nil)) (pe_glob rfl T.c_MOST_OUTCOMES T.r_MOST_OUTCOMES)))))) (pss_one (ps_ret pe_bl)) pss_nil) (pss_one (ps_ret (pe_callB (r := rAll K) (cr_all rfl) (by rfl) T.b_all bt_all (pa_cons (pe_lock (pe_lc (own := [("outcome", 1)]) (g := gName 1) (by rfl) sc_are_outcomes.nd (pi_keys (pv 0)) (blkOk_by (own := [("outcome", 1)]) (N := N_are_outcomes) (sc := defScope s_are_outcomes) (by decide +kernel)) (fun _ _ _ _ _ => pg_name (i := 1) sc_are_outcomes.nd rfl (Or.inl rfl)) (fun _ _ _ _ _ => pts_nil) (fun _ _ _ _ _ => (pe_and (pe_call G_is_outcome (hr.mono (by omega)) rfl T.d_is_outcome.g T.d_is_outcome.F.kp T.d_is_outcome.b .nil pass0 (pa_cons (pv 1) pa_nil)) (pe_one (pe_call G_is_within (hr.mono (by omega)) rfl T.d_is_within.g T.d_is_within.F.kp T.d_is_within.b .nil pass0 (pa_cons (pe_dget hu1 (pv 0) (pv 1) (fun _ _ => rfl)) (pa_cons (pe_glob rfl T.c_MOST_BROUGHT T.r_MOST_BROUGHT) pa_nil)))))))) pa_nil))))), ?_⟩
    refine ⟨.ref o, rfl, ?_⟩
    walk_at "nn"
    refine ⟨_, _, _, _, true, rfl, .ty "dict", .base (.dK ho), kit_ty (by decide +kernel), ?_⟩
    refine ⟨_, rfl, ?_⟩
    refine ⟨.ref o, rfl, ?_⟩
    walk_at "nc"
    refine Or.inr (Or.inr ⟨o, _, rfl, ho, 1, _, rfl, rfl, _, rfl, ?_⟩)
    have hln : (rows.map rowK).length = rows.length := List.length_map _
    rw [hln, show decide ((1 : Int) ≤ ((rows.length : Nat) : Int)) = true from decide_eq_true (by omega)]
    refine ⟨_, 6, rfl, rfl, _, rfl, ?_⟩
    rw [show decide (((rows.length : Nat) : Int) ≤ 6) = true from decide_eq_true (by omega)]
    refine ⟨o, _, ho, trivial, fun od => ?_⟩
    have m0 := Mv.lock (od := od) ho (fun _ z => by cases z) (fun _ _ z => by cases z)
    have e0 : upd H o (.frz od (.dK (rows.map rowK))) o = some (.frz od (.dK (rows.map rowK))) := upd_same
    have un : ∀ H', Mv [] (upd H o (.frz od (.dK (rows.map rowK)))) H' → Mv [] H (upd H' o (.dK (rows.map rowK))) := fun H' m => Mv.unlock ho (fun _ z => by cases z) (fun _ _ z => by cases z) m
    generalize upd H o (.frz od (.dK (rows.map rowK))) = H1 at m0 e0 un ⊢
    refine ⟨.ref o, rfl, o, od, rfl, Or.inl ⟨_, e0, fun D nD => ?_⟩⟩
    refine lc_it walk_keys (fun i H2 => H2 D = some (.lst ((List.replicate i true).map V.bl)) ∧ Mv [] H1 H2) ⟨upd_same, .new nD⟩ (fun i H2 _ h2 => h2.2.same _ _ e0) (fun i x H2 H3 hi h2 y => ?_) (fun H2 h2 => ?_)
    · obtain ⟨e2, m2⟩ := h2
      obtain ⟨rfl, k, v, hk, rfl⟩ := y
      rw [List.getElem?_map] at hk
      obtain ⟨e, he, hk⟩ := Option.map_eq_some_iff.mp hk
      obtain ⟨rfl, rfl⟩ := Prod.mk.inj hk
      have hm := List.mem_of_getElem? he
      obtain ⟨o1, o2, o3⟩ := hon e hm
      refine ⟨rfl, ?_⟩
      refine ⟨.str e.1, rfl, .str e.1, .str e.1, o, rfl, ⟨rfl, by have := o1.2; omega⟩, fun H4 m4 => ?_⟩
      rw [o1.1]
      refine ⟨_, rfl, ?_⟩
      have m14 := m2.trans m4
      refine ⟨.ref o, rfl, .str e.1, rfl, o, .int e.2, rfl, Or.inl ⟨_, .inr e.1, .inr ⟨od, m14.same _ _ e0⟩, rfl, (row_val hnd hm).symm⟩, ?_⟩
      refine ⟨.int e.2, .int e.2, o, 2, rfl, rfl, fun H5 m5 => ?_⟩
      rw [show within 2 (.int e.2) = true by simp [within, o2, o3]]
      have m15 := m14.trans m5
      refine ⟨_, m5.same _ _ (m4.same _ _ e2), ?_, ?_, ?_⟩
      · rw [List.length_map, List.length_replicate]
        have : i < rows.length := by rw [hln] at hi; exact hi
        exact Nat.lt_of_le_of_lt (show i ≤ 10 by omega) (by decide)
      · rw [upd_same, List.replicate_succ', List.map_append]
        rfl
      · exact m15.wr nD
    · obtain ⟨e2, m2⟩ := h2
      refine ⟨m2.same _ _ e0, D, List.replicate (rows.map rowK).length true, rfl, .inl (.inl ?_), ?_⟩
      · rw [upd_ne (by rintro rfl; rw [e0] at nD; cases nD)]
        exact e2
      · rw [show (List.replicate (rows.map rowK).length true).all id = true by simp]
        exact q _ (un H2 m2)
theorem ok_is_act (T : TX K mg) {k : Nat} : FnOk P w K mg base CX0 (k + 4) T.d_is_act.f T.d_is_act.fd P_is_act (sp_act K) := by
  have G_are_outcomes : FnOk P w K mg base CX0 3 T.d_are_outcomes.f T.d_are_outcomes.fd P_are_outcomes sp_outs := ok_are_outcomes T
  have G_is_within : FnOk P w K mg base CX0 2 T.d_is_within.f T.d_is_within.fd P_is_within (sp_within K) := ok_is_within T
  refine T.d_is_act.F.ok sc_is_act (fun vs H Q E h => ?_) (fun cdv A outer s H vs Q E hr h => ?_)
  · obtain ⟨_, _, _, rfl, _⟩ := h
    rfl
  · obtain ⟨r, a, o, rfl, ha, ho, hnd, hok, q⟩ := h
    have hu64 := hr.units
    refine ⟨_, (pss_cons (ps_if (PW.pt (pw_or (pt_not (pt_val (pe_callB (r := rIsi K) call_isi (by rfl) T.b_isinstance bt_isinstance (pa_cons (pv 0) (pa_cons (pe_ty T.b_tuple bt_tuple) pa_nil))))) (pw_or1 (pt_cmpR (r := rNeG K) (op_neG hu64) (pe_callB (r := rLenG K) call_lenG (by rfl) T.b_len bt_len (pa_cons (pv 0) pa_nil)) pe_int (nomark _))))) (pss_one (ps_ret pe_bl)) pss_nil) (pss_one (ps_ret (pe_and (pe_call G_is_within (hr.mono (by omega)) rfl T.d_is_within.g T.d_is_within.F.kp T.d_is_within.b .nil pass0 (pa_cons (pe_ix (r := rIx K) ix_seq (pv 0) pe_int (fun _ _ => rfl)) (pa_cons (pe_glob rfl T.c_MOST_ARGUMENTS T.r_MOST_ARGUMENTS) pa_nil))) (pe_one (pe_call G_are_outcomes (hr.mono (by omega)) rfl T.d_are_outcomes.g T.d_are_outcomes.F.kp T.d_are_outcomes.b .nil pass0 (pa_cons (pe_ix (r := rIx K) ix_seq (pv 0) pe_int (fun _ _ => rfl)) pa_nil))))))), ?_⟩
    refine ⟨.ref a, rfl, ?_⟩
    walk_at "nn"
    refine ⟨_, _, _, _, true, rfl, .ty "tuple", tyx_sqT ha, kit_ty (by decide +kernel), ?_⟩
    refine ⟨_, rfl, ?_⟩
    refine ⟨.ref a, rfl, ?_⟩
    walk_at "nc"
    refine rd_len (.inr ha) (Or.inl ⟨rfl, _, rfl, ?_⟩)
    refine ⟨.ref a, rfl, rd_ixT ha (by decide) (v := .int r.ar) rfl ?_⟩
    refine ⟨.int r.ar, .int r.ar, o, 2, rfl, rfl, fun H1 m1 => ?_⟩
    rw [show within 2 (.int r.ar) = true by simp [within, hok.ar0, hok.ar2]]
    refine ⟨_, rfl, ?_⟩
    refine ⟨.ref a, rfl, rd_ixT (m1.sqT ha) (by decide) (v := .ref o) rfl ?_⟩
    exact ⟨o, r.outs, rfl, m1.same _ _ ho, hnd, hok.o1, hok.o6, hok.on, fun H2 m2 => q H2 (m1.trans m2)⟩
end
end Fm
namespace Fm
open PySem PySem.Spec PyProof.Rows L2 SlX
local macro_rules | `(tactic| walk_at "nn") => `(tactic| dsimp only [tC, tNil, tCons, tCB, tCall, gName, tSeq, tAsg, tPar, tDrop, tRet])
local macro_rules | `(tactic| walk_at "nc") => `(tactic| dsimp only [tC, tNil, tCons, tCB, tCall])
/-- a World whose dicts are new -/
def WldF (K : PySem.W.Frag) (H0 H : Hp) (C x : Addr) (rs : List ActR) : Prop := ∃ dx d zs, Slt H x C dx [some (.ref d)] ∧ ActsAt K H d zs ∧ zs.map (·.r) = rs ∧ H0 d = none ∧ ∀ z ∈ zs, H0 z.o = none
theorem WldF.at_ {K : PySem.W.Frag} {H0 H : Hp} {C x : Addr} {rs : List ActR} (h : WldF K H0 H C x rs) : WldAt K H C x rs := by
  obtain ⟨dx, d, zs, h1, h2, h3, _⟩ := h
  exact ⟨dx, d, zs, h1, h2, h3⟩
/-- World(d), d a dict of acts -/
def sp_World (K : PySem.W.Frag) (C : Addr) : Sp := fun vs H Q _ => ∃ (x dx d : Addr) (zs : List ActA) (H0 : Hp), vs = [.ref x, .ref d] ∧ H = upd (upd H0 dx (.own x)) x (.ins C dx []) ∧ H0 x = none ∧ H0 dx = none ∧ dx ≠ x ∧ ActsAt K H0 d zs ∧ (∀ z ∈ zs, z.r.ok) ∧ zs.length < 60 ∧
  ∀ H', Mv [] H0 H' → WldF K H0 H' C x (normW (zs.map (·.r))) → Q .non H'
section
variable {P : Program} {w : World} {K : PySem.W.Frag} {mg : Str → Option Value} {base : Heap}
theorem ok_World___init__ (T : TX K mg) {k : Nat} : FnOk P w K mg base CX0 (k + 5) T.d_World___init__.f T.d_World___init__.fd P_World___init__ (sp_World K T.C_World) := by
  have G_is_name : FnOk P w K mg base CX0 1 T.d_is_name.f T.d_is_name.fd P_is_name (sp_kind K isNamed) := ok_is_name T
  have G_is_act : FnOk P w K mg base CX0 4 T.d_is_act.f T.d_is_act.fd P_is_act (sp_act K) := ok_is_act T
  refine T.d_World___init__.F.ok sc_World___init__ (fun vs H Q E h => ?_) (fun cdv A outer s H vs Q E hr h => ?_)
  · obtain ⟨_, _, _, _, _, rfl, _⟩ := h
    rfl
  · obtain ⟨x, dx, d, zs, H0, rfl, eH, nx, ndx, hne, hA0, hok, hfew, q⟩ := h
    have hu1 := hu1_of hr
    refine ⟨_, (pss_cons (ps_if (PW.pt (pw_or (pt_not (pt_val (pe_callB (r := rIsi K) call_isi (by rfl) T.b_isinstance bt_isinstance (pa_cons (pv 1) (pa_cons (pe_ty T.b_dict bt_dict) pa_nil))))) (pw_or1 (pt_not (pt_val (pe_callB (r := rAll K) (cr_all rfl) (by rfl) T.b_all bt_all (pa_cons (pe_lock (pe_lc (own := [("name", 2)]) (g := gName 2) (by rfl) sc_World___init__.nd (pi_keys (pv 1)) (blkOk_by (own := [("name", 2)]) (N := N_World___init__) (sc := defScope s_World___init__) (by decide +kernel)) (fun _ _ _ _ _ => pg_name (i := 2) sc_World___init__.nd rfl (Or.inl rfl)) (fun _ _ _ _ _ => pts_nil) (fun _ _ _ _ _ => (pe_call G_is_name (hr.mono (by omega)) rfl T.d_is_name.g T.d_is_name.F.kp T.d_is_name.b .nil pass0 (pa_cons (pv 2) pa_nil))))) pa_nil))))))) (pss_one ps_never) pss_nil) (pss_cons (ps_for PassesOwn.never rfl (pi_seq (pe_callB (r := rSortA K) (cr_sortA rfl) (by rfl) T.b_sorted bt_sorted (pa_cons (pv 1) pa_nil))) (pg_name (i := 2) sc_World___init__.nd rfl (Or.inl rfl)) (pss_one (ps_if (pt_not (pt_val (pe_call G_is_act (hr.mono (by omega)) rfl T.d_is_act.g T.d_is_act.F.kp T.d_is_act.b .nil pass0 (pa_cons (pe_dget hu1 (pv 1) (pv 2) (fun _ _ => rfl)) pa_nil)))) (pss_one ps_never) pss_nil))) (pss_one (ps_sl (pv 0) (pe_dc rfl (own := [("name", 2)]) (g := gName 2) sc_World___init__.nd (pi_seq (pe_callB (r := rSortA K) (cr_sortA rfl) (by rfl) T.b_sorted bt_sorted (pa_cons (pv 1) pa_nil))) (blkOk_by (own := [("name", 2)]) (N := N_World___init__) (sc := defScope s_World___init__) (by decide +kernel)) (fun _ _ _ _ _ => pg_name (i := 2) sc_World___init__.nd rfl (Or.inl rfl)) (fun _ _ _ _ _ => pts_nil) (fun _ _ _ _ _ => (pv 2)) (fun _ _ _ _ _ => (pe_tup (pa_cons (pe_ix (r := rIx K) ix_seq (pe_dget hu1 (pv 1) (pv 2) (fun _ _ => rfl)) pe_int (fun _ _ => rfl)) (pa_cons (pe_callTy (r := rDictG K) (call_dictG rfl) (by rfl) T.b_dict bt_dict (pa_cons (pe_callB (r := rSortSI) (cr_sortSI rfl) (by rfl) T.b_sorted bt_sorted (pa_cons (pe_bm0C (K := K) rfl PySem.F.plainAttrs_dict PySem.F.slot_dict_items PySem.F.type_dict_items mt_itemsK (pe_ix (r := rIx K) ix_seq (pe_dget hu1 (pv 1) (pv 2) (fun _ _ => rfl)) pe_int (fun _ _ => rfl))) pa_nil)) pa_nil)) pa_nil))))))))), ?_⟩
    have mH : Mv [] H0 H := by
      rw [eH]
      exact (Mv.new ndx).wr nx
    have hx : H x = some (.ins T.C_World dx []) := by rw [eH]; exact upd_same
    have hdx : H dx = some (.own x) := by rw [eH, upd_ne hne]; exact upd_same
    have hA := hA0.mv mH
    have hd := hA.at_
    clear eH
    refine ⟨.ref d, rfl, ?_⟩
    walk_at "nn"
    refine ⟨_, _, _, _, true, rfl, .ty "dict", .base (.dK hd), kit_ty (by decide +kernel), ?_⟩
    refine ⟨_, rfl, ?_⟩
    refine ⟨d, _, hd, trivial, fun od => ?_⟩
    have e0 : upd H d (.frz od (.dK (zs.map ActA.kv))) d = some (.frz od (.dK (zs.map ActA.kv))) := upd_same
    have un : ∀ H', Mv [] (upd H d (.frz od (.dK (zs.map ActA.kv)))) H' → Mv [] H (upd H' d (.dK (zs.map ActA.kv))) := fun H' m => Mv.unlock hd (fun _ z => by cases z) (fun _ _ z => by cases z) m
    generalize upd H d (.frz od (.dK (zs.map ActA.kv))) = H1 at e0 un ⊢
    refine ⟨.ref d, rfl, d, od, rfl, Or.inl ⟨_, e0, fun D nD => ?_⟩⟩
    refine lc_it walk_keys (fun i H2 => H2 D = some (.lst ((List.replicate i true).map V.bl)) ∧ Mv [] H1 H2) ⟨upd_same, .new nD⟩ (fun i H2 _ h2 => h2.2.same _ _ e0) (fun i y H2 H3 hi h2 yy => ?_) (fun H2 h2 => ?_)
    · obtain ⟨e2, m2⟩ := h2
      obtain ⟨rfl, k, v, hk, rfl⟩ := yy
      rw [List.getElem?_map] at hk
      obtain ⟨z, he, hk⟩ := Option.map_eq_some_iff.mp hk
      obtain ⟨rfl, rfl⟩ := Prod.mk.inj hk
      have hm := List.mem_of_getElem? he
      have o1 := (hok z hm).nm
      refine ⟨rfl, ?_⟩
      refine ⟨.str z.r.nm, rfl, .str z.r.nm, .str z.r.nm, d, rfl, ⟨rfl, by have := o1.2.1; omega⟩, fun H4 m4 => ?_⟩
      rw [show isNamed (.str z.r.nm) = true from nmd_nm o1]
      refine ⟨_, m4.same _ _ e2, ?_, ?_, (m2.trans m4).wr nD⟩
      · rw [List.length_map, List.length_replicate]
        have : i < zs.length := by rw [List.length_map] at hi; exact hi
        exact Nat.lt_of_le_of_lt (show i ≤ 100 by omega) (by decide)
      · rw [upd_same, List.replicate_succ', List.map_append]
        rfl
    · obtain ⟨e2, m2⟩ := h2
      refine ⟨m2.same _ _ e0, D, List.replicate (zs.map ActA.kv).length true, rfl, .inl (.inl ?_), ?_⟩
      · rw [upd_ne (by rintro rfl; rw [e0] at nD; cases nD)]
        exact e2
      · rw [show (List.replicate (zs.map ActA.kv).length true).all id = true by simp]
        have m3 := un H2 m2
        generalize upd H2 d (.dK (zs.map ActA.kv)) = H3 at m3 ⊢
        have hd3 := m3.same _ _ hd
        have hA3 := hA.mv m3
        have hlz : (zs.map (·.r.nm)).length < 64 := by rw [List.length_map]; omega
        refine ⟨_, rfl, ?_⟩
        refine ⟨.ref d, rfl, Or.inl ⟨d, _, zs.map (·.r.nm), rfl, .inl hd3, kv_keys zs, hlz, fun ys p hp hs np => ⟨p, rfl, ?_⟩⟩⟩
        have hys := srt_keys totS hA.nd hp (sortedS_pw ys hs)
        generalize hss : srt leS (fun z : ActA => z.r.nm) zs = ss at hys
        subst hys
        refine for_seq (xs := (ss.map (·.r.nm)).map V.str) (.inl (.inl (.inl upd_same))) (fun i σ H4 => ∃ y, σ = [some (.ref x), some (.ref d), y] ∧ Mv [] (upd H3 p (.lst ((ss.map (·.r.nm)).map V.str))) H4)
          ⟨none, rfl, .refl⟩ (fun i σ H4 h4 => h4.choose_spec.2) (fun i y σ H4 hy h4 => ?_) (fun σ H4 h4 => ?_)
        · obtain ⟨y0, rfl, m4⟩ := h4
          rw [List.getElem?_map, List.getElem?_map, Option.map_map] at hy
          obtain ⟨z, hz, rfl⟩ := Option.map_eq_some_iff.mp hy
          have hzs : z ∈ zs := by rw [← srt_mem (le := leS) (k := fun z : ActA => z.r.nm), hss]; exact List.mem_of_getElem? hz
          have hA4 := hA3.mv ((Mv.new np).trans m4)
          refine ⟨.ref d, rfl, .str z.r.nm, rfl, d, .ref z.a, rfl, Or.inl ⟨_, .inr z.r.nm, .inl hA4.at_, rfl, (hA4.val hzs).symm⟩, ?_⟩
          refine ⟨z.r, z.a, z.o, rfl, hA4.tup z hzs, hA4.out z hzs, hA4.ond z hzs, hok z hzs, fun H5 m5 => ?_⟩
          exact ⟨_, rfl, _, rfl, m4.trans m5⟩
        · obtain ⟨y0, rfl, m4⟩ := h4
          have m34 := (Mv.new np).trans m4
          have hA4 := hA3.mv m34
          have nss : (ss.map (·.r.nm)).Nodup := by rw [← hss]; exact srt_nd hA.nd
          have hsub : ∀ z ∈ ss, z ∈ zs := fun z hz => by rw [← srt_mem (le := leS) (k := fun z : ActA => z.r.nm), hss]; exact hz
          have hls : ss.length < 60 := by rw [← hss, srt_len]; exact hfew
          refine ⟨.ref d, rfl, Or.inl ⟨d, _, zs.map (·.r.nm), rfl, .inl hA4.at_, kv_keys zs, hlz, fun ys2 p2 hp2 hs2 np2 => ⟨p2, rfl, Or.inl ⟨⟨_, .inl (.inl upd_same)⟩, fun D nD => ?_⟩⟩⟩⟩
          have hys2 := srt_keys totS hA.nd hp2 (sortedS_pw ys2 hs2)
          rw [hss] at hys2
          subst hys2
          have e6 : upd H4 p2 (.lst ((ss.map (·.r.nm)).map V.str)) p2 = some (.lst ((ss.map (·.r.nm)).map V.str)) := upd_same
          have m46 : Mv [] H4 (upd H4 p2 (.lst ((ss.map (·.r.nm)).map V.str))) := .new np2
          generalize upd H4 p2 (.lst ((ss.map (·.r.nm)).map V.str)) = H6 at e6 m46 nD ⊢
          have hA6 := hA4.mv m46
          refine dc_it walk_list (fun i H7 => ∃ ws : List ActA, H7 D = some (.dK (ws.map ActA.kv)) ∧ ws.map (·.r) = (ss.take i).map (·.r.norm) ∧ (∀ w ∈ ws, SqT K H7 w.a [.int w.r.ar, .ref w.o] ∧ H7 w.o = some (.dK (w.r.outs.map rowK)) ∧ w.o ≠ D ∧ H6 w.o = none) ∧ Mv [] H6 H7)
            ⟨[], upd_same, by simp, fun _ h => absurd h List.not_mem_nil, .new nD⟩ (fun i H7 _ h7 => .inl (.inl (h7.choose_spec.2.2.2.same _ _ e6))) (fun i y H7' H7 hi h7 yy => ?_) (fun H7 h7 => ?_)
          · obtain ⟨ws, e7, r7, c7, m7⟩ := h7
            obtain ⟨rfl, hy⟩ := yy
            rw [List.getElem?_map, List.getElem?_map, Option.map_map] at hy
            obtain ⟨z, hz, rfl⟩ := Option.map_eq_some_iff.mp hy
            have hzs := hsub z (List.mem_of_getElem? hz)
            have hA7 := hA6.mv m7
            refine ⟨rfl, .str z.r.nm, rfl, ?_⟩
            refine ⟨.ref d, rfl, .str z.r.nm, rfl, d, .ref z.a, rfl, Or.inl ⟨_, .inr z.r.nm, .inl hA7.at_, rfl, (hA7.val hzs).symm⟩, ?_⟩
            refine rd_ixT (hA7.tup z hzs) (by decide) (v := .int z.r.ar) rfl ?_
            refine ⟨.ref d, rfl, .str z.r.nm, rfl, d, .ref z.a, rfl, Or.inl ⟨_, .inr z.r.nm, .inl hA7.at_, rfl, (hA7.val hzs).symm⟩, ?_⟩
            refine rd_ixT (hA7.tup z hzs) (by decide) (v := .ref z.o) rfl ?_
            refine ⟨.inr (.inr (.inl ⟨rfl, .inl ⟨_, hA7.out z hzs⟩⟩)), z.o, _, rfl, rfl, hA7.out z hzs, fun p8 np8 => ?_⟩
            have hzo : z.o ≠ p8 := ne_of_none (hA7.out z hzs) np8
            refine ⟨p8, z.o, z.r.outs, rfl, upd_same, by rw [upd_ne hzo]; exact hA7.out z hzs, fun H9 l ps k9 nl hpm hpw hl hps => ?_⟩
            have hqs := srt_outs (hA7.ond z hzs) hpm hpw
            have m79 : Mv [] H7 H9 := (Mv.new np8).trans (.of_same k9)
            refine Or.inl ⟨l, ps.map (·.1), (ps.map (·.2)).map rowK, rfl, .inl (.inl (by rw [hl, List.map_map]; rfl)), paired_rows ps hps, fun p10 np10 => ?_⟩
            rw [mergeK_nd _ _ (by rw [List.nil_append, row_keys, hqs]; exact nd_inr (srt_nd (hA7.ond z hzs))), List.nil_append, hqs]
            have m710 := m79.trans (Mv.new (o := .dK ((srt leS (·.1) z.r.outs).map rowK)) np10)
            have e10 : upd H9 p10 (.dK ((srt leS (·.1) z.r.outs).map rowK)) p10 = some (.dK ((srt leS (·.1) z.r.outs).map rowK)) := upd_same
            have hpD : p10 ≠ D := (ne_of_none (m79.same _ _ e7) np10).symm
            have fp10 : H6 p10 = none := (m7.trans m79).free np10
            generalize upd H9 p10 (.dK ((srt leS (·.1) z.r.outs).map rowK)) = H10 at m710 e10 ⊢
            refine ⟨(by decide : 2 ≤ sizeLine), fun p11 np11 => ⟨ws.map ActA.kv, .inr z.r.nm, rfl, ?_, ?_, ?_⟩⟩
            · exact same_new np11 _ _ (m710.same _ _ e7)
            · have : ws.length = (ss.take i).length := by
                have := congrArg List.length r7
                rwa [List.length_map, List.length_map] at this
              rw [List.length_map, this, List.length_take]
              exact Nat.lt_of_le_of_lt (show min i ss.length ≤ 100 by omega) (by decide)
            · have hnew : (.inr z.r.nm : L2.Key) ∉ (ws.map ActA.kv).map (·.1) := by
                rw [kv_keys, show ws.map (fun z : ActA => z.r.nm) = (ss.take i).map (fun z : ActA => z.r.nm) by
                  have := congrArg (List.map ActR.nm) r7
                  rw [List.map_map, List.map_map] at this
                  exact this]
                intro hmem
                obtain ⟨nm, hnm, he⟩ := List.mem_map.mp hmem
                cases he
                have hi' : i < ss.length := (List.getElem?_eq_some_iff.mp hz).1
                have n2 := nss
                rw [show ss = ss.take i ++ z :: ss.drop (i + 1) by rw [← (List.getElem?_eq_some_iff.mp hz).2, List.getElem_cons_drop, List.take_append_drop], List.map_append, List.nodup_append] at n2
                exact n2.2.2 _ hnm z.r.nm (by simp) rfl
              rw [putK_new hnew]
              have hD11 : upd H10 p11 (.tup [.int z.r.ar, .ref p10]) D = some (.dK (ws.map ActA.kv)) := same_new np11 _ _ (m710.same _ _ e7)
              have hm11 := Mv.putD (o := .dK (ws.map ActA.kv ++ [(.inr z.r.nm, .ref p11)])) hD11
              have m711 : Mv [] H7 (upd H10 p11 (.tup [.int z.r.ar, .ref p10])) := m710.trans (.new np11)
              refine ⟨ws ++ [⟨z.r.norm, p11, p10⟩], ?_, ?_, ?_, (m7.trans m711).wr nD⟩
              · rw [upd_same, List.map_append]
                rfl
              · rw [List.map_append, r7, List.take_add_one, hz]
                simp
              · intro w hw
                rcases List.mem_append.mp hw with hw | hw
                · obtain ⟨h1, h2, h3, h4⟩ := c7 w hw
                  exact ⟨hm11.sqT (m711.sqT h1), hm11.keep _ _ (by simpa using h3) (m711.same _ _ h2), h3, h4⟩
                · rw [List.mem_singleton] at hw
                  subst hw
                  refine ⟨hm11.sqT (.inl (.inl upd_same)), hm11.keep _ _ (by simpa using hpD) (same_new np11 _ _ e10), hpD, fp10⟩
          · obtain ⟨ws, e7, r7, c7, m7⟩ := h7
            have m37 := m34.trans (m46.trans m7)
            have mH7 := m3.trans m37
            refine ⟨.ref x, rfl, x, T.C_World, dx, T.p_World_its_acts, [], 0, rfl, Or.inl ⟨mH7.same _ _ hx, rfl⟩, T.c_World, T.sl_World_its_acts, ?_⟩
            have hxD : x ≠ D := by rintro rfl; rw [mH7.same _ _ hx] at e7; cases e7
            have hdxD : dx ≠ D := by rintro rfl; rw [mH7.same _ _ hdx] at e7; cases e7
            have hrl : ws.map (·.r) = normW (zs.map (·.r)) := by
              rw [r7, show ((ss.map (·.r.nm)).map V.str).length = ss.length by simp, List.take_length, ← hss]
              unfold normW
              rw [List.map_map, srt_map (k := fun z : ActA => z.r.nm) (l := fun x => x.nm) (f := ActR.norm ∘ fun x : ActA => x.r) totS (fun _ => rfl) hA.nd]
              rfl
            have keep : ∀ p o, H7 p = some o → p ≠ x → p ≠ dx → slH H7 x T.C_World dx (putS 0 (.ref D) []) p = some o := fun p o h h1 h2 => by rw [slH_ne h1 h2]; exact h
            have fr6 : ∀ {p}, H6 p = none → H0 p = none := fun {p} np => (mH.trans (m3.trans (m34.trans m46))).free np
            refine q _ ?_ ?_
            · unfold slH
              exact ((mH.trans mH7).wr ndx).wr nx
            · refine ⟨dx, D, ws, slH_slt hne, ⟨keep _ _ e7 hxD.symm hdxD.symm, ?_, fun w hw => ?_, fun w hw => ?_, fun w hw => ?_⟩, hrl, fr6 nD, fun w hw => fr6 (c7 w hw).2.2.2⟩
              · rw [show ws.map (fun z : ActA => z.r.nm) = ss.map (fun z : ActA => z.r.nm) by
                  rw [show ((ss.map (·.r.nm)).map V.str).length = ss.length by simp, List.take_length] at r7
                  have := congrArg (List.map ActR.nm) r7
                  rw [List.map_map, List.map_map] at this
                  exact this]
                exact nss
              · have h7x := mH7.same _ _ hx
                have h7d := mH7.same _ _ hdx
                have m1 : Mv [dx] H7 (upd H7 dx (.xd [])) := .put h7d (fun _ z => by cases z) (fun _ _ z => by cases z)
                have m2 : Mv [x] (upd H7 dx (.xd [])) (slH H7 x T.C_World dx (putS 0 (.ref D) [])) := .put (u := .ins T.C_World dx []) (by rw [upd_ne hne.symm]; exact h7x) (fun _ z => by cases z) (fun _ _ z => by cases z)
                exact m2.sqT (m1.sqT (c7 w hw).1)
              · have h2 := (c7 w hw).2.1
                exact keep _ _ h2 (by rintro e; rw [e, mH7.same _ _ hx] at h2; cases h2) (by rintro e; rw [e, mH7.same _ _ hdx] at h2; cases h2)
              · have : w.r ∈ ws.map (·.r) := List.mem_map.mpr ⟨w, hw, rfl⟩
                rw [r7] at this
                obtain ⟨z, hz, e⟩ := List.mem_map.mp this
                rw [← e]
                exact srt_nd (hA.ond z (hsub z (List.mem_of_mem_take hz)))
end
end Fm
namespace Fm
open PySem PySem.Spec PyProof.Rows L2 SlX
local macro_rules | `(tactic| walk_at "nn") => `(tactic| dsimp only [tC, tNil, tCons, tCB, tCall, gName, tSeq, tAsg, tPar, tDrop, tRet])
local macro_rules | `(tactic| walk_at "nc") => `(tactic| dsimp only [tC, tNil, tCons, tCB, tCall])
def sp_Wacts (K : PySem.W.Frag) (C : Addr) : Sp := fun vs H Q _ => ∃ (x : Addr) (rs : List ActR), vs = [.ref x] ∧ WldAt K H C x rs ∧ ∀ p, H p = none → Q (.ref p) (upd H p (.lst ((rs.map (·.nm)).map V.str)))
def sp_Wargs (K : PySem.W.Frag) (C : Addr) : Sp := fun vs H Q _ => ∃ (x : Addr) (rs : List ActR) (r : ActR), vs = [.ref x, .str r.nm] ∧ WldAt K H C x rs ∧ r ∈ rs ∧ Q (.int r.ar) H
def sp_Wouts (K : PySem.W.Frag) (C : Addr) : Sp := fun vs H Q _ => ∃ (x : Addr) (rs : List ActR) (r : ActR), vs = [.ref x, .str r.nm] ∧ WldAt K H C x rs ∧ r ∈ rs ∧ ∀ p, H p = none → Q (.ref p) (upd H p (.lst ((r.outs.map (·.1)).map V.str)))
def sp_Wbrings (K : PySem.W.Frag) (C : Addr) : Sp := fun vs H Q _ => ∃ (x : Addr) (rs : List ActR) (r : ActR) (y : Str) (i : Int), vs = [.ref x, .str r.nm, .str y] ∧ WldAt K H C x rs ∧ r ∈ rs ∧ (y, i) ∈ r.outs ∧ Q (.int i) H
section
variable {P : Program} {w : World} {K : PySem.W.Frag} {mg : Str → Option Value} {base : Heap}
theorem ok_World_acts (T : TX K mg) {k : Nat} : FnOk P w K mg base CX0 (k + 1) T.d_World_acts.f T.d_World_acts.fd P_World_acts (sp_Wacts K T.C_World) := by
  refine T.d_World_acts.F.ok sc_World_acts (fun vs H Q E h => ?_) (fun cdv A outer s H vs Q E hr h => ?_)
  · obtain ⟨_, _, rfl, _⟩ := h
    rfl
  · obtain ⟨x, rs, rfl, ⟨dx, d, zs, hs, hA, rfl⟩, q⟩ := h
    refine ⟨_, (pss_one (ps_ret (pe_callTy (r := rListG K) (call_listA rfl) (by rfl) T.b_list bt_list (pa_cons (pe_slC (K := K) rfl (pv 0)) pa_nil)))), ?_⟩
    refine ⟨.ref x, rfl, x, T.C_World, dx, T.p_World_its_acts, _, 0, .ref d, rfl, hs, T.c_World, T.sl_World_its_acts, rfl, ?_⟩
    refine Or.inr ⟨d, _, rfl, hA.at_, fun p np => ?_⟩
    have := q p np
    rw [List.map_map, List.map_map] at this
    rw [List.map_map]
    exact this
theorem ok_World_arguments (T : TX K mg) {k : Nat} : FnOk P w K mg base CX0 (k + 1) T.d_World_arguments.f T.d_World_arguments.fd P_World_arguments (sp_Wargs K T.C_World) := by
  refine T.d_World_arguments.F.ok sc_World_arguments (fun vs H Q E h => ?_) (fun cdv A outer s H vs Q E hr h => ?_)
  · obtain ⟨_, _, _, rfl, _⟩ := h
    rfl
  · obtain ⟨x, rs, r, rfl, ⟨dx, d, zs, hs, hA, rfl⟩, hr', q⟩ := h
    obtain ⟨z, hz, rfl⟩ := List.mem_map.mp hr'
    have hu1 := hu1_of hr
    refine ⟨_, (pss_one (ps_ret (pe_ix (r := rIx K) ix_seq (pe_dget hu1 (pe_slC (K := K) rfl (pv 0)) (pv 1) (fun _ _ => rfl)) pe_int (fun _ _ => rfl)))), ?_⟩
    refine ⟨.ref x, rfl, x, T.C_World, dx, T.p_World_its_acts, _, 0, .ref d, rfl, hs, T.c_World, T.sl_World_its_acts, rfl, ?_⟩
    refine ⟨.str z.r.nm, rfl, d, .ref z.a, rfl, Or.inl ⟨_, .inr z.r.nm, .inl hA.at_, rfl, (hA.val hz).symm⟩, ?_⟩
    exact rd_ixT (hA.tup z hz) (by decide) (v := .int z.r.ar) rfl q
theorem ok_World_outcomes (T : TX K mg) {k : Nat} : FnOk P w K mg base CX0 (k + 1) T.d_World_outcomes.f T.d_World_outcomes.fd P_World_outcomes (sp_Wouts K T.C_World) := by
  refine T.d_World_outcomes.F.ok sc_World_outcomes (fun vs H Q E h => ?_) (fun cdv A outer s H vs Q E hr h => ?_)
  · obtain ⟨_, _, _, rfl, _⟩ := h
    rfl
  · obtain ⟨x, rs, r, rfl, ⟨dx, d, zs, hs, hA, rfl⟩, hr', q⟩ := h
    obtain ⟨z, hz, rfl⟩ := List.mem_map.mp hr'
    have hu1 := hu1_of hr
    refine ⟨_, (pss_one (ps_ret (pe_callTy (r := rListG K) (call_listA rfl) (by rfl) T.b_list bt_list (pa_cons (pe_ix (r := rIx K) ix_seq (pe_dget hu1 (pe_slC (K := K) rfl (pv 0)) (pv 1) (fun _ _ => rfl)) pe_int (fun _ _ => rfl)) pa_nil)))), ?_⟩
    refine ⟨.ref x, rfl, x, T.C_World, dx, T.p_World_its_acts, _, 0, .ref d, rfl, hs, T.c_World, T.sl_World_its_acts, rfl, ?_⟩
    refine ⟨.str z.r.nm, rfl, d, .ref z.a, rfl, Or.inl ⟨_, .inr z.r.nm, .inl hA.at_, rfl, (hA.val hz).symm⟩, ?_⟩
    refine rd_ixT (hA.tup z hz) (by decide) (v := .ref z.o) rfl ?_
    refine Or.inr ⟨z.o, _, rfl, hA.out z hz, fun p np => ?_⟩
    have := q p np
    rw [List.map_map] at this ⊢
    exact this
theorem ok_World_brings (T : TX K mg) {k : Nat} : FnOk P w K mg base CX0 (k + 1) T.d_World_brings.f T.d_World_brings.fd P_World_brings (sp_Wbrings K T.C_World) := by
  refine T.d_World_brings.F.ok sc_World_brings (fun vs H Q E h => ?_) (fun cdv A outer s H vs Q E hr h => ?_)
  · obtain ⟨_, _, _, _, _, rfl, _⟩ := h
    rfl
  · obtain ⟨x, rs, r, y, i, rfl, ⟨dx, d, zs, hs, hA, rfl⟩, hr', hy, q⟩ := h
    obtain ⟨z, hz, rfl⟩ := List.mem_map.mp hr'
    have hu1 := hu1_of hr
    refine ⟨_, (pss_one (ps_ret (pe_dget hu1 (pe_ix (r := rIx K) ix_seq (pe_dget hu1 (pe_slC (K := K) rfl (pv 0)) (pv 1) (fun _ _ => rfl)) pe_int (fun _ _ => rfl)) (pv 2) (fun _ _ => rfl)))), ?_⟩
    refine ⟨.ref x, rfl, x, T.C_World, dx, T.p_World_its_acts, _, 0, .ref d, rfl, hs, T.c_World, T.sl_World_its_acts, rfl, ?_⟩
    refine ⟨.str z.r.nm, rfl, d, .ref z.a, rfl, Or.inl ⟨_, .inr z.r.nm, .inl hA.at_, rfl, (hA.val hz).symm⟩, ?_⟩
    refine rd_ixT (hA.tup z hz) (by decide) (v := .ref z.o) rfl ?_
    exact ⟨.str y, rfl, z.o, .int i, rfl, Or.inl ⟨_, .inr y, .inl (hA.out z hz), rfl, (row_val (hA.ond z hz) hy).symm⟩, q⟩
end
end Fm
namespace Fm
open PySem PySem.Spec PyProof.Rows L2 SlX
local macro_rules | `(tactic| walk_at "nn") => `(tactic| dsimp only [tC, tNil, tCons, tCB, tCall, gName, tSeq, tAsg, tPar, tDrop, tRet])
local macro_rules | `(tactic| walk_at "nc") => `(tactic| dsimp only [tC, tNil, tCons, tCB, tCall])
/-! statements -/
inductive Sta where
  | set (chs : List (Int × Tm)) (goal : Int)
  | ask (act : Str) (ts : List Tm) (ways : List (Str × List Int × Int))
  | fin (word : Str) (ts : List Tm)
def chD (c : Int × Tm) : PyData := .tuple [.int c.1, c.2.d]
def wayD (w : Str × List Int × Int) : PyData := .tuple [.str w.1, .tuple (w.2.1.map .int), .int w.2.2]
def Sta.d : Sta → PyData
  | .set chs goal => .tuple [.str "set", .tuple (chs.map chD), .int goal]
  | .ask act ts ways => .tuple [.str "ask", .str act, .tuple (Tm.ds ts), .tuple (ways.map wayD)]
  | .fin word ts => .tuple [.str "end", .str word, .tuple (Tm.ds ts)]
def TmOver (many : Int) (t : Tm) : Prop := t.ok (fun i => 0 ≤ i ∧ i < many) ∧ t.th.cnt ≤ 5000 ∧ t.dep ≤ 50
def ChOk (many : Int) (chs : List (Int × Tm)) : Prop := (chs.map (·.1)).Nodup ∧ chs.length ≤ 24 ∧ ∀ c ∈ chs, 0 ≤ c.1 ∧ c.1 < many ∧ TmOver many c.2
def WayOk (r : ActR) (many places : Int) (w : Str × List Int × Int) : Prop := ∃ i, (w.1, i) ∈ r.outs ∧ (w.2.1.length : Int) = i ∧ w.2.1.Nodup ∧ (∀ j ∈ w.2.1, 0 ≤ j ∧ j < many) ∧ 0 ≤ w.2.2 ∧ w.2.2 < places
structure AskOk (r : ActR) (many places : Int) (ts : List Tm) (ways : List (Str × List Int × Int)) : Prop where
  len : (ts.length : Int) = r.ar
  ts : ∀ t ∈ ts, TmOver many t
  pm : (ways.map (·.1)).Perm (r.outs.map (·.1))
  ways : ∀ w ∈ ways, WayOk r many places w
def Sta.ok (rs : List ActR) (many places : Int) : Sta → Prop
  | .set chs goal => ChOk many chs ∧ 0 ≤ goal ∧ goal < places
  | .ask act ts ways => ∃ r ∈ rs, r.nm = act ∧ AskOk r many places ts ways
  | .fin word ts => Nm word ∧ ts.length ≤ 2 ∧ ∀ t ∈ ts, TmOver many t
/-- worlds as they are kept: in order -/
structure WOk (rs : List ActR) : Prop where
  ok : ∀ r ∈ rs, r.ok
  nd : (rs.map (·.nm)).Nodup
  few : rs.length < 60
  ond : ∀ r ∈ rs, (r.outs.map (·.1)).Nodup
  pw : ∀ r ∈ rs, (r.outs.map (·.1)).Pairwise fun a b => leS a b = true
def inPl (places : Int) : Th → Bool
  | .int i => decide (0 ≤ i) && decide (i < places)
  | _ => false
def sp_diff (K : PySem.W.Frag) : Sp := fun vs H Q _ => ∃ (many : Int) (a : Addr) (ns : List Int), vs = [.int many, .ref a] ∧ SqT K H a (ns.map V.int) ∧ ns.Nodup ∧ ns.length ≤ 1000 ∧ (∀ i ∈ ns, 0 ≤ i ∧ i < many) ∧ ∀ H', Mv [] H H' → Q (.bl true) H'
def sp_termsOver (K : PySem.W.Frag) : Sp := fun vs H Q _ => ∃ (many : Int) (v : V) (ts : List Tm), vs = [.int many, v] ∧ Im K H v (.tuple (Tm.ds ts)) ∧ ts.length ≤ 1000 ∧ (∀ t ∈ ts, TmOver many t) ∧ ∀ H', Mv [] H H' → Q (.bl true) H'
def sp_place (K : PySem.W.Frag) : Sp := fun vs H Q _ => ∃ (places : Int) (v : V) (t : Th) (b : Addr), vs = [.int places, v] ∧ Is K b H v t ∧ ∀ H', Mv [] H H' → Q (.bl (inPl places t)) H'
def sp_pair (K : PySem.W.Frag) : Sp := fun vs H Q _ => ∃ (v : V) (d e : PyData), vs = [v] ∧ Im K H v (.tuple [d, e]) ∧ Q (.bl true) H
section
variable {P : Program} {w : World} {K : PySem.W.Frag} {mg : Str → Option Value} {base : Heap}
theorem ok_is_place (T : TX K mg) {k : Nat} : FnOk P w K mg base CX0 (k + 2) T.d_is_place.f T.d_is_place.fd P_is_place (sp_place K) := by
  have G_is_integer : FnOk P w K mg base CX0 1 T.d_is_integer.f T.d_is_integer.fd P_is_integer (sp_kind K isWhole) := ok_is_integer T
  refine T.d_is_place.F.ok sc_is_place (fun vs H Q E h => ?_) (fun cdv A outer s H vs Q E hr h => ?_)
  · obtain ⟨_, _, _, _, rfl, _⟩ := h
    rfl
  · obtain ⟨m, v, t, b, rfl, hv, q⟩ := h
    refine ⟨_, (pss_one (ps_ret (pe_and (pe_call G_is_integer (hr.mono (by omega)) rfl T.d_is_integer.g T.d_is_integer.F.kp T.d_is_integer.b .nil pass0 (pa_cons (pv 1) pa_nil)) (pe_one (pe_chain op_le op_lt pe_int (pv 1) (pv 0)))))), ?_⟩
    refine ⟨v, rfl, v, t, b, rfl, hv, fun H1 m1 => ⟨_, rfl, ?_⟩⟩
    cases t with
    | int i =>
      cases (show v = V.int i from hv)
      refine ⟨.int i, rfl, 0, i, rfl, rfl, _, rfl, ite2 (fun e => ?_) (fun e => ?_)⟩
      · refine ⟨.int m, rfl, i, m, rfl, rfl, ?_⟩
        have := q H1 m1
        simp only [inPl] at this
        rw [show decide (0 ≤ i) = true from e] at this
        exact this
      · have := q H1 m1
        simp only [inPl] at this
        rw [show decide (0 ≤ i) = false by simpa using e] at this
        exact this
    | bl c => exact q H1 m1
    | non => exact q H1 m1
    | str x => exact q H1 m1
    | tup ts => exact q H1 m1
    | lst => exact q H1 m1
    | dct => exact q H1 m1
theorem ok_is_pair (T : TX K mg) {k : Nat} : FnOk P w K mg base CX0 (k + 1) T.d_is_pair.f T.d_is_pair.fd P_is_pair (sp_pair K) := by
  refine T.d_is_pair.F.ok sc_is_pair (fun vs H Q E h => ?_) (fun cdv A outer s H vs Q E hr h => ?_)
  · obtain ⟨_, _, _, rfl, _⟩ := h
    rfl
  · obtain ⟨v, d, e, rfl, hv, q⟩ := h
    have hu64 := hr.units
    obtain ⟨a, xs, rfl, ha, hx⟩ := hv.tupI
    have hl := hx.length
    refine ⟨_, (pss_one (ps_ret (pe_and (pe_callB (r := rIsi K) call_isi (by rfl) T.b_isinstance bt_isinstance (pa_cons (pv 0) (pa_cons (pe_ty T.b_tuple bt_tuple) pa_nil))) (pe_one (pe_cmpR (r := rEqG K) (op_eqG hu64) (pe_callB (r := rLenG K) call_lenG (by rfl) T.b_len bt_len (pa_cons (pv 0) pa_nil)) pe_int (nomark _)))))), ?_⟩
    refine ⟨.ref a, rfl, ?_⟩
    walk_at "nn"
    refine ⟨_, _, _, _, true, rfl, .ty "tuple", tyx_sqT ha, kit_ty (by decide +kernel), ?_⟩
    refine ⟨_, rfl, ?_⟩
    refine ⟨.ref a, rfl, ?_⟩
    walk_at "nc"
    refine rd_len (.inr ha) (Or.inl ⟨rfl, ?_⟩)
    rw [hl]
    exact q
theorem ok_are_different (T : TX K mg) {k : Nat} : FnOk P w K mg base CX0 (k + 2) T.d_are_different.f T.d_are_different.fd P_are_different (sp_diff K) := by
  have G_is_integer : FnOk P w K mg base CX0 1 T.d_is_integer.f T.d_is_integer.fd P_is_integer (sp_kind K isWhole) := ok_is_integer T
  refine T.d_are_different.F.ok sc_are_different (fun vs H Q E h => ?_) (fun cdv A outer s H vs Q E hr h => ?_)
  · obtain ⟨_, _, _, rfl, _⟩ := h
    rfl
  · obtain ⟨many, a, ns, rfl, ha, hnd, hln, hin, q⟩ := h
    have hu64 := hr.units
    refine ⟨_, (pss_cons (ps_if (PW.pt (pw_or (pt_not (pt_val (pe_callB (r := rIsi K) call_isi (by rfl) T.b_isinstance bt_isinstance (pa_cons (pv 1) (pa_cons (pe_ty T.b_tuple bt_tuple) pa_nil))))) (pw_or1 (pt_not (pt_val (pe_callB (r := rAll K) (cr_all rfl) (by rfl) T.b_all bt_all (pa_cons (pe_lc (own := [("one", 2)]) (g := gName 2) (by rfl) sc_are_different.nd (pi_seq (pv 1)) (blkOk_by (own := [("one", 2)]) (N := N_are_different) (sc := defScope s_are_different) (by decide +kernel)) (fun _ _ _ _ _ => pg_name (i := 2) sc_are_different.nd rfl (Or.inl rfl)) (fun _ _ _ _ _ => pts_nil) (fun _ _ _ _ _ => (pe_and (pe_call G_is_integer (hr.mono (by omega)) rfl T.d_is_integer.g T.d_is_integer.F.kp T.d_is_integer.b .nil pass0 (pa_cons (pv 2) pa_nil)) (pe_one (pe_chain op_le op_lt pe_int (pv 2) (pv 0)))))) pa_nil))))))) (pss_one (ps_ret pe_bl)) pss_nil) (pss_one (ps_ret (pe_cmpR (r := rEqG K) (op_eqG hu64) (pe_lenSetG rfl (by rfl) T.b_len (by rfl) T.b_set (pv 1)) (pe_callB (r := rLenG K) call_lenG (by rfl) T.b_len bt_len (pa_cons (pv 1) pa_nil)) (nomark _))))), ?_⟩
    refine ⟨.ref a, rfl, ?_⟩
    walk_at "nn"
    refine ⟨_, _, _, _, true, rfl, .ty "tuple", tyx_sqT ha, kit_ty (by decide +kernel), ?_⟩
    refine ⟨_, rfl, ?_⟩
    refine ⟨.ref a, rfl, a, rfl, ?_⟩
    refine lc_seq (xs := ns.map V.int) (.inr ha) (fun i D H1 => H1 D = some (.lst ((List.replicate i true).map V.bl)) ∧ Mv [] H H1)
      (fun D nD => ⟨upd_same, .new nD⟩) (fun i D H1 nD h1 => h1.2) (fun D nD i x H1 hx h1 => ?_) (fun D H1 nD h1 => ?_)
    · obtain ⟨e1, m1⟩ := h1
      rw [List.getElem?_map] at hx
      obtain ⟨j, hj, rfl⟩ := Option.map_eq_some_iff.mp hx
      have hij := (List.getElem?_eq_some_iff.mp hj).1
      obtain ⟨j0, j1⟩ := hin j (List.mem_of_getElem? hj)
      refine ⟨rfl, .int j, rfl, .int j, .int j, a, rfl, rfl, fun H2 m2 => ⟨_, rfl, ?_⟩⟩
      refine ⟨.int j, rfl, 0, j, rfl, rfl, _, rfl, ?_⟩
      rw [show decide (0 ≤ j) = true from decide_eq_true j0]
      refine ⟨.int many, rfl, j, many, rfl, rfl, ?_⟩
      dsimp only
      rw [show decide (j < many) = true from decide_eq_true j1]
      refine ⟨_, m2.same _ _ e1, ?_, ?_, (m1.trans m2).wr nD⟩
      · rw [List.length_map, List.length_replicate]
        exact Nat.lt_of_le_of_lt (show i ≤ 1000 by omega) (by decide)
      · rw [upd_same, List.replicate_succ', List.map_append]
        rfl
    · obtain ⟨e1, m1⟩ := h1
      refine ⟨D, List.replicate (ns.map V.int).length true, rfl, .inl (.inl e1), ?_⟩
      rw [show (List.replicate (ns.map V.int).length true).all id = true by simp]
      refine ⟨_, rfl, ?_⟩
      refine ⟨.ref a, rfl, a, ns, rfl, .inr (m1.sqT ha), by omega, fun ks hk hmem => ?_⟩
      refine ⟨.ref a, rfl, ?_⟩
      walk_at "nc"
      refine rd_len (.inr (m1.sqT ha)) (Or.inl ⟨rfl, ?_⟩)
      have hp : ks.Perm ns := (List.perm_ext_iff_of_nodup hk hnd).mpr hmem
      rw [hp.length_eq, List.length_map]
      simp only [decide_true]
      exact q H1 m1
theorem ok_are_terms_over (T : TX K mg) {k : Nat} : FnOk P w K mg base CX0 (k + 4) T.d_are_terms_over.f T.d_are_terms_over.fd P_are_terms_over (sp_termsOver K) := by
  have G_is_term_over : FnOk P w K mg base CX0 3 T.d_is_term_over.f T.d_is_term_over.fd P_is_term_over (sp_termOver K) := ok_is_term_over T
  refine T.d_are_terms_over.F.ok sc_are_terms_over (fun vs H Q E h => ?_) (fun cdv A outer s H vs Q E hr h => ?_)
  · obtain ⟨_, _, _, rfl, _⟩ := h
    rfl
  · obtain ⟨many, v, ts, rfl, hv, hln, hts, q⟩ := h
    obtain ⟨a, xs, rfl, ha, hxs⟩ := hv.tupI
    have hl := hxs.length
    rw [Tm.ds_map, List.length_map] at hl
    refine ⟨_, (pss_one (ps_ret (pe_and (pe_callB (r := rIsi K) call_isi (by rfl) T.b_isinstance bt_isinstance (pa_cons (pv 1) (pa_cons (pe_ty T.b_tuple bt_tuple) pa_nil))) (pe_one (pe_callB (r := rAll K) (cr_all rfl) (by rfl) T.b_all bt_all (pa_cons (pe_lc (own := [("term", 2)]) (g := gName 2) (by rfl) sc_are_terms_over.nd (pi_seq (pv 1)) (blkOk_by (own := [("term", 2)]) (N := N_are_terms_over) (sc := defScope s_are_terms_over) (by decide +kernel)) (fun _ _ _ _ _ => pg_name (i := 2) sc_are_terms_over.nd rfl (Or.inl rfl)) (fun _ _ _ _ _ => pts_nil) (fun _ _ _ _ _ => (pe_call G_is_term_over (hr.mono (by omega)) rfl T.d_is_term_over.g T.d_is_term_over.F.kp T.d_is_term_over.b .nil pass0 (pa_cons (pv 0) (pa_cons (pv 2) pa_nil))))) pa_nil)))))), ?_⟩
    refine ⟨.ref a, rfl, ?_⟩
    walk_at "nn"
    refine ⟨_, _, _, _, true, rfl, .ty "tuple", tyx_sqT ha, kit_ty (by decide +kernel), ?_⟩
    refine ⟨_, rfl, ?_⟩
    refine ⟨.ref a, rfl, a, rfl, ?_⟩
    refine lc_seq (xs := xs) (.inr ha) (fun i D H1 => H1 D = some (.lst ((List.replicate i true).map V.bl)) ∧ Mv [] H H1)
      (fun D nD => ⟨upd_same, .new nD⟩) (fun i D H1 nD h1 => h1.2) (fun D nD i x H1 hx h1 => ?_) (fun D H1 nD h1 => ?_)
    · obtain ⟨e1, m1⟩ := h1
      obtain ⟨d, hd, him⟩ := hxs.get hx
      rw [Tm.ds_map, List.getElem?_map] at hd
      obtain ⟨t, ht, rfl⟩ := Option.map_eq_some_iff.mp hd
      have hij := (List.getElem?_eq_some_iff.mp ht).1
      obtain ⟨t1, t2, t3⟩ := hts t (List.mem_of_getElem? ht)
      refine ⟨rfl, .int many, rfl, x, rfl, many, x, t.th, a, rfl, Is.of_im t x t1 (him.mv m1), by omega, fun H2 m2 => ?_⟩
      rw [isTerm_th (fun i h => h.1) t t1, under_th (fun i h => h.2) t t1]
      refine ⟨_, m2.same _ _ e1, ?_, ?_, (m1.trans m2).wr nD⟩
      · rw [List.length_map, List.length_replicate]
        exact Nat.lt_of_le_of_lt (show i ≤ 1000 by omega) (by decide)
      · rw [upd_same, List.replicate_succ', List.map_append]
        rfl
    · obtain ⟨e1, m1⟩ := h1
      refine ⟨D, List.replicate xs.length true, rfl, .inl (.inl e1), ?_⟩
      rw [show (List.replicate xs.length true).all id = true by simp]
      exact q H1 m1
end
end Fm
namespace Fm
open PySem PySem.Spec PyProof.Rows L2 SlX
local macro_rules | `(tactic| walk_at "nn") => `(tactic| dsimp only [tC, tNil, tCons, tCB, tCall, gName, tSeq, tAsg, tPar, tDrop, tRet])
local macro_rules | `(tactic| walk_at "nc") => `(tactic| dsimp only [tC, tNil, tCons, tCB, tCall])
def sp_set (K : PySem.W.Frag) : Sp := fun vs H Q _ => ∃ (many places : Int) (v : V) (chs : List (Int × Tm)) (goal : Int), vs = [.int many, .int places, v] ∧ Im K H v (Sta.set chs goal).d ∧ ChOk many chs ∧ 0 ≤ goal ∧ goal < places ∧ ∀ H', Mv [] H H' → Q (.bl true) H'
def sp_end (K : PySem.W.Frag) : Sp := fun vs H Q _ => ∃ (many : Int) (v : V) (word : Str) (ts : List Tm), vs = [.int many, v] ∧ Im K H v (Sta.fin word ts).d ∧ Nm word ∧ ts.length ≤ 2 ∧ (∀ t ∈ ts, TmOver many t) ∧ ∀ H', Mv [] H H' → Q (.bl true) H'
def sp_way (K : PySem.W.Frag) (C : Addr) : Sp := fun vs H Q _ => ∃ (x : Addr) (many places : Int) (v : V) (rs : List ActR) (r : ActR) (wy : Str × List Int × Int), vs = [.ref x, .int many, .int places, .str r.nm, v] ∧ WldAt K H C x rs ∧ r ∈ rs ∧ Im K H v (wayD wy) ∧ WayOk r many places wy ∧
  (∀ e ∈ r.outs, 0 ≤ e.2 ∧ e.2 ≤ 2) ∧ ∀ H', Mv [] H H' → Q (.bl true) H'
theorem Im.tup3 {K : PySem.W.Frag} {H : Hp} {v : V} {d e f : PyData} (h : Im K H v (.tuple [d, e, f])) : ∃ a x y z, v = .ref a ∧ SqT K H a [x, y, z] ∧ Im K H x d ∧ Im K H y e ∧ Im K H z f := by
  obtain ⟨a, xs, rfl, ha, hx⟩ := h.tupI
  obtain ⟨x, xs1, rfl, h1, hx⟩ := hx.invD
  obtain ⟨y, xs2, rfl, h2, hx⟩ := hx.invD
  obtain ⟨z, xs3, rfl, h3, hx⟩ := hx.invD
  rw [hx.nilD] at ha
  exact ⟨a, x, y, z, rfl, ha, h1, h2, h3⟩
theorem Im.tup2 {K : PySem.W.Frag} {H : Hp} {v : V} {d e : PyData} (h : Im K H v (.tuple [d, e])) : ∃ a x y, v = .ref a ∧ SqT K H a [x, y] ∧ Im K H x d ∧ Im K H y e := by
  obtain ⟨a, xs, rfl, ha, hx⟩ := h.tupI
  obtain ⟨x, xs1, rfl, h1, hx⟩ := hx.invD
  obtain ⟨y, xs2, rfl, h2, hx⟩ := hx.invD
  rw [hx.nilD] at ha
  exact ⟨a, x, y, rfl, ha, h1, h2⟩
theorem Im.tup4 {K : PySem.W.Frag} {H : Hp} {v : V} {d e f g : PyData} (h : Im K H v (.tuple [d, e, f, g])) : ∃ a x y z u, v = .ref a ∧ SqT K H a [x, y, z, u] ∧ Im K H x d ∧ Im K H y e ∧ Im K H z f ∧ Im K H u g := by
  obtain ⟨a, xs, rfl, ha, hx⟩ := h.tupI
  obtain ⟨x, xs1, rfl, h1, hx⟩ := hx.invD
  obtain ⟨y, xs2, rfl, h2, hx⟩ := hx.invD
  obtain ⟨z, xs3, rfl, h3, hx⟩ := hx.invD
  obtain ⟨u, xs4, rfl, h4, hx⟩ := hx.invD
  rw [hx.nilD] at ha
  exact ⟨a, x, y, z, u, rfl, ha, h1, h2, h3, h4⟩
theorem imm_ints (ns : List Int) : immAll (ns.map PyData.int) = true := immAll_iff.mpr fun x h => by
  obtain ⟨n, _, rfl⟩ := List.mem_map.mp h
  rfl
theorem Ims.intsI {K : PySem.W.Frag} {H : Hp} : ∀ {ns : List Int} {xs : List V}, Ims K H xs (ns.map PyData.int) → xs = ns.map V.int
  | [], _, h => h.nilD
  | n :: ns, _, h => by
    obtain ⟨v, vs, rfl, h1, h2⟩ := h.invD
    rw [h1.intI, Ims.intsI h2]
    rfl
theorem Ims.ofInts {K : PySem.W.Frag} {H : Hp} : ∀ (ns : List Int), Ims K H (ns.map V.int) (ns.map PyData.int)
  | [] => .nil
  | n :: ns => .cons (.int n) (Ims.ofInts ns)
section
variable {P : Program} {w : World} {K : PySem.W.Frag} {mg : Str → Option Value} {base : Heap}
theorem ok_is_set (T : TX K mg) {k : Nat} : FnOk P w K mg base CX0 (k + 5) T.d_is_set.f T.d_is_set.fd P_is_set (sp_set K) := by
  have G_is_pair : FnOk P w K mg base CX0 1 T.d_is_pair.f T.d_is_pair.fd P_is_pair (sp_pair K) := ok_is_pair T
  have G_is_place : FnOk P w K mg base CX0 2 T.d_is_place.f T.d_is_place.fd P_is_place (sp_place K) := ok_is_place T
  have G_are_different : FnOk P w K mg base CX0 2 T.d_are_different.f T.d_are_different.fd P_are_different (sp_diff K) := ok_are_different T
  have G_are_terms_over : FnOk P w K mg base CX0 4 T.d_are_terms_over.f T.d_are_terms_over.fd P_are_terms_over (sp_termsOver K) := ok_are_terms_over T
  refine T.d_is_set.F.ok sc_is_set (fun vs H Q E h => ?_) (fun cdv A outer s H vs Q E hr h => ?_)
  · obtain ⟨_, _, _, _, _, rfl, _⟩ := h
    rfl
  · obtain ⟨many, places, v, chs, goal, rfl, hv, ⟨cnd, cln, cok⟩, g0, g1, q⟩ := h
    have hu64 := hr.units
    obtain ⟨a, x0, x1, x2, rfl, ha, h0, h1, h2⟩ := hv.tup3
    cases h2.intI
    obtain ⟨a1, xs, rfl, ha1, hxs⟩ := h1.tupI
    have hl := hxs.length
    rw [List.length_map] at hl
    have row : ∀ (i : Nat) (x : V) (H' : Hp), Mv [] H H' → xs[i]? = some x → ∃ c ac y, chs[i]? = some c ∧ x = .ref ac ∧ SqT K H' ac [.int c.1, y] ∧ Im K H' y c.2.d ∧ Im K H' x (chD c) := fun i x H' m hx => by
      obtain ⟨d, hd, him⟩ := hxs.get hx
      rw [List.getElem?_map] at hd
      obtain ⟨c, hc, rfl⟩ := Option.map_eq_some_iff.mp hd
      obtain ⟨ac, y0, y, rfl, hac, k0, k1⟩ := (him.mv m).tup2
      rw [k0.intI] at hac
      exact ⟨c, ac, y, hc, rfl, hac, k1, him.mv m⟩
    refine ⟨_, (pss_cons (ps_if (PW.pt (pw_or (pt_cmpR (r := rNeG K) (op_neG hu64) (pe_callB (r := rLenG K) call_lenG (by rfl) T.b_len bt_len (pa_cons (pv 2) pa_nil)) pe_int (nomark _)) (pw_or (pt_not (pt_val (pe_callB (r := rIsi K) call_isi (by rfl) T.b_isinstance bt_isinstance (pa_cons (pe_ix (r := rIx K) ix_seq (pv 2) pe_int (fun _ _ => rfl)) (pa_cons (pe_ty T.b_tuple bt_tuple) pa_nil))))) (pw_or1 (pt_not (pt_val (pe_callB (r := rAll K) (cr_all rfl) (by rfl) T.b_all bt_all (pa_cons (pe_lc (own := [("change", 3)]) (g := gName 3) (by rfl) sc_is_set.nd (pi_seq (pe_ix (r := rIx K) ix_seq (pv 2) pe_int (fun _ _ => rfl))) (blkOk_by (own := [("change", 3)]) (N := N_is_set) (sc := defScope s_is_set) (by decide +kernel)) (fun _ _ _ _ _ => pg_name (i := 3) sc_is_set.nd rfl (Or.inl rfl)) (fun _ _ _ _ _ => pts_nil) (fun _ _ _ _ _ => (pe_call G_is_pair (hr.mono (by omega)) rfl T.d_is_pair.g T.d_is_pair.F.kp T.d_is_pair.b .nil pass0 (pa_cons (pv 3) pa_nil)))) pa_nil)))))))) (pss_one (ps_ret pe_bl)) pss_nil) (pss_cons (ps_if (pt_not (pt_val (pe_call G_are_different (hr.mono (by omega)) rfl T.d_are_different.g T.d_are_different.F.kp T.d_are_different.b .nil pass0 (pa_cons (pv 0) (pa_cons (pe_callTy (r := rTupOf K) call_tupG (by rfl) T.b_tuple bt_tuple (pa_cons (pe_lc (own := [("change", 3)]) (g := gName 3) (by rfl) sc_is_set.nd (pi_seq (pe_ix (r := rIx K) ix_seq (pv 2) pe_int (fun _ _ => rfl))) (blkOk_by (own := [("change", 3)]) (N := N_is_set) (sc := defScope s_is_set) (by decide +kernel)) (fun _ _ _ _ _ => pg_name (i := 3) sc_is_set.nd rfl (Or.inl rfl)) (fun _ _ _ _ _ => pts_nil) (fun _ _ _ _ _ => (pe_ix (r := rIx K) ix_seq (pv 3) pe_int (fun _ _ => rfl)))) pa_nil)) pa_nil))))) (pss_one (ps_ret pe_bl)) pss_nil) (pss_one (ps_ret (pe_and (pe_call G_are_terms_over (hr.mono (by omega)) rfl T.d_are_terms_over.g T.d_are_terms_over.F.kp T.d_are_terms_over.b .nil pass0 (pa_cons (pv 0) (pa_cons (pe_callTy (r := rTupOf K) call_tupG (by rfl) T.b_tuple bt_tuple (pa_cons (pe_lc (own := [("change", 3)]) (g := gName 3) (by rfl) sc_is_set.nd (pi_seq (pe_ix (r := rIx K) ix_seq (pv 2) pe_int (fun _ _ => rfl))) (blkOk_by (own := [("change", 3)]) (N := N_is_set) (sc := defScope s_is_set) (by decide +kernel)) (fun _ _ _ _ _ => pg_name (i := 3) sc_is_set.nd rfl (Or.inl rfl)) (fun _ _ _ _ _ => pts_nil) (fun _ _ _ _ _ => (pe_ix (r := rIx K) ix_seq (pv 3) pe_int (fun _ _ => rfl)))) pa_nil)) pa_nil))) (pe_one (pe_call G_is_place (hr.mono (by omega)) rfl T.d_is_place.g T.d_is_place.F.kp T.d_is_place.b .nil pass0 (pa_cons (pv 1) (pa_cons (pe_ix (r := rIx K) ix_seq (pv 2) pe_int (fun _ _ => rfl)) pa_nil))))))))), ?_⟩
    refine ⟨.ref a, rfl, ?_⟩
    walk_at "nc"
    refine rd_len (.inr ha) (Or.inl ⟨rfl, _, rfl, ?_⟩)
    refine ⟨.ref a, rfl, rd_ixT ha (by decide) (v := .ref a1) rfl ?_⟩
    walk_at "nn"
    refine ⟨_, _, _, _, true, rfl, .ty "tuple", tyx_sqT ha1, kit_ty (by decide +kernel), ?_⟩
    refine ⟨_, rfl, ?_⟩
    refine ⟨.ref a, rfl, rd_ixT ha (by decide) (v := .ref a1) rfl ⟨a1, rfl, ?_⟩⟩
    refine lc_seq (xs := xs) (.inr ha1) (fun i D H1 => H1 D = some (.lst ((List.replicate i true).map V.bl)) ∧ Mv [] H H1)
      (fun D nD => ⟨upd_same, .new nD⟩) (fun i D H1 nD h1 => h1.2) (fun D nD i x H1 hx h1 => ?_) (fun D H1 nD h1 => ?_)
    · obtain ⟨e1, m1⟩ := h1
      obtain ⟨c, ac, y, hc, rfl, hac, hy, him⟩ := row i x H1 m1 hx
      have hi := (List.getElem?_eq_some_iff.mp hc).1
      refine ⟨rfl, .ref ac, rfl, .ref ac, _, _, rfl, him, ?_⟩
      refine ⟨_, e1, ?_, ?_, m1.wr nD⟩
      · rw [List.length_map, List.length_replicate]
        exact Nat.lt_of_le_of_lt (show i ≤ 1000 by omega) (by decide)
      · rw [upd_same, List.replicate_succ', List.map_append]
        rfl
    obtain ⟨e1, m1⟩ := h1
    refine ⟨D, List.replicate xs.length true, rfl, .inl (.inl e1), ?_⟩
    rw [show (List.replicate xs.length true).all id = true by simp]
    refine ⟨_, rfl, ?_⟩
    clear e1 nD
    -- are_different
    refine ⟨.int many, rfl, .ref a, rfl, rd_ixT (m1.sqT ha) (by decide) (v := .ref a1) rfl ⟨a1, rfl, ?_⟩⟩
    refine lc_seq (xs := xs) (.inr (m1.sqT ha1)) (fun i D H2 => H2 D = some (.lst (((chs.take i).map (·.1)).map V.int)) ∧ Mv [] H1 H2)
      (fun D nD => ⟨upd_same, .new nD⟩) (fun i D H2 nD h2 => h2.2) (fun D nD i x H2 hx h2 => ?_) (fun D H2 nD h2 => ?_)
    · obtain ⟨e2, m2⟩ := h2
      obtain ⟨c, ac, y, hc, rfl, hac, hy, him⟩ := row i x H2 (m1.trans m2) hx
      have hi := (List.getElem?_eq_some_iff.mp hc).1
      refine ⟨rfl, .ref ac, rfl, rd_ixT hac (by decide) (v := .int c.1) rfl ?_⟩
      refine ⟨_, e2, ?_, ?_, m2.wr nD⟩
      · rw [List.length_map, List.length_map, List.length_take]
        exact Nat.lt_of_le_of_lt (show min i chs.length ≤ 1000 by omega) (by decide)
      · rw [upd_same, List.take_add_one, hc]
        simp
    obtain ⟨e2, m2⟩ := h2
    rw [hl, List.take_length] at e2
    walk_at "nc"
    refine rd_tupOf (.inl (.inl e2)) fun p H3 m3 e3 => ?_
    refine ⟨many, p, chs.map (·.1), rfl, e3, cnd, by rw [List.length_map]; omega, fun j hj => ?_, fun H4 m4 => ⟨_, rfl, ?_⟩⟩
    · obtain ⟨c, hc, rfl⟩ := List.mem_map.mp hj
      exact ⟨(cok c hc).1, (cok c hc).2.1⟩
    have m04 := m1.trans (m2.trans (m3.trans m4))
    -- are_terms_over
    refine ⟨.int many, rfl, .ref a, rfl, rd_ixT (m04.sqT ha) (by decide) (v := .ref a1) rfl ⟨a1, rfl, ?_⟩⟩
    refine lc_seq (xs := xs) (.inr (m04.sqT ha1)) (fun i D H5 => ∃ ys, H5 D = some (.lst ys) ∧ Ims K H5 ys (Tm.ds ((chs.take i).map (·.2))) ∧ Mv [] H4 H5)
      (fun D nD => ⟨[], upd_same, by simpa [Tm.ds] using Ims.nil, .new nD⟩) (fun i D H5 nD h5 => h5.choose_spec.2.2) (fun D nD i x H5 hx h5 => ?_) (fun D H5 nD h5 => ?_)
    · obtain ⟨ys, e5, i5, m5⟩ := h5
      obtain ⟨c, ac, y, hc, rfl, hac, hy, him⟩ := row i x H5 (m04.trans m5) hx
      have hi := (List.getElem?_eq_some_iff.mp hc).1
      refine ⟨rfl, .ref ac, rfl, rd_ixT hac (by decide) (v := y) rfl ?_⟩
      have hw : Mv [D] H5 (upd H5 D (.lst (ys ++ [y]))) := .set e5 (by simp)
      refine ⟨ys, e5, ?_, _, upd_same, ?_, m5.wr nD⟩
      · rw [i5.length, Tm.ds_map, List.length_map, List.length_map, List.length_take]
        exact Nat.lt_of_le_of_lt (show min i chs.length ≤ 1000 by omega) (by decide)
      · rw [List.take_add_one, hc]
        rw [show Tm.ds ((chs.take i ++ (some c).toList).map (·.2)) = Tm.ds ((chs.take i).map (·.2)) ++ [c.2.d] by simp [Tm.ds_map]]
        exact (i5.append (.cons hy .nil)).mv hw
    obtain ⟨ys, e5, i5, m5⟩ := h5
    rw [hl, List.take_length] at i5
    walk_at "nc"
    refine rd_tupOf (.inl (.inl e5)) fun p6 H6 m6 e6 => ?_
    refine ⟨many, .ref p6, chs.map (·.2), rfl, .tup e6 (i5.mv m6), by rw [List.length_map]; omega, fun t ht => ?_, fun H7 m7 => ⟨_, rfl, ?_⟩⟩
    · obtain ⟨c, hc, rfl⟩ := List.mem_map.mp ht
      exact (cok c hc).2.2
    have m07 := m04.trans (m5.trans (m6.trans m7))
    refine ⟨.int places, rfl, .ref a, rfl, rd_ixT (m07.sqT ha) (by decide) (v := .int goal) rfl ?_⟩
    refine ⟨places, .int goal, .int goal, a, rfl, rfl, fun H8 m8 => ?_⟩
    rw [show inPl places (.int goal) = true by simp [inPl, g0, g1]]
    exact q H8 (m07.trans m8)
theorem ok_is_end (T : TX K mg) {k : Nat} : FnOk P w K mg base CX0 (k + 5) T.d_is_end.f T.d_is_end.fd P_is_end (sp_end K) := by
  have G_is_name : FnOk P w K mg base CX0 1 T.d_is_name.f T.d_is_name.fd P_is_name (sp_kind K isNamed) := ok_is_name T
  have G_are_terms_over : FnOk P w K mg base CX0 4 T.d_are_terms_over.f T.d_are_terms_over.fd P_are_terms_over (sp_termsOver K) := ok_are_terms_over T
  refine T.d_is_end.F.ok sc_is_end (fun vs H Q E h => ?_) (fun cdv A outer s H vs Q E hr h => ?_)
  · obtain ⟨_, _, _, _, rfl, _⟩ := h
    rfl
  · obtain ⟨many, v, word, ts, rfl, hv, hw, hl, hts, q⟩ := h
    have hu64 := hr.units
    obtain ⟨a, x0, x1, x2, rfl, ha, h0, h1, h2⟩ := hv.tup3
    cases h1.strI
    refine ⟨_, (pss_cons (ps_if (PW.pt (pw_or (pt_cmpR (r := rNeG K) (op_neG hu64) (pe_callB (r := rLenG K) call_lenG (by rfl) T.b_len bt_len (pa_cons (pv 1) pa_nil)) pe_int (nomark _)) (pw_or (pt_not (pt_val (pe_call G_is_name (hr.mono (by omega)) rfl T.d_is_name.g T.d_is_name.F.kp T.d_is_name.b .nil pass0 (pa_cons (pe_ix (r := rIx K) ix_seq (pv 1) pe_int (fun _ _ => rfl)) pa_nil)))) (pw_or1 (pt_not (pt_val (pe_call G_are_terms_over (hr.mono (by omega)) rfl T.d_are_terms_over.g T.d_are_terms_over.F.kp T.d_are_terms_over.b .nil pass0 (pa_cons (pv 0) (pa_cons (pe_ix (r := rIx K) ix_seq (pv 1) pe_int (fun _ _ => rfl)) pa_nil))))))))) (pss_one (ps_ret pe_bl)) pss_nil) (pss_one (ps_ret (pe_cmpR op_le (pe_callB (r := rLenG K) call_lenG (by rfl) T.b_len bt_len (pa_cons (pe_ix (r := rIx K) ix_seq (pv 1) pe_int (fun _ _ => rfl)) pa_nil)) (pe_glob rfl T.c_MOST_TOLD T.r_MOST_TOLD) (nomark _))))), ?_⟩
    refine ⟨.ref a, rfl, ?_⟩
    walk_at "nc"
    refine rd_len (.inr ha) (Or.inl ⟨rfl, _, rfl, ?_⟩)
    refine ⟨.ref a, rfl, rd_ixT ha (by decide) (v := .str word) rfl ?_⟩
    refine ⟨.str word, .str word, a, rfl, ⟨rfl, by have := hw.2.1; omega⟩, fun H1 m1 => ?_⟩
    rw [show isNamed (.str word) = true from nmd_nm hw]
    refine ⟨_, rfl, ?_⟩
    refine ⟨.int many, rfl, .ref a, rfl, rd_ixT (m1.sqT ha) (by decide) (v := x2) rfl ?_⟩
    refine ⟨many, x2, ts, rfl, h2.mv m1, by omega, hts, fun H2 m2 => ⟨_, rfl, ?_⟩⟩
    have m02 := m1.trans m2
    obtain ⟨a2, xs, rfl, ha2, hx2⟩ := h2.tupI
    refine ⟨.ref a, rfl, rd_ixT (m02.sqT ha) (by decide) (v := .ref a2) rfl ?_⟩
    walk_at "nc"
    have hl2 := hx2.length
    rw [Tm.ds_map, List.length_map] at hl2
    refine rd_len (.inr (m02.sqT ha2)) ⟨_, 2, rfl, rfl, ?_⟩
    rw [hl2]
    dsimp only
    rw [show decide (((ts.length : Nat) : Int) ≤ 2) = true from decide_eq_true (by omega)]
    exact q H2 m02
end
end Fm
namespace Fm
open PySem PySem.Spec PyProof.Rows L2 SlX
local macro_rules | `(tactic| walk_at "nn") => `(tactic| dsimp only [tC, tNil, tCons, tCB, tCall, gName, tSeq, tAsg, tPar, tDrop, tRet])
local macro_rules | `(tactic| walk_at "nc") => `(tactic| dsimp only [tC, tNil, tCons, tCB, tCall])
def sp_ask (K : PySem.W.Frag) (C : Addr) : Sp := fun vs H Q _ => ∃ (x : Addr) (many places : Int) (v : V) (rs : List ActR) (r : ActR) (ts : List Tm) (ways : List (Str × List Int × Int)), vs = [.ref x, .int many, .int places, v] ∧ WldAt K H C x rs ∧ WOk rs ∧ r ∈ rs ∧ Im K H v (Sta.ask r.nm ts ways).d ∧ AskOk r many places ts ways ∧
  ∀ H', Mv [] H H' → Q (.bl true) H'
section
variable {P : Program} {w : World} {K : PySem.W.Frag} {mg : Str → Option Value} {base : Heap}
theorem ok_is_way (T : TX K mg) {k : Nat} : FnOk P w K mg base CX0 (k + 3) T.d_is_way.f T.d_is_way.fd P_is_way (sp_way K T.C_World) := by
  have G_is_place : FnOk P w K mg base CX0 2 T.d_is_place.f T.d_is_place.fd P_is_place (sp_place K) := ok_is_place T
  have G_are_different : FnOk P w K mg base CX0 2 T.d_are_different.f T.d_are_different.fd P_are_different (sp_diff K) := ok_are_different T
  have G_World_outcomes : FnOk P w K mg base CX0 1 T.d_World_outcomes.f T.d_World_outcomes.fd P_World_outcomes (sp_Wouts K T.C_World) := ok_World_outcomes T
  have G_World_brings : FnOk P w K mg base CX0 1 T.d_World_brings.f T.d_World_brings.fd P_World_brings (sp_Wbrings K T.C_World) := ok_World_brings T
  refine T.d_is_way.F.ok sc_is_way (fun vs H Q E h => ?_) (fun cdv A outer s H vs Q E hr h => ?_)
  · obtain ⟨_, _, _, _, _, _, _, rfl, _⟩ := h
    rfl
  · obtain ⟨x, many, places, v, rs, r, wy, rfl, hW, hrs, hv, ⟨i, hi, hil, wnd, win, g0, g1⟩, hb, q⟩ := h
    have hu64 := hr.units
    have hu65 := hu65_of hr
    obtain ⟨a, x0, x1, x2, rfl, ha, h0, h1, h2⟩ := hv.tup3
    cases h0.strI
    cases h2.intI
    obtain ⟨a1, xs, rfl, ha1, hxs⟩ := h1.tupI
    have hxi := hxs.intsI
    subst hxi
    have hi2 := hb _ hi
    refine ⟨_, (pss_cons (ps_if (PW.pt (pw_or (pt_not (pt_val (pe_callB (r := rIsi K) call_isi (by rfl) T.b_isinstance bt_isinstance (pa_cons (pv 4) (pa_cons (pe_ty T.b_tuple bt_tuple) pa_nil))))) (pw_or (pt_cmpR (r := rNeG K) (op_neG hu64) (pe_callB (r := rLenG K) call_lenG (by rfl) T.b_len bt_len (pa_cons (pv 4) pa_nil)) pe_int (nomark _)) (pw_or1 (pt_not (pt_val (pe_callB (r := rIsi K) call_isi (by rfl) T.b_isinstance bt_isinstance (pa_cons (pe_ix (r := rIx K) ix_seq (pv 4) pe_int (fun _ _ => rfl)) (pa_cons (pe_ty T.b_str bt_str) pa_nil))))))))) (pss_one (ps_ret pe_bl)) pss_nil) (pss_cons (ps_if (PW.pt (pw_or (pt_cmpR (r := rIn K true) op_notIn_seq (pe_ix (r := rIx K) ix_seq (pv 4) pe_int (fun _ _ => rfl)) (pe_methSl (pv 0) T.c_World T.d_World_outcomes.M (fnR_of G_World_outcomes T.d_World_outcomes.b) (hr.mono (by omega)) pass0 (pa_cons (pv 3) pa_nil)) rfl) (pw_or1 (pt_not (pt_val (pe_call G_are_different (hr.mono (by omega)) rfl T.d_are_different.g T.d_are_different.F.kp T.d_are_different.b .nil pass0 (pa_cons (pv 1) (pa_cons (pe_ix (r := rIx K) ix_seq (pv 4) pe_int (fun _ _ => rfl)) pa_nil)))))))) (pss_one (ps_ret pe_bl)) pss_nil) (pss_one (ps_ret (pe_and (pe_cmpR (r := rEqG K) (op_eqG hu64) (pe_callB (r := rLenG K) call_lenG (by rfl) T.b_len bt_len (pa_cons (pe_ix (r := rIx K) ix_seq (pv 4) pe_int (fun _ _ => rfl)) pa_nil)) (pe_methSl (pv 0) T.c_World T.d_World_brings.M (fnR_of G_World_brings T.d_World_brings.b) (hr.mono (by omega)) pass0 (pa_cons (pv 3) (pa_cons (pe_ix (r := rIx K) ix_seq (pv 4) pe_int (fun _ _ => rfl)) pa_nil))) (nomark _)) (pe_one (pe_call G_is_place (hr.mono (by omega)) rfl T.d_is_place.g T.d_is_place.F.kp T.d_is_place.b .nil pass0 (pa_cons (pv 2) (pa_cons (pe_ix (r := rIx K) ix_seq (pv 4) pe_int (fun _ _ => rfl)) pa_nil))))))))), ?_⟩
    refine ⟨.ref a, rfl, ?_⟩
    walk_at "nn"
    refine ⟨_, _, _, _, true, rfl, .ty "tuple", tyx_sqT ha, kit_ty (by decide +kernel), ?_⟩
    refine ⟨_, rfl, ?_⟩
    refine ⟨.ref a, rfl, ?_⟩
    walk_at "nc"
    refine rd_len (.inr ha) (Or.inl ⟨rfl, _, rfl, ?_⟩)
    refine ⟨.ref a, rfl, rd_ixT ha (by decide) (v := .str wy.1) rfl ?_⟩
    walk_at "nn"
    refine ⟨_, _, _, _, true, rfl, .ty "str", .base (.str _), kit_ty (by decide +kernel), ?_⟩
    refine ⟨_, rfl, ?_⟩
    -- in the outcomes
    refine ⟨.ref a, rfl, rd_ixT ha (by decide) (v := .str wy.1) rfl ?_⟩
    obtain ⟨dx, d, zs, hs, hA, hz⟩ := id hW
    refine ⟨.ref x, rfl, x, dx, _, rfl, hs, .str r.nm, rfl, x, rs, r, rfl, hW, hrs, fun p np => ?_⟩
    refine rd_notS upd_same ⟨_, rfl, ?_⟩
    rw [show decide (wy.1 ∈ r.outs.map (·.1)) = true from decide_eq_true (List.mem_map.mpr ⟨_, hi, rfl⟩)]
    have m1 : Mv [] H (upd H p (.lst ((r.outs.map (·.1)).map V.str))) := .new np
    generalize upd H p (.lst ((r.outs.map (·.1)).map V.str)) = H1 at m1 ⊢
    refine ⟨.int many, rfl, .ref a, rfl, rd_ixT (m1.sqT ha) (by decide) (v := .ref a1) rfl ?_⟩
    refine ⟨many, a1, wy.2.1, rfl, m1.sqT ha1, wnd, by omega, win, fun H2 m2 => ⟨_, rfl, ?_⟩⟩
    have m02 := m1.trans m2
    -- as many as it brings
    refine ⟨.ref a, rfl, rd_ixT (m02.sqT ha) (by decide) (v := .ref a1) rfl ?_⟩
    walk_at "nc"
    refine rd_len (.inr (m02.sqT ha1)) ?_
    refine ⟨.ref x, rfl, x, dx, _, rfl, Slt.mv hs m02, .str r.nm, rfl, .ref a, rfl, rd_ixT (m02.sqT ha) (by decide) (v := .str wy.1) rfl ?_⟩
    refine ⟨x, rs, r, wy.1, i, rfl, hW.mv m02, hrs, hi, Or.inl ⟨rfl, _, rfl, ?_⟩⟩
    rw [List.length_map, hil]
    simp only [decide_true]
    refine ⟨.int places, rfl, .ref a, rfl, rd_ixT (m02.sqT ha) (by decide) (v := .int wy.2.2) rfl ?_⟩
    refine ⟨places, .int wy.2.2, .int wy.2.2, a, rfl, rfl, fun H8 m8 => ?_⟩
    rw [show inPl places (.int wy.2.2) = true by simp [inPl, g0, g1]]
    exact q H8 (m02.trans m8)
end
end Fm
namespace Fm
open PySem PySem.Spec PyProof.Rows L2 SlX
local macro_rules | `(tactic| walk_at "nn") => `(tactic| dsimp only [tC, tNil, tCons, tCB, tCall, gName, tSeq, tAsg, tPar, tDrop, tRet])
local macro_rules | `(tactic| walk_at "nc") => `(tactic| dsimp only [tC, tNil, tCons, tCB, tCall])
section
variable {P : Program} {w : World} {K : PySem.W.Frag} {mg : Str → Option Value} {base : Heap}
theorem ok_is_ask (T : TX K mg) {k : Nat} : FnOk P w K mg base CX0 (k + 5) T.d_is_ask.f T.d_is_ask.fd P_is_ask (sp_ask K T.C_World) := by
  have G_is_way : FnOk P w K mg base CX0 3 T.d_is_way.f T.d_is_way.fd P_is_way (sp_way K T.C_World) := ok_is_way T
  have G_are_terms_over : FnOk P w K mg base CX0 4 T.d_are_terms_over.f T.d_are_terms_over.fd P_are_terms_over (sp_termsOver K) := ok_are_terms_over T
  have G_World_acts : FnOk P w K mg base CX0 1 T.d_World_acts.f T.d_World_acts.fd P_World_acts (sp_Wacts K T.C_World) := ok_World_acts T
  have G_World_outcomes : FnOk P w K mg base CX0 1 T.d_World_outcomes.f T.d_World_outcomes.fd P_World_outcomes (sp_Wouts K T.C_World) := ok_World_outcomes T
  have G_World_arguments : FnOk P w K mg base CX0 1 T.d_World_arguments.f T.d_World_arguments.fd P_World_arguments (sp_Wargs K T.C_World) := ok_World_arguments T
  refine T.d_is_ask.F.ok sc_is_ask (fun vs H Q E h => ?_) (fun cdv A outer s H vs Q E hr h => ?_)
  · obtain ⟨_, _, _, _, _, _, _, _, rfl, _⟩ := h
    rfl
  · obtain ⟨x, many, places, v, rs, r, ts, ways, rfl, hW, hWo, hrs, hv, hok, q⟩ := h
    have hu64 := hr.units
    have hu65 := hu65_of hr
    have hro := hWo.ok r hrs
    obtain ⟨a, x0, x1, x2, x3, rfl, ha, h0, h1, h2, h3⟩ := hv.tup4
    cases h1.strI
    obtain ⟨a2, xs2, rfl, ha2, hxs2⟩ := h2.tupI
    obtain ⟨a3, xs3, rfl, ha3, hxs3⟩ := h3.tupI
    have hl2 := hxs2.length
    rw [Tm.ds_map, List.length_map] at hl2
    have hl3 := hxs3.length
    rw [List.length_map] at hl3
    have hwl : ways.length = r.outs.length := by
      have := hok.pm.length_eq
      rwa [List.length_map, List.length_map] at this
    have hw6 := hro.o6
    have row : ∀ (i : Nat) (y : V) (H' : Hp), Mv [] H H' → xs3[i]? = some y → ∃ c ac y1 y2, ways[i]? = some c ∧ y = .ref ac ∧ SqT K H' ac [.str c.1, y1, y2] ∧ Im K H' y (wayD c) := fun i y H' m hx => by
      obtain ⟨d, hd, him⟩ := hxs3.get hx
      rw [List.getElem?_map] at hd
      obtain ⟨c, hc, rfl⟩ := Option.map_eq_some_iff.mp hd
      obtain ⟨ac, y0, y1, y2, rfl, hac, k0, k1, k2⟩ := (him.mv m).tup3
      rw [k0.strI] at hac
      exact ⟨c, ac, y1, y2, hc, rfl, hac, him.mv m⟩
    obtain ⟨dx, d, zs, hs, hA, hz⟩ := id hW
    refine ⟨_, (pss_cons (ps_if (PW.pt (pw_or (pt_cmpR (r := rNeG K) (op_neG hu64) (pe_callB (r := rLenG K) call_lenG (by rfl) T.b_len bt_len (pa_cons (pv 3) pa_nil)) pe_int (nomark _)) (pw_or (pt_not (pt_val (pe_callB (r := rIsi K) call_isi (by rfl) T.b_isinstance bt_isinstance (pa_cons (pe_ix (r := rIx K) ix_seq (pv 3) pe_int (fun _ _ => rfl)) (pa_cons (pe_ty T.b_str bt_str) pa_nil))))) (pw_or1 (pt_cmpR (r := rIn K true) op_notIn_seq (pe_ix (r := rIx K) ix_seq (pv 3) pe_int (fun _ _ => rfl)) (pe_methSl0 (pv 0) T.c_World T.d_World_acts.M (fnR_of G_World_acts T.d_World_acts.b) (hr.mono (by omega)) pass0) rfl))))) (pss_one (ps_ret pe_bl)) pss_nil) (pss_cons (ps_asg (pv 3) (pg_tup rfl (pgs_cons (pg_name (i := 4) sc_is_ask.nd rfl (Or.inl rfl)) (pgs_cons (pg_name (i := 5) sc_is_ask.nd rfl (Or.inr rfl)) (pgs_cons (pg_name (i := 6) sc_is_ask.nd rfl (Or.inl rfl)) (pgs_cons (pg_name (i := 7) sc_is_ask.nd rfl (Or.inl rfl)) pgs_nil)))))) (pss_cons (ps_if (PW.pt (pw_or (pt_not (pt_val (pe_call G_are_terms_over (hr.mono (by omega)) rfl T.d_are_terms_over.g T.d_are_terms_over.F.kp T.d_are_terms_over.b .nil pass0 (pa_cons (pv 1) (pa_cons (pv 6) pa_nil))))) (pw_or (pt_cmpR (r := rNeG K) (op_neG hu64) (pe_callB (r := rLenG K) call_lenG (by rfl) T.b_len bt_len (pa_cons (pv 6) pa_nil)) (pe_methSl (pv 0) T.c_World T.d_World_arguments.M (fnR_of G_World_arguments T.d_World_arguments.b) (hr.mono (by omega)) pass0 (pa_cons (pv 5) pa_nil)) (nomark _)) (pw_or1 (pt_not (pt_val (pe_callB (r := rIsi K) call_isi (by rfl) T.b_isinstance bt_isinstance (pa_cons (pv 7) (pa_cons (pe_ty T.b_tuple bt_tuple) pa_nil))))))))) (pss_one (ps_ret pe_bl)) pss_nil) (pss_cons (ps_if (pt_not (pt_val (pe_callB (r := rAll K) (cr_all rfl) (by rfl) T.b_all bt_all (pa_cons (pe_lc (own := [("way", 8)]) (g := gName 8) (by rfl) sc_is_ask.nd (pi_seq (pv 7)) (blkOk_by (own := [("way", 8)]) (N := N_is_ask) (sc := defScope s_is_ask) (by decide +kernel)) (fun _ _ _ _ _ => pg_name (i := 8) sc_is_ask.nd rfl (Or.inl rfl)) (fun _ _ _ _ _ => pts_nil) (fun _ _ _ _ _ => (pe_call G_is_way (hr.mono (by omega)) rfl T.d_is_way.g T.d_is_way.F.kp T.d_is_way.b .nil pass0 (pa_cons (pv 0) (pa_cons (pv 1) (pa_cons (pv 2) (pa_cons (pv 5) (pa_cons (pv 8) pa_nil)))))))) pa_nil)))) (pss_one (ps_ret pe_bl)) pss_nil) (pss_one (ps_ret (pe_cmpR (r := rEqG K) (op_eqG hu64) (pe_callB (r := rSortA K) (cr_sortA rfl) (by rfl) T.b_sorted bt_sorted (pa_cons (pe_lc (own := [("way", 8)]) (g := gName 8) (by rfl) sc_is_ask.nd (pi_seq (pv 7)) (blkOk_by (own := [("way", 8)]) (N := N_is_ask) (sc := defScope s_is_ask) (by decide +kernel)) (fun _ _ _ _ _ => pg_name (i := 8) sc_is_ask.nd rfl (Or.inl rfl)) (fun _ _ _ _ _ => pts_nil) (fun _ _ _ _ _ => (pe_ix (r := rIx K) ix_seq (pv 8) pe_int (fun _ _ => rfl)))) pa_nil)) (pe_methSl (pv 0) T.c_World T.d_World_outcomes.M (fnR_of G_World_outcomes T.d_World_outcomes.b) (hr.mono (by omega)) pass0 (pa_cons (pv 5) pa_nil)) (nomark _)))))))), ?_⟩
    refine ⟨.ref a, rfl, ?_⟩
    walk_at "nc"
    refine rd_len (.inr ha) (Or.inl ⟨rfl, _, rfl, ?_⟩)
    refine ⟨.ref a, rfl, rd_ixT ha (by decide) (v := .str r.nm) rfl ?_⟩
    walk_at "nn"
    refine ⟨_, _, _, _, true, rfl, .ty "str", .base (.str _), kit_ty (by decide +kernel), ?_⟩
    refine ⟨_, rfl, ?_⟩
    refine ⟨.ref a, rfl, rd_ixT ha (by decide) (v := .str r.nm) rfl ?_⟩
    refine ⟨.ref x, rfl, x, dx, _, rfl, hs, x, rs, rfl, hW, fun p np => ?_⟩
    refine rd_notS upd_same ⟨_, rfl, ?_⟩
    rw [show decide (r.nm ∈ rs.map (·.nm)) = true from decide_eq_true (List.mem_map.mpr ⟨_, hrs, rfl⟩)]
    have m1 : Mv [] H (upd H p (.lst ((rs.map (·.nm)).map V.str))) := .new np
    generalize upd H p (.lst ((rs.map (·.nm)).map V.str)) = H1 at m1 ⊢
    -- word, act, terms, ways = thing
    refine ⟨.ref a, rfl, a, _, rfl, m1.sqT ha, rfl, _, _, rfl, _, _, rfl, _, _, rfl, _, _, rfl, rfl, ?_⟩
    refine ⟨.int many, rfl, .ref a2, rfl, many, .ref a2, ts, rfl, h2.mv m1, ?_, hok.ts, fun H2 m2 => ⟨_, rfl, ?_⟩⟩
    · have := hok.len
      have := hro.ar2
      omega
    have m02 := m1.trans m2
    refine ⟨.ref a2, rfl, ?_⟩
    walk_at "nc"
    refine rd_len (.inr (m02.sqT ha2)) ?_
    refine ⟨.ref x, rfl, x, dx, _, rfl, Slt.mv hs m02, .str r.nm, rfl, x, rs, r, rfl, hW.mv m02, hrs, Or.inl ⟨rfl, _, rfl, ?_⟩⟩
    rw [hl2, hok.len]
    simp only [decide_true]
    refine ⟨.ref a3, rfl, ?_⟩
    walk_at "nn"
    refine ⟨_, _, _, _, true, rfl, .ty "tuple", tyx_sqT (m02.sqT ha3), kit_ty (by decide +kernel), ?_⟩
    refine ⟨_, rfl, ?_⟩
    -- all are ways
    refine ⟨.ref a3, rfl, a3, rfl, ?_⟩
    refine lc_seq (xs := xs3) (.inr (m02.sqT ha3)) (fun i D H3 => H3 D = some (.lst ((List.replicate i true).map V.bl)) ∧ Mv [] H2 H3)
      (fun D nD => ⟨upd_same, .new nD⟩) (fun i D H3 nD h3 => h3.2) (fun D nD i y H3 hx h3 => ?_) (fun D H3 nD h3 => ?_)
    · obtain ⟨e3, m3⟩ := h3
      obtain ⟨c, ac, y1, y2, hc, rfl, hac, him⟩ := row i y H3 (m02.trans m3) hx
      have hi := (List.getElem?_eq_some_iff.mp hc).1
      refine ⟨rfl, .ref x, rfl, .int many, rfl, .int places, rfl, .str r.nm, rfl, .ref ac, rfl, ?_⟩
      refine ⟨x, many, places, .ref ac, rs, r, c, rfl, hW.mv (m02.trans m3), hrs, him, hok.ways c (List.mem_of_getElem? hc), fun e he => (hro.on e he).2, fun H4 m4 => ?_⟩
      refine ⟨_, m4.same _ _ e3, ?_, ?_, (m3.trans m4).wr nD⟩
      · rw [List.length_map, List.length_replicate]
        exact Nat.lt_of_le_of_lt (show i ≤ 1000 by omega) (by decide)
      · rw [upd_same, List.replicate_succ', List.map_append]
        rfl
    obtain ⟨e3, m3⟩ := h3
    refine ⟨D, List.replicate xs3.length true, rfl, .inl (.inl e3), ?_⟩
    rw [show (List.replicate xs3.length true).all id = true by simp]
    refine ⟨_, rfl, ?_⟩
    have m03 := m02.trans m3
    clear e3 nD
    -- sorted of the words
    refine ⟨.ref a3, rfl, a3, rfl, ?_⟩
    refine lc_seq (xs := xs3) (.inr (m03.sqT ha3)) (fun i D H4 => H4 D = some (.lst (((ways.take i).map (·.1)).map V.str)) ∧ Mv [] H3 H4)
      (fun D nD => ⟨upd_same, .new nD⟩) (fun i D H4 nD h4 => h4.2) (fun D nD i y H4 hx h4 => ?_) (fun D H4 nD h4 => ?_)
    · obtain ⟨e4, m4⟩ := h4
      obtain ⟨c, ac, y1, y2, hc, rfl, hac, him⟩ := row i y H4 (m03.trans m4) hx
      have hi := (List.getElem?_eq_some_iff.mp hc).1
      refine ⟨rfl, .ref ac, rfl, rd_ixT hac (by decide) (v := .str c.1) rfl ?_⟩
      refine ⟨_, e4, ?_, ?_, m4.wr nD⟩
      · rw [List.length_map, List.length_map, List.length_take]
        exact Nat.lt_of_le_of_lt (show min i ways.length ≤ 1000 by omega) (by decide)
      · rw [upd_same, List.take_add_one, hc]
        simp
    obtain ⟨e4, m4⟩ := h4
    rw [hl3, List.take_length] at e4
    walk_at "nc"
    refine Or.inr (Or.inl ⟨D, ways.map (·.1), rfl, .inl (.inl e4), by rw [List.length_map]; omega, fun ys p5 hp hsd np5 => ?_⟩)
    have hys : ys = r.outs.map (·.1) := List.Perm.eq_of_pairwise (le := fun a b => leS a b = true) (fun a b _ _ h h' => totS.an _ _ h h') (sortedS_pw ys hsd) (hWo.pw r hrs) (hp.trans hok.pm)
    subst hys
    have m35 : Mv [] H3 (upd H4 p5 (.lst ((r.outs.map (·.1)).map V.str))) := m4.trans (.new np5)
    have e5 : upd H4 p5 (.lst ((r.outs.map (·.1)).map V.str)) p5 = some (.lst ((r.outs.map (·.1)).map V.str)) := upd_same
    generalize upd H4 p5 (.lst ((r.outs.map (·.1)).map V.str)) = H5 at m35 e5 ⊢
    have m05 := m03.trans m35
    refine ⟨.ref x, rfl, x, dx, _, rfl, Slt.mv hs m05, .str r.nm, rfl, x, rs, r, rfl, hW.mv m05, hrs, fun p6 np6 => ?_⟩
    refine rd_eqS (same_new np6 _ _ e5) upd_same (fun s hs => ?_) (q _ (m05.trans (.new np6)))
    obtain ⟨e, he, rfl⟩ := List.mem_map.mp hs
    exact on_ok (hro.on e he).1
end
end Fm
namespace Fm
open PySem PySem.Spec PyProof.Rows L2 SlX
local macro_rules | `(tactic| walk_at "nn") => `(tactic| dsimp only [tC, tNil, tCons, tCB, tCall, gName, tSeq, tAsg, tPar, tDrop, tRet])
local macro_rules | `(tactic| walk_at "nc") => `(tactic| dsimp only [tC, tNil, tCons, tCB, tCall])
/-! rows put in order by their first part -/
theorem Ims.pairs {α : Type} {K : PySem.W.Frag} {H : Hp} {D : α → PyData} : ∀ {rows : List α} {xs : List V}, Ims K H xs (rows.map D) → ∀ z ∈ rows.zip xs, Im K H z.2 (D z.1)
  | [], _, _, z, hz => by simp at hz
  | r :: rows, _, h, z, hz => by
    obtain ⟨v, vs, rfl, h1, h2⟩ := h.invD
    rw [List.zip_cons_cons, List.mem_cons] at hz
    rcases hz with rfl | hz
    · exact h1
    · exact Ims.pairs h2 z hz
theorem Ims.ofPairs {α : Type} {K : PySem.W.Frag} {H : Hp} {D : α → PyData} : ∀ (zs : List (α × V)), (∀ z ∈ zs, Im K H z.2 (D z.1)) → Ims K H (zs.map (·.2)) ((zs.map (·.1)).map D)
  | [], _ => .nil
  | z :: zs, h => .cons (h z (by simp)) (Ims.ofPairs zs fun y hy => h y (by simp [hy]))
theorem sorted_rows {α κ : Type} {K : PySem.W.Frag} {H : Hp} {D : α → PyData} {le : κ → κ → Bool} (t : TotO le) {key : α → κ} {mk : κ → V} {kf : V → κ} (hm : ∀ k, kf (mk k) = k) (hlt : ∀ i j, ltV (mk j) (mk i) = false → le i j = true)
    {rows : List α} {xs : List V} (h : Ims K H xs (rows.map D)) (n : (rows.map key).Nodup) {ps : List (V × V)} (p : ps.Perm ((rows.map fun r => mk (key r)).zip xs)) (s : ps.Pairwise fun p q => ltV q.1 p.1 = false) :
    Ims K H (ps.map (·.2)) ((srt le key rows).map D) := by
  have hl : rows.length = xs.length := by
    have := h.length
    rw [List.length_map] at this
    exact this.symm
  have e1 : (rows.map fun r => mk (key r)).zip xs = (rows.zip xs).map fun z => (mk (key z.1), z.2) := by
    clear h n p
    induction rows generalizing xs with
    | nil => simp
    | cons r rows ih =>
      cases xs with
      | nil => simp at hl
      | cons x xs => simp [ih (xs := xs) (by simpa using hl)]
  rw [e1] at p
  have nz : ((rows.zip xs).map fun z => key z.1).Nodup := by
    have : (rows.zip xs).map (fun z => key z.1) = rows.map key := by
      rw [show (fun z : α × V => key z.1) = key ∘ Prod.fst from rfl, ← List.map_map, List.map_fst_zip (by omega)]
    rw [this]
    exact n
  have n2 : (((rows.zip xs).map fun z => (mk (key z.1), z.2)).map fun z => kf z.1).Nodup := by
    rw [List.map_map]
    rw [show ((fun z : V × V => kf z.1) ∘ fun z : α × V => (mk (key z.1), z.2)) = fun z => key z.1 from funext fun z => hm _]
    exact nz
  have hps : ps = srt le (fun z => kf z.1) ((rows.zip xs).map fun z => (mk (key z.1), z.2)) := by
    refine srt_one t n2 p ?_
    refine List.Pairwise.imp_of_mem ?_ s
    intro a b ha hb hab
    obtain ⟨za, _, rfl⟩ := List.mem_map.mp (p.mem_iff.mp ha)
    obtain ⟨zb, _, rfl⟩ := List.mem_map.mp (p.mem_iff.mp hb)
    simp only [hm]
    exact hlt _ _ hab
  rw [hps, srt_map (k := fun z : α × V => key z.1) (l := fun z : V × V => kf z.1) (f := fun z : α × V => (mk (key z.1), z.2)) t (fun z => hm _) nz, List.map_map]
  have e2 : srt le key rows = (srt le (fun z : α × V => key z.1) (rows.zip xs)).map (·.1) := by
    rw [← srt_map (f := fun z : α × V => z.1) (k := fun z : α × V => key z.1) (l := key) t (fun _ => rfl) nz, List.map_fst_zip (by omega)]
  rw [e2]
  refine Ims.ofPairs (D := D) (srt le (fun z : α × V => key z.1) (rows.zip xs)) fun z hz => ?_
  exact h.pairs z (srt_mem.mp hz)
def kI : V → Int
  | .int i => i
  | _ => 0
def kS : V → Str
  | .str x => x
  | _ => ""
def Sta.ord : Sta → Sta
  | .set chs goal => .set (srt leZ (·.1) chs) goal
  | .ask act ts ways => .ask act ts (srt leS (·.1) ways)
  | .fin word ts => .fin word ts
/-- what ordered needs -/
def Sta.keyed : Sta → Prop
  | .set chs _ => (chs.map (·.1)).Nodup ∧ chs.length ≤ 1000
  | .ask _ _ ways => (ways.map (·.1)).Nodup ∧ ways.length ≤ 1000
  | .fin _ _ => True
theorem fineAll_ints {ns : List Int} (h : ∀ n ∈ ns, n.natAbs < 10 ^ 40) : fineAll (ns.map PyData.int) := fineAll_iff.mpr fun x hx => by
  obtain ⟨n, hn, rfl⟩ := List.mem_map.mp hx
  exact h n hn
theorem nat_of {i n : Int} (h0 : 0 ≤ i) (h1 : i < n) (hn : n ≤ 1000000) : i.natAbs < 10 ^ 40 := by
  have : i.natAbs < 1000001 := by omega
  exact Nat.lt_trans this (by decide)
theorem fine_over {many : Int} {t : Tm} (h : TmOver many t) (hm : many ≤ 1000000) : fine t.d := fine_d (fun i hi => nat_of hi.1 hi.2 hm) t h.1
theorem fineAll_over {many : Int} {ts : List Tm} (h : ∀ t ∈ ts, TmOver many t) (hm : many ≤ 1000000) : fineAll (Tm.ds ts) := by
  rw [Tm.ds_map]
  exact fineAll_iff.mpr fun x hx => by
    obtain ⟨t, ht, rfl⟩ := List.mem_map.mp hx
    exact fine_over (h t ht) hm
theorem depthAll_le {n : Nat} : ∀ {ds : List PyData}, (∀ d ∈ ds, d.depth ≤ n) → PyData.depthAll ds ≤ n
  | [], _ => by simp [PyData.depthAll]
  | d :: ds, h => by
    have h1 := h d (by simp)
    have h2 := depthAll_le (ds := ds) fun e he => h e (by simp [he])
    simp only [PyData.depthAll]
    omega
theorem strOk_set : PyData.strOk "set" = true := by decide +kernel
theorem strOk_ask : PyData.strOk "ask" = true := by decide +kernel
theorem strOk_end : PyData.strOk "end" = true := by decide +kernel
theorem depth_over {many : Int} {ts : List Tm} (h : ∀ t ∈ ts, TmOver many t) : PyData.depthAll (Tm.ds ts) ≤ 50 := by
  rw [Tm.ds_map]
  exact depthAll_le fun d hd => by
    obtain ⟨t, ht, rfl⟩ := List.mem_map.mp hd
    rw [depth_d]
    exact (h t ht).2.2
theorem sta_fine {rs : List ActR} {many places : Int} (hW : WOk rs) (hm : many ≤ 1000000) (hp : places ≤ 1000000) : ∀ {st : Sta}, st.ok rs many places → fine st.d ∧ st.d.depth ≤ 55
  | .set chs goal, ⟨⟨_, _, hc⟩, g0, g1⟩ => by
    constructor
    · simp only [Sta.d, fine, fineAll]
      refine ⟨strOk_set, fineAll_iff.mpr fun x hx => ?_, nat_of g0 g1 hp, trivial⟩
      obtain ⟨c, hc', rfl⟩ := List.mem_map.mp hx
      obtain ⟨c0, c1, c2⟩ := hc c hc'
      exact ⟨nat_of c0 c1 hm, fine_over c2 hm, trivial⟩
    · have : PyData.depthAll (chs.map chD) ≤ 51 := depthAll_le fun d hd => by
        obtain ⟨c, hc', rfl⟩ := List.mem_map.mp hd
        obtain ⟨c0, c1, c2⟩ := hc c hc'
        have := c2.2.2
        simp only [chD, PyData.depth, PyData.depthAll, depth_d]
        omega
      simp only [Sta.d, PyData.depth, PyData.depthAll]
      omega
  | .ask act ts ways, ⟨r, hr, hnm, hk⟩ => by
    subst hnm
    have hro := hW.ok r hr
    constructor
    · simp only [Sta.d, fine, fineAll]
      refine ⟨strOk_ask, nm_ok hro.nm, fineAll_over hk.ts hm, fineAll_iff.mpr fun x hx => ?_, trivial⟩
      obtain ⟨c, hc', rfl⟩ := List.mem_map.mp hx
      obtain ⟨i, hi, _, _, hj, g0, g1⟩ := hk.ways c hc'
      exact ⟨on_ok (hro.on _ hi).1, fineAll_ints fun n hn => nat_of (hj n hn).1 (hj n hn).2 hm, nat_of g0 g1 hp, trivial⟩
    · have : PyData.depthAll (ways.map wayD) ≤ 2 := depthAll_le fun d hd => by
        obtain ⟨c, hc', rfl⟩ := List.mem_map.mp hd
        have : PyData.depthAll (c.2.1.map PyData.int) ≤ 0 := depthAll_le fun d hd => by
          obtain ⟨n, _, rfl⟩ := List.mem_map.mp hd
          simp [PyData.depth]
        simp only [wayD, PyData.depth, PyData.depthAll]
        omega
      have h2 := depth_over hk.ts
      simp only [Sta.d, PyData.depth, PyData.depthAll]
      omega
  | .fin word ts, ⟨hn, _, hts⟩ => by
    constructor
    · simp only [Sta.d, fine, fineAll]
      exact ⟨strOk_end, nm_ok hn, fineAll_over hts hm, trivial⟩
    · have h2 := depth_over hts
      simp only [Sta.d, PyData.depth, PyData.depthAll]
      omega
theorem sta_keyed {rs : List ActR} {many places : Int} (hW : WOk rs) : ∀ {st : Sta}, st.ok rs many places → st.keyed
  | .set chs goal, ⟨⟨h1, h2, _⟩, _, _⟩ => ⟨h1, by omega⟩
  | .ask act ts ways, ⟨r, hr, _, hk⟩ => by
    have := hk.pm.length_eq
    rw [List.length_map, List.length_map] at this
    have := (hW.ok r hr).o6
    exact ⟨(hk.pm.nodup_iff).mpr (hW.ond r hr), by omega⟩
  | .fin word ts, _ => trivial
theorem shaped_of {d : PyData} (h : fine d) (k : d.depth ≤ 55) : SeqAt.shaped d = true := by
  show (d.canLay0 && decide (d.depth ≤ 64)) = true
  rw [(fine_lay d h).1, decide_eq_true (by omega)]
  rfl
def sp_stmt (K : PySem.W.Frag) (C : Addr) : Sp := fun vs H Q _ => ∃ (x : Addr) (many places : Int) (v : V) (rs : List ActR) (st : Sta), vs = [.ref x, .int many, .int places, v] ∧ WldAt K H C x rs ∧ WOk rs ∧ Im K H v st.d ∧ st.ok rs many places ∧ many ≤ 1000000 ∧ places ≤ 1000000 ∧
  ∀ H', Mv [] H H' → Q (.bl true) H'
theorem sta_tup : ∀ st : Sta, ∃ y e es, st.d = .tuple (.str y :: e :: es)
  | .set _ _ => ⟨_, _, _, rfl⟩
  | .ask _ _ _ => ⟨_, _, _, rfl⟩
  | .fin _ _ => ⟨_, _, _, rfl⟩
theorem ne_str {x y : Str} (h : x ≠ y) : decide (V.str x = V.str y) = false := decide_eq_false fun e => h (V.str.inj e)
theorem eqv_unit (d : PyData) (ds : List PyData) : PyData.eqv (.tuple (d :: ds)) (.tuple []) = false := by simp [PyData.eqv, PyData.eqvAll]
section
variable {P : Program} {w : World} {K : PySem.W.Frag} {mg : Str → Option Value} {base : Heap}
theorem ok_is_statement (T : TX K mg) {k : Nat} : FnOk P w K mg base CX0 (k + 6) T.d_is_statement.f T.d_is_statement.fd P_is_statement (sp_stmt K T.C_World) := by
  have G_is_set : FnOk P w K mg base CX0 5 T.d_is_set.f T.d_is_set.fd P_is_set (sp_set K) := ok_is_set T
  have G_is_ask : FnOk P w K mg base CX0 5 T.d_is_ask.f T.d_is_ask.fd P_is_ask (sp_ask K T.C_World) := ok_is_ask T
  have G_is_end : FnOk P w K mg base CX0 5 T.d_is_end.f T.d_is_end.fd P_is_end (sp_end K) := ok_is_end T
  refine T.d_is_statement.F.ok sc_is_statement (fun vs H Q E h => ?_) (fun cdv A outer s H vs Q E hr h => ?_)
  · obtain ⟨_, _, _, _, _, _, rfl, _⟩ := h
    rfl
  · obtain ⟨x, many, places, v, rs, st, rfl, hW, hWo, hv, hok, hm, hp, q⟩ := h
    have hu64 := hr.units
    obtain ⟨hf, hd⟩ := sta_fine hWo hm hp hok
    have hsh := shaped_of hf hd
    obtain ⟨y, e1, es, hst⟩ := sta_tup st
    have hv0 := hv
    rw [hst] at hv0
    obtain ⟨a, xs, rfl, ha, hxs⟩ := hv0.tupI
    obtain ⟨x0, xs', rfl, h0, hxs'⟩ := hxs.invD
    cases h0.strI
    refine ⟨_, (pss_cons (ps_if (PW.pt (pw_or (pt_not (pt_val (pe_callB (r := rIsi K) call_isi (by rfl) T.b_isinstance bt_isinstance (pa_cons (pv 3) (pa_cons (pe_ty T.b_tuple bt_tuple) pa_nil))))) (pw_or (pt_cmpR (r := rEqG K) (op_eqG hu64) (pv 3) (pe_tup pa_nil) (nomark _)) (pw_or1 (pt_not (pt_val (pe_callB (r := rIsi K) call_isi (by rfl) T.b_isinstance bt_isinstance (pa_cons (pe_ix (r := rIx K) ix_seq (pv 3) pe_int (fun _ _ => rfl)) (pa_cons (pe_ty T.b_str bt_str) pa_nil))))))))) (pss_one (ps_ret pe_bl)) pss_nil) (pss_cons (ps_if (pt_cmpR (r := rEqG K) (op_eqG hu64) (pe_ix (r := rIx K) ix_seq (pv 3) pe_int (fun _ _ => rfl)) pe_str (nomark _)) (pss_one (ps_ret (pe_call G_is_set (hr.mono (by omega)) rfl T.d_is_set.g T.d_is_set.F.kp T.d_is_set.b .nil pass0 (pa_cons (pv 1) (pa_cons (pv 2) (pa_cons (pv 3) pa_nil)))))) pss_nil) (pss_cons (ps_if (pt_cmpR (r := rEqG K) (op_eqG hu64) (pe_ix (r := rIx K) ix_seq (pv 3) pe_int (fun _ _ => rfl)) pe_str (nomark _)) (pss_one (ps_ret (pe_call G_is_ask (hr.mono (by omega)) rfl T.d_is_ask.g T.d_is_ask.F.kp T.d_is_ask.b .nil pass0 (pa_cons (pv 0) (pa_cons (pv 1) (pa_cons (pv 2) (pa_cons (pv 3) pa_nil))))))) pss_nil) (pss_one (ps_ret (pe_and (pe_cmpR (r := rEqG K) (op_eqG hu64) (pe_ix (r := rIx K) ix_seq (pv 3) pe_int (fun _ _ => rfl)) pe_str (nomark _)) (pe_one (pe_call G_is_end (hr.mono (by omega)) rfl T.d_is_end.g T.d_is_end.F.kp T.d_is_end.b .nil pass0 (pa_cons (pv 1) (pa_cons (pv 3) pa_nil)))))))))), ?_⟩
    refine ⟨.ref a, rfl, ?_⟩
    walk_at "nn"
    refine ⟨_, _, _, _, true, rfl, .ty "tuple", tyx_sqT ha, kit_ty (by decide +kernel), ?_⟩
    refine ⟨_, rfl, ?_⟩
    refine ⟨.ref a, rfl, Nat.zero_le _, fun p1 np1 => ?_⟩
    have m1 : Mv [] H (upd H p1 (.tup [])) := .new np1
    refine Or.inr ⟨_, .tuple [], (hv.mv m1).dp, .tup (.inl (.inl upd_same)) .nil, hsh, rfl, _, rfl, ?_⟩
    rw [hst, eqv_unit]
    generalize upd H p1 (.tup []) = H1 at m1 ⊢
    refine ⟨.ref a, rfl, rd_ixT (m1.sqT ha) (by decide) (v := .str y) rfl ?_⟩
    walk_at "nn"
    refine ⟨_, _, _, _, true, rfl, .ty "str", .base (.str _), kit_ty (by decide +kernel), ?_⟩
    refine ⟨_, rfl, ?_⟩
    refine ⟨.ref a, rfl, rd_ixT (m1.sqT ha) (by decide) (v := .str y) rfl ?_⟩
    refine Or.inl ⟨rfl, _, rfl, ?_⟩
    cases st with
    | set chs goal =>
      have hy : y = "set" := by simp only [Sta.d, PyData.tuple.injEq, List.cons.injEq, PyData.str.injEq] at hst; exact hst.1.symm
      subst hy
      rw [show decide (V.str "set" = V.str "set") = true from decide_eq_true rfl]
      exact ⟨.int many, rfl, .int places, rfl, .ref a, rfl, many, places, .ref a, chs, goal, rfl, hv.mv m1, hok.1, hok.2.1, hok.2.2, fun H2 m2 => q H2 (m1.trans m2)⟩
    | ask act ts ways =>
      have hy : y = "ask" := by simp only [Sta.d, PyData.tuple.injEq, List.cons.injEq, PyData.str.injEq] at hst; exact hst.1.symm
      subst hy
      obtain ⟨r, hrs, rfl, hak⟩ := hok
      rw [ne_str (by decide +kernel)]
      refine ⟨.ref a, rfl, rd_ixT (m1.sqT ha) (by decide) (v := .str "ask") rfl ?_⟩
      refine Or.inl ⟨rfl, _, rfl, ?_⟩
      rw [show decide (V.str "ask" = V.str "ask") = true from decide_eq_true rfl]
      exact ⟨.ref x, rfl, .int many, rfl, .int places, rfl, .ref a, rfl, x, many, places, .ref a, rs, r, ts, ways, rfl, hW.mv m1, hWo, hrs, hv.mv m1, hak, fun H2 m2 => q H2 (m1.trans m2)⟩
    | fin word ts =>
      have hy : y = "end" := by simp only [Sta.d, PyData.tuple.injEq, List.cons.injEq, PyData.str.injEq] at hst; exact hst.1.symm
      subst hy
      rw [ne_str (by decide +kernel)]
      refine ⟨.ref a, rfl, rd_ixT (m1.sqT ha) (by decide) (v := .str "end") rfl ?_⟩
      refine Or.inl ⟨rfl, _, rfl, ?_⟩
      rw [ne_str (by decide +kernel)]
      refine ⟨.ref a, rfl, rd_ixT (m1.sqT ha) (by decide) (v := .str "end") rfl ?_⟩
      refine Or.inl ⟨rfl, _, rfl, ?_⟩
      rw [show decide (V.str "end" = V.str "end") = true from decide_eq_true rfl]
      exact ⟨.int many, rfl, .ref a, rfl, many, .ref a, word, ts, rfl, hv.mv m1, hok.1, hok.2.1, hok.2.2, fun H2 m2 => q H2 (m1.trans m2)⟩
end
end Fm
namespace Fm
open PySem PySem.Spec PyProof.Rows L2 SlX
local macro_rules | `(tactic| walk_at "nn") => `(tactic| dsimp only [tC, tNil, tCons, tCB, tCall, gName, tSeq, tAsg, tPar, tDrop, tRet])
local macro_rules | `(tactic| walk_at "nc") => `(tactic| dsimp only [tC, tNil, tCons, tCB, tCall])
def sp_first_of (K : PySem.W.Frag) : Sp := fun vs H Q _ => ∃ (a : Addr) (x : V) (xs : List V), vs = [.ref a] ∧ SqT K H a (x :: xs) ∧ Q x H
def sp_ordered (K : PySem.W.Frag) : Sp := fun vs H Q _ => ∃ (v : V) (st : Sta), vs = [v] ∧ Im K H v st.d ∧ st.keyed ∧ ∀ v' H', Mv [] H H' → Im K H' v' st.ord.d → Q v' H'
/-- t[:3] of a tuple of four -/
theorem rd_sl3 {K : PySem.W.Frag} {H : Hp} {Q : VK} {a : Addr} {x y z u : V} (ha : SqT K H a [x, y, z, u]) (h : ∀ p H', Mv [] H H' → SqT K H' p [x, y, z] → Q (.ref p) H') : rSlG K (.ref a) none (some 3) H Q := by
  refine rd_slT ha fun p H' m e => h p H' m ?_
  rw [show (some 3 : Option Int) = some ((3 : Nat) : Int) from rfl, cut_hi] at e
  exact e
section
variable {P : Program} {w : World} {K : PySem.W.Frag} {mg : Str → Option Value} {base : Heap}
theorem ok_first_of (T : TX K mg) {k : Nat} : FnOk P w K mg base CX0 (k + 1) T.d_first_of.f T.d_first_of.fd P_first_of (sp_first_of K) := by
  refine T.d_first_of.F.ok sc_first_of (fun vs H Q E h => ?_) (fun cdv A outer s H vs Q E hr h => ?_)
  · obtain ⟨_, _, _, rfl, _⟩ := h
    rfl
  · obtain ⟨a, x, xs, rfl, ha, q⟩ := h
    refine ⟨_, (pss_one (ps_ret (pe_ix (r := rIx K) ix_seq (pv 0) pe_int (fun _ _ => rfl)))), ?_⟩
    exact ⟨.ref a, rfl, rd_ixT ha (by decide) (v := x) rfl q⟩
theorem ok_ordered (T : TX K mg) {k : Nat} : FnOk P w K mg base CX0 (k + 4) T.d_ordered.f T.d_ordered.fd P_ordered (sp_ordered K) := by
  have G_first_of : FnOk P w K mg base CX0 1 T.d_first_of.f T.d_first_of.fd P_first_of (sp_first_of K) := ok_first_of T
  refine T.d_ordered.F.ok sc_ordered (fun vs H Q E h => ?_) (fun cdv A outer s H vs Q E hr h => ?_)
  · obtain ⟨_, _, rfl, _⟩ := h
    rfl
  · obtain ⟨v, st, rfl, hv, hk, q⟩ := h
    have hu64 := hr.units
    refine ⟨_, (pss_cons (ps_if (pt_cmpR (r := rEqG K) (op_eqG hu64) (pe_ix (r := rIx K) ix_seq (pv 0) pe_int (fun _ _ => rfl)) pe_str (nomark _)) (pss_one (ps_ret (pe_tup (pa_cons pe_str (pa_cons (pe_callTy (r := rTupOf K) call_tupG (by rfl) T.b_tuple bt_tuple (pa_cons (pe_callBK (r := rSortK K T.d_first_of.f (sp_first_of K)) (cr_sortKey (fnR_of G_first_of T.d_first_of.b) (hr.mono (by omega))) (by rfl) T.b_sorted bt_sorted (pa_cons (pe_ix (r := rIx K) ix_seq (pv 0) pe_int (fun _ _ => rfl)) pa_nil) (pk_cons (pe_glob rfl T.d_first_of.g (show L2.RelV (.ref T.d_first_of.f) _ from rfl)) pk_nil)) pa_nil)) (pa_cons (pe_ix (r := rIx K) ix_seq (pv 0) pe_int (fun _ _ => rfl)) pa_nil)))))) pss_nil) (pss_cons (ps_if (pt_cmpR (r := rEqG K) (op_eqG hu64) (pe_ix (r := rIx K) ix_seq (pv 0) pe_int (fun _ _ => rfl)) pe_str (nomark _)) (pss_one (ps_ret (pe_op (r := rAddG K) op_addG (pe_slice (r := rSlG K) sl_G (pv 0) po_none (po_some pe_int)) (pe_tup (pa_cons (pe_callTy (r := rTupOf K) call_tupG (by rfl) T.b_tuple bt_tuple (pa_cons (pe_callBK (r := rSortK K T.d_first_of.f (sp_first_of K)) (cr_sortKey (fnR_of G_first_of T.d_first_of.b) (hr.mono (by omega))) (by rfl) T.b_sorted bt_sorted (pa_cons (pe_ix (r := rIx K) ix_seq (pv 0) pe_int (fun _ _ => rfl)) pa_nil) (pk_cons (pe_glob rfl T.d_first_of.g (show L2.RelV (.ref T.d_first_of.f) _ from rfl)) pk_nil)) pa_nil)) pa_nil))))) pss_nil) (pss_one (ps_ret (pv 0))))), ?_⟩
    cases st with
    | set chs goal =>
      obtain ⟨a, x0, x1, x2, rfl, ha, h0, h1, h2⟩ := hv.tup3
      cases h0.strI
      cases h2.intI
      obtain ⟨a1, xs, rfl, ha1, hxs⟩ := h1.tupI
      refine ⟨.ref a, rfl, rd_ixT ha (by decide) (v := .str "set") rfl ?_⟩
      refine Or.inl ⟨rfl, _, rfl, ?_⟩
      rw [show decide (V.str "set" = V.str "set") = true from decide_eq_true rfl]
      refine ⟨.ref a, rfl, rd_ixT ha (by decide) (v := .ref a1) rfl ?_⟩
      have hl := hxs.length
      rw [List.length_map] at hl
      refine ⟨a1, xs, chs.map fun c => V.int c.1, rfl, rfl, .inr ha1, by rw [List.length_map]; omega, .inl ⟨chs.map (·.1), by rw [List.map_map]; rfl⟩, fun i y c hy hc Q' q' => ?_, fun ps p H1 hpm hpw np keep hp => ?_⟩
      · rw [List.getElem?_map] at hc
        obtain ⟨c, hc', rfl⟩ := Option.map_eq_some_iff.mp hc
        obtain ⟨d, hd, him⟩ := hxs.get hy
        rw [List.getElem?_map, hc'] at hd
        cases hd
        obtain ⟨ac, y0, y1, rfl, hac, k0, k1⟩ := him.tup2
        rw [k0.intI] at hac
        exact ⟨ac, _, _, rfl, hac, q'⟩
      · have m1 : Mv [] H H1 := .of_same keep
        have hI := sorted_rows (D := chD) (key := fun c : Int × Tm => c.1) (mk := V.int) (kf := kI) totZ (fun _ => rfl) (fun i j h => by
          have : decide (j < i) = false := h
          exact decide_eq_true (by have := of_decide_eq_false this; omega)) hxs hk.1 hpm hpw
        walk_at "nc"
        refine rd_tupOf (.inl (.inl hp)) fun p2 H2 m2 e2 => ?_
        have m02 := m1.trans m2
        refine ⟨.ref a, rfl, rd_ixT (m02.sqT ha) (by decide) (v := .int goal) rfl ?_⟩
        refine ⟨(by decide : 3 ≤ sizeLine), fun p3 np3 => ?_⟩
        refine q (.ref p3) _ (m02.trans (.new np3)) ?_
        have m23 : Mv [] H2 (upd H2 p3 (.tup [.str "set", .ref p2, .int goal])) := .new np3
        exact .tup (.inl (.inl upd_same)) (.cons (.str _) (.cons (.tup (m23.sqT e2) (hI.mv (m02.trans m23))) (.cons (.int _) .nil)))
    | ask act ts ways =>
      obtain ⟨a, x0, x1, x2, x3, rfl, ha, h0, h1, h2, h3⟩ := hv.tup4
      cases h0.strI
      obtain ⟨a3, xs, rfl, ha3, hxs⟩ := h3.tupI
      refine ⟨.ref a, rfl, rd_ixT ha (by decide) (v := .str "ask") rfl ?_⟩
      refine Or.inl ⟨rfl, _, rfl, ?_⟩
      rw [ne_str (by decide +kernel)]
      refine ⟨.ref a, rfl, rd_ixT ha (by decide) (v := .str "ask") rfl ?_⟩
      refine Or.inl ⟨rfl, _, rfl, ?_⟩
      rw [show decide (V.str "ask" = V.str "ask") = true from decide_eq_true rfl]
      refine ⟨.ref a, rfl, 3, rfl, rd_sl3 ha fun p0 H0 m0 e0 => ?_⟩
      refine ⟨.ref a, rfl, rd_ixT (m0.sqT ha) (by decide) (v := .ref a3) rfl ?_⟩
      have hl := hxs.length
      rw [List.length_map] at hl
      refine ⟨a3, xs, ways.map fun c => V.str c.1, rfl, rfl, .inr (m0.sqT ha3), by rw [List.length_map]; omega, .inr ⟨ways.map (·.1), by rw [List.map_map]; rfl⟩, fun i y c hy hc Q' q' => ?_, fun ps p H1 hpm hpw np keep hp => ?_⟩
      · rw [List.getElem?_map] at hc
        obtain ⟨c, hc', rfl⟩ := Option.map_eq_some_iff.mp hc
        obtain ⟨d, hd, him⟩ := hxs.get hy
        rw [List.getElem?_map, hc'] at hd
        cases hd
        obtain ⟨ac, y0, y1, y2, rfl, hac, k0, k1, k2⟩ := (him.mv m0).tup3
        rw [k0.strI] at hac
        exact ⟨ac, _, _, rfl, hac, q'⟩
      · have m1 : Mv [] H0 H1 := .of_same keep
        have hI := sorted_rows (D := wayD) (key := fun c : Str × List Int × Int => c.1) (mk := V.str) (kf := kS) totS (fun _ => rfl) (fun i j h => by
          have : decide (j.cps.toList < i.cps.toList) = false := h
          unfold leS
          rw [this]
          rfl) hxs hk.1 hpm hpw
        walk_at "nc"
        refine rd_tupOf (.inl (.inl hp)) fun p2 H2 m2 e2 => ?_
        have m02 := (m0.trans m1).trans m2
        refine ⟨(by decide : 1 ≤ sizeLine), fun p3 np3 => ?_⟩
        have m23 : Mv [] H2 (upd H2 p3 (.tup [.ref p2])) := .new np3
        have e3 : SqT K (upd H2 p3 (.tup [.ref p2])) p3 [.ref p2] := .inl (.inl upd_same)
        generalize upd H2 p3 (.tup [.ref p2]) = H3 at m23 e3 ⊢
        refine rd_cat (m23.sqT (m2.sqT (m1.sqT e0))) e3 (by decide : 4 ≤ sizeLine) fun p4 H4 m4 e4 => ?_
        have m04 := m02.trans (m23.trans m4)
        exact q (.ref p4) _ m04 (.tup e4 (.cons (.str _) (.cons (h1.mv m04) (.cons (h2.mv m04) (.cons (.tup ((m23.trans m4).sqT e2) (hI.mv m04)) .nil)))))
    | fin word ts =>
      obtain ⟨a, x0, x1, x2, rfl, ha, h0, h1, h2⟩ := hv.tup3
      cases h0.strI
      refine ⟨.ref a, rfl, rd_ixT ha (by decide) (v := .str "end") rfl ?_⟩
      refine Or.inl ⟨rfl, _, rfl, ?_⟩
      rw [ne_str (by decide +kernel)]
      refine ⟨.ref a, rfl, rd_ixT ha (by decide) (v := .str "end") rfl ?_⟩
      refine Or.inl ⟨rfl, _, rfl, ?_⟩
      rw [ne_str (by decide +kernel)]
      exact ⟨.ref a, rfl, q (.ref a) H .refl hv⟩
end
end Fm
namespace Fm
open PySem PySem.Spec PyProof.Rows L2 SlX
local macro_rules | `(tactic| walk_at "nn") => `(tactic| dsimp only [tC, tNil, tCons, tCB, tCall, gName, tSeq, tAsg, tPar, tDrop, tRet])
local macro_rules | `(tactic| walk_at "nc") => `(tactic| dsimp only [tC, tNil, tCons, tCB, tCall])
section
variable {H0 H : Hp} {x dx C : Addr} {vs : List (Option V)}
theorem Mv.sl (m : Mv [] H0 H) (nx : H0 x = none) (ndx : H0 dx = none) : Mv [] H0 (slH H x C dx vs) := by
  unfold slH
  exact (m.wr ndx).wr nx
theorem Mv.slP {u u2 : HO} (hne : dx ≠ x) (hx : H x = some u) (h1 : ∀ xs, u ≠ .tup xs) (h2 : ∀ o xs, u ≠ .frz o (.tup xs)) (hd : H dx = some u2) (h3 : ∀ xs, u2 ≠ .tup xs) (h4 : ∀ o xs, u2 ≠ .frz o (.tup xs)) : Mv [x, dx] H (slH H x C dx vs) := by
  have m1 : Mv [x, dx] H (upd H dx (.xd [])) := (Mv.put hd h3 h4).mono (by simp)
  have m2 : Mv [x, dx] (upd H dx (.xd [])) (slH H x C dx vs) := (Mv.put (u := u) (by rw [upd_ne hne.symm]; exact hx) h1 h2).mono (by simp)
  exact m1.trans m2
theorem slH_x : slH H x C dx vs x = some (SlO x C dx vs) := upd_same
theorem slH_dx (hne : dx ≠ x) : slH H x C dx vs dx = some (.xd []) := by
  unfold slH
  rw [upd_ne hne]
  exact upd_same
theorem slO_notup {xs : List V} : SlO x C dx vs ≠ .tup xs := fun z => by
  unfold SlO at z
  cases z
theorem slO_nofrz {o : Obj} {xs : List V} : SlO x C dx vs ≠ .frz o (.tup xs) := fun z => by
  unfold SlO at z
  cases z
theorem Mv.slA (hne : dx ≠ x) (hx : H x = some (.ins C dx [])) (hd : H dx = some (.own x)) {us : List (Option V)} : Mv [x, dx] H (slH H x C dx us) := .slP hne hx (fun _ z => by cases z) (fun _ _ z => by cases z) hd (fun _ z => by cases z) (fun _ _ z => by cases z)
theorem Mv.slB (hne : dx ≠ x) (hx : H x = some (SlO x C dx vs)) (hd : H dx = some (.xd [])) {us : List (Option V)} : Mv [x, dx] H (slH H x C dx us) := .slP hne hx (fun _ => slO_notup) (fun _ _ => slO_nofrz) hd (fun _ z => by cases z) (fun _ _ z => by cases z)
end
/-- a Code at x over the World at wx -/
def CodAt (K : PySem.W.Frag) (H : Hp) (C CW x wx : Addr) (rs : List ActR) (many given : Int) (sts : List Sta) : Prop := ∃ dx l xs, Slt H x C dx [some (.int given), some (.ref l), some (.int many), some (.ref wx)] ∧ WldAt K H CW wx rs ∧ H l = some (.lst xs) ∧ Ims K H xs (sts.map Sta.d)
/-- the same, its list of statements at l -/
def CodL (K : PySem.W.Frag) (H : Hp) (C CW l x wx : Addr) (rs : List ActR) (many given : Int) (sts : List Sta) : Prop := ∃ dx xs, Slt H x C dx [some (.int given), some (.ref l), some (.int many), some (.ref wx)] ∧ WldAt K H CW wx rs ∧ H l = some (.lst xs) ∧ Ims K H xs (sts.map Sta.d)
theorem CodL.at_ {K : PySem.W.Frag} {H : Hp} {C CW l x wx : Addr} {rs : List ActR} {many given : Int} {sts : List Sta} : CodL K H C CW l x wx rs many given sts → CodAt K H C CW x wx rs many given sts := fun ⟨dx, xs, h⟩ => ⟨dx, l, xs, h⟩
theorem Slt.put {H : Hp} {p a C dx : Addr} {o : HO} {zs : List V} {vs : List (Option V)} (h : Slt H a C dx vs) (hp : H p = some (.lst zs)) : Slt (upd H p o) a C dx vs := by
  have ne : ∀ {q u}, H q = some u → (∀ xs, u ≠ .lst xs) → q ≠ p := fun e n z => by
    subst z
    rw [hp] at e
    exact n _ (Option.some.inj e).symm
  rcases h with ⟨h1, h2⟩ | ⟨h1, h2⟩
  · exact .inl ⟨by rw [upd_ne (ne h1 (fun _ z => by cases z))]; exact h1, h2⟩
  · exact .inr ⟨by rw [upd_ne (ne h1 slO_nolst)]; exact h1, by rw [upd_ne (ne h2 (fun _ z => by cases z))]; exact h2⟩
theorem CodL.put {K : PySem.W.Frag} {H : Hp} {C CW l x wx p : Addr} {o : HO} {zs : List V} {rs : List ActR} {many given : Int} {sts : List Sta} (h : CodL K H C CW l x wx rs many given sts) (hp : H p = some (.lst zs)) (hl : l ≠ p) (hW : WldAt K (upd H p o) CW wx rs) : CodL K (upd H p o) C CW l x wx rs many given sts := by
  obtain ⟨dx, xs, h1, _, h3, h4⟩ := h
  exact ⟨dx, xs, Slt.put h1 hp, hW, by rw [upd_ne hl]; exact h3, h4.mv (Mv.set (S := [p]) hp (by simp))⟩
theorem Bag.ne_sta {K : PySem.W.Frag} {H : Hp} {b l : Addr} {xs : List V} {sts : List Sta} (hB : Bag H b) (hl : H l = some (.lst xs)) (hx : Ims K H xs (sts.map Sta.d)) : l ≠ b := by
  rintro rfl
  obtain ⟨c, s, m, k, ns, h1, _⟩ := hB
  rw [h1] at hl
  have := Option.some.inj hl
  injection this with this
  subst this
  cases sts with
  | nil => have := hx.nilD; cases this
  | cons st sts =>
    obtain ⟨v, vs, e, h2, _⟩ := hx.invD
    cases e
    obtain ⟨y, e1, es, hst⟩ := sta_tup st
    rw [hst] at h2
    obtain ⟨a, xs, e, _⟩ := h2.tupI
    cases e
section
variable {K : PySem.W.Frag} {H H' : Hp} {b C CW x wx : Addr} {rs : List ActR} {many given : Int} {sts : List Sta}
theorem CodAt.mv (h : CodAt K H C CW x wx rs many given sts) (m : Mv [] H H') : CodAt K H' C CW x wx rs many given sts := by
  obtain ⟨dx, l, xs, h1, h2, h3, h4⟩ := h
  exact ⟨dx, l, xs, Slt.mv h1 m, h2.mv m, m.same _ _ h3, h4.mv m⟩
theorem CodL.dr {l : Addr} (h : CodL K H C CW l x wx rs many given sts) (m : Dr b H H') (hB : Bag H b) : CodL K H' C CW l x wx rs many given sts := by
  obtain ⟨dx, xs, h1, h2, h3, h4⟩ := h
  exact ⟨dx, xs, Slt.dr h1 m hB, h2.dr m hB, m.get (hB.ne_sta h3 h4) h3, h4.mv m.mv⟩
theorem CodAt.dr (h : CodAt K H C CW x wx rs many given sts) (m : Dr b H H') (hB : Bag H b) : CodAt K H' C CW x wx rs many given sts := by
  obtain ⟨dx, l, xs, h1, h2, h3, h4⟩ := h
  exact ⟨dx, l, xs, Slt.dr h1 m hB, h2.dr m hB, m.get (hB.ne_sta h3 h4) h3, h4.mv m.mv⟩
end
def sp_Code (K : PySem.W.Frag) (C CW : Addr) : Sp := fun vs H Q _ => ∃ (x dx wx sl : Addr) (rs : List ActR) (many given : Int) (xs : List V) (sts : List Sta) (H0 : Hp), vs = [.ref x, .ref wx, .int many, .int given, .ref sl] ∧ H = upd (upd H0 dx (.own x)) x (.ins C dx []) ∧ H0 x = none ∧ H0 dx = none ∧ dx ≠ x ∧
  WldAt K H0 CW wx rs ∧ WOk rs ∧ 0 ≤ many ∧ many ≤ 24 ∧ 0 ≤ given ∧ given ≤ many ∧ (H0 sl = some (.lst xs) ∨ SqT K H0 sl xs) ∧ Ims K H0 xs (sts.map Sta.d) ∧ (∀ st ∈ sts, st.ok rs many sts.length) ∧ 0 < sts.length ∧ sts.length ≤ 1000 ∧
  ∀ l H', Mv [] H0 H' → H0 l = none → CodL K H' C CW l x wx rs many given (sts.map Sta.ord) → Q .non H'
theorem Mv.seq {K : PySem.W.Frag} {H H' : Hp} {a : Addr} {xs : List V} (m : Mv [] H H') (h : SqL K H a xs ∨ SqT K H a xs) : SqL K H' a xs ∨ SqT K H' a xs := h.imp (fun h => m.same.seq h) fun h => m.sqT h
section
variable {P : Program} {w : World} {K : PySem.W.Frag} {mg : Str → Option Value} {base : Heap}
theorem ok_Code___init__ (T : TX K mg) {k : Nat} : FnOk P w K mg base CX0 (k + 7) T.d_Code___init__.f T.d_Code___init__.fd P_Code___init__ (sp_Code K T.C_Code T.C_World) := by
  have G_is_integer : FnOk P w K mg base CX0 1 T.d_is_integer.f T.d_is_integer.fd P_is_integer (sp_kind K isWhole) := ok_is_integer T
  have G_is_statement : FnOk P w K mg base CX0 6 T.d_is_statement.f T.d_is_statement.fd P_is_statement (sp_stmt K T.C_World) := ok_is_statement T
  have G_ordered : FnOk P w K mg base CX0 4 T.d_ordered.f T.d_ordered.fd P_ordered (sp_ordered K) := ok_ordered T
  refine T.d_Code___init__.F.ok sc_Code___init__ (fun vs H Q E h => ?_) (fun cdv A outer s H vs Q E hr h => ?_)
  · obtain ⟨_, _, _, _, _, _, _, _, _, _, rfl, _⟩ := h
    rfl
  · obtain ⟨x, dx, wx, sl, rs, many, given, xs, sts, H0, rfl, eH, nx, ndx, hne, hW0, hWo, hm0, hm1, hg0, hg1, hS0, hxs0, hok, hl0, hl1, q⟩ := h
    have hu65 := hu65_of hr
    have hu64 := hr.units
    refine ⟨_, (pss_cons (ps_set (i := 5) sc_Code___init__.nd rfl (Or.inl rfl) (pe_lst (pa_cons (pe_callB (r := rIsiSl K (.ref T.C_World)) (call_isiSl (.ref T.C_World)) (by rfl) T.b_isinstance bt_isinstance (pa_cons (pv 1) (pa_cons (pe_glob rfl T.g_World (show L2.RelV (.ref T.C_World) _ from rfl)) pa_nil))) (pa_cons (pe_and (pe_call G_is_integer (hr.mono (by omega)) rfl T.d_is_integer.g T.d_is_integer.F.kp T.d_is_integer.b .nil pass0 (pa_cons (pv 2) pa_nil)) (pe_one (pe_chain op_le op_le pe_int (pv 2) (pe_glob rfl T.c_MOST_VARIABLES T.r_MOST_VARIABLES)))) pa_nil)))) (pss_cons (ps_expr (pe_bm PySem.F.plainAttrs_list PySem.F.slot_list_append PySem.F.type_list_append mt_append (pv 5) (pa_cons (pe_and (pe_call G_is_integer (hr.mono (by omega)) rfl T.d_is_integer.g T.d_is_integer.F.kp T.d_is_integer.b .nil pass0 (pa_cons (pv 3) pa_nil)) (pe_and (pe_cmpR op_le pe_int (pv 3) (nomark _)) (pe_one (pe_or (pe_not (pe_ix (r := rIx K) ix_seq (pv 5) pe_int (fun _ _ => rfl))) (pe_one (pe_cmpR op_le (pv 3) (pv 2) (nomark _))))))) pa_nil))) (pss_cons (ps_expr (pe_bm PySem.F.plainAttrs_list PySem.F.slot_list_append PySem.F.type_list_append mt_append (pv 5) (pa_cons (pe_and (pe_callB (r := rIsiT K) call_isiT (by rfl) T.b_isinstance bt_isinstance (pa_cons (pv 4) (pa_cons (pe_tup (pa_cons (pe_ty T.b_list bt_list) (pa_cons (pe_ty T.b_tuple bt_tuple) pa_nil))) pa_nil))) (pe_one (pe_cmpR op_gt (pe_callB (r := rLenG K) call_lenG (by rfl) T.b_len bt_len (pa_cons (pv 4) pa_nil)) pe_int (nomark _)))) pa_nil))) (pss_cons (ps_if (pt_cmpR (r := rInG K) (op_inG hu65) pe_bl (pv 5) rfl) (pss_one ps_never) pss_nil) (pss_cons (ps_for PassesOwn.never rfl (pi_enumG (by rfl) T.b_enumerate (pa_cons (pv 4) pa_nil)) (pg_tup rfl (pgs_cons (pg_name (i := 6) sc_Code___init__.nd rfl (Or.inl rfl)) (pgs_cons (pg_name (i := 7) sc_Code___init__.nd rfl (Or.inl rfl)) pgs_nil))) (pss_one (ps_if (pt_not (pt_val (pe_call G_is_statement (hr.mono (by omega)) rfl T.d_is_statement.g T.d_is_statement.F.kp T.d_is_statement.b .nil pass0 (pa_cons (pv 1) (pa_cons (pv 2) (pa_cons (pe_callB (r := rLenG K) call_lenG (by rfl) T.b_len bt_len (pa_cons (pv 4) pa_nil)) (pa_cons (pv 7) pa_nil))))))) (pss_one ps_never) pss_nil))) (pss_cons (ps_asg (pe_tup (pa_cons (pv 1) (pa_cons (pv 2) (pa_cons (pv 3) pa_nil)))) (pg_tup rfl (pgs_cons (pg_sl (pv 0)) (pgs_cons (pg_sl (pv 0)) (pgs_cons (pg_sl (pv 0)) pgs_nil))))) (pss_one (ps_sl (pv 0) (pe_lc (own := [("statement", 7)]) (g := gName 7) (by rfl) sc_Code___init__.nd (pi_seq (pv 4)) (blkOk_by (own := [("statement", 7)]) (N := N_Code___init__) (sc := defScope s_Code___init__) (by decide +kernel)) (fun _ _ _ _ _ => pg_name (i := 7) sc_Code___init__.nd rfl (Or.inl rfl)) (fun _ _ _ _ _ => pts_nil) (fun _ _ _ _ _ => (pe_call G_ordered (hr.mono (by omega)) rfl T.d_ordered.g T.d_ordered.F.kp T.d_ordered.b .nil pass0 (pa_cons (pv 7) pa_nil)))))))))))), ?_⟩
    have mH : Mv [] H0 H := by
      rw [eH]
      exact (Mv.new ndx).wr nx
    have hx : H x = some (.ins T.C_Code dx []) := by rw [eH]; exact upd_same
    have hdx : H dx = some (.own x) := by rw [eH, upd_ne hne]; exact upd_same
    clear eH
    have hW := hW0.mv mH
    have hS1 : H sl = some (.lst xs) ∨ SqT K H sl xs := hS0.imp (mH.same _ _) mH.sqT
    have hS : SqL K H sl xs ∨ SqT K H sl xs := hS1.imp (fun h => .inl (.inl h)) id
    obtain ⟨dw, d, zs, hs, hA, hz⟩ := id hW
    refine ⟨.ref wx, rfl, ?_⟩
    walk_at "nn"
    refine ⟨wx, T.C_World, dw, _, .ref T.C_World, true, rfl, rfl, fun _ h => h, hs, T.c_World, T.is_World, kitOne_self _, ?_⟩
    refine ⟨.int many, rfl, .int many, .int many, x, rfl, rfl, fun H1 m1 => ⟨_, rfl, .int many, rfl, 0, many, rfl, rfl, _, rfl, ?_⟩⟩
    rw [show decide ((0 : Int) ≤ many) = true from decide_eq_true hm0]
    refine ⟨many, 24, rfl, rfl, ?_⟩
    dsimp only
    rw [show decide (many ≤ (24 : Int)) = true from decide_eq_true hm1]
    refine ⟨(by decide : 2 ≤ sizeLine), fun l nl => ?_⟩
    have e2 : upd H1 l (.lst [.bl true, .bl true]) l = some (.lst [.bl true, .bl true]) := upd_same
    have m2 : Mv [] H (upd H1 l (.lst [.bl true, .bl true])) := m1.trans (.new nl)
    have nlH := m1.free nl
    generalize upd H1 l (.lst [.bl true, .bl true]) = H2 at e2 m2 ⊢
    refine ⟨.ref l, rfl, .inl ⟨rfl, _, .inl (.inl e2)⟩, ?_⟩
    refine ⟨.int given, rfl, .int given, .int given, x, rfl, rfl, fun H3 m3 => ⟨_, rfl, .int given, rfl, 0, given, rfl, rfl, _, rfl, ?_⟩⟩
    rw [show decide ((0 : Int) ≤ given) = true from decide_eq_true hg0]
    have e3 := m3.same _ _ e2
    refine ⟨.ref l, rfl, rd_ixL (.inl (.inl e3)) (by decide) (v := .bl true) rfl ?_⟩
    refine ⟨_, rfl, _, rfl, .int given, rfl, .int many, rfl, given, many, rfl, rfl, ?_⟩
    dsimp only
    rw [show decide (given ≤ many) = true from decide_eq_true hg1]
    refine ⟨l, _, _, rfl, rfl, e3, (by decide : 2 < sizeLine), ?_⟩
    have m4 : Mv [] H (upd H3 l (.lst ([.bl true, .bl true] ++ [.bl true]))) := (m2.trans m3).wr nlH
    have e4 : upd H3 l (.lst ([.bl true, .bl true] ++ [.bl true])) l = some (.lst [.bl true, .bl true, .bl true]) := upd_same
    generalize upd H3 l (.lst ([.bl true, .bl true] ++ [.bl true])) = H4 at m4 e4 ⊢
    refine ⟨.ref l, rfl, .inl ⟨rfl, _, .inl (.inl e4)⟩, ?_⟩
    have hS4 := m4.seq hS
    have hxl : xs.length = sts.length := by
      have := hxs0.length
      rwa [List.length_map] at this
    refine ⟨.ref sl, rfl, (by decide : 2 ≤ sizeLine), fun p5 np5 => ?_⟩
    have m5 : Mv [] H4 (upd H4 p5 (.tup [.ty "list", .ty "tuple"])) := .new np5
    have e5 : upd H4 p5 (.tup [.ty "list", .ty "tuple"]) p5 = some (.tup [.ty "list", .ty "tuple"]) := upd_same
    generalize upd H4 p5 (.tup [.ty "list", .ty "tuple"]) = H5 at m5 e5 ⊢
    have ty5 : ∃ t, TyX K H5 (.ref sl) t ∧ PySem.W.kitAny K t [.type "list", .type "tuple"] = some true := by
      rcases hS1 with h | h
      · exact ⟨_, .base (.lst (m5.same _ _ (m4.same _ _ h))), kitAny_cons (b := true) (kit_ty (b := "list") (by decide +kernel)) (fun z => by cases z) (fun _ => rfl)⟩
      · exact ⟨_, tyx_sqT (m5.sqT (m4.sqT h)), kitAny_cons (r := true) (kit_ty (a := "tuple") (b := "list") (r := false) (by decide +kernel)) (fun _ => kitAny_cons (b := true) (kit_ty (by decide +kernel)) (fun z => by cases z) (fun _ => rfl)) (fun z => by cases z)⟩
    obtain ⟨ty, hty, hka⟩ := ty5
    refine ⟨_, p5, _, ty, [.type "list", .type "tuple"], true, rfl, e5, .cons (.ty "list") (.cons (.ty "tuple") .nil), hty, hka, ?_⟩
    refine ⟨_, rfl, .ref sl, rfl, ?_⟩
    walk_at "nc"
    refine rd_len (m5.seq hS4) ⟨_, 0, rfl, rfl, ?_⟩
    dsimp only
    rw [show decide ((0 : Int) < ((xs.length : Nat) : Int)) = true from decide_eq_true (by omega)]
    refine ⟨l, _, _, rfl, rfl, m5.same _ _ e4, (by decide : 3 < sizeLine), ?_⟩
    have m6 : Mv [] H (upd H5 l (.lst ([.bl true, .bl true, .bl true] ++ [.bl true]))) := (m4.trans m5).wr nlH
    have e6 : upd H5 l (.lst ([.bl true, .bl true, .bl true] ++ [.bl true])) l = some (.lst [.bl true, .bl true, .bl true, .bl true]) := upd_same
    generalize upd H5 l (.lst ([.bl true, .bl true, .bl true] ++ [.bl true])) = H6 at m6 e6 ⊢
    refine ⟨.ref l, rfl, Or.inl ⟨.bool false, [.bool true, .bool true, .bool true, .bool true], .bl false, .lst (.inl (.inl e6)) (.cons (.bl _) (.cons (.bl _) (.cons (.bl _) (.cons (.bl _) .nil)))), rfl, rfl, ?_⟩⟩
    refine ⟨_, rfl, ?_⟩
    rw [show (List.any [PyData.bool true, .bool true, .bool true, .bool true] fun z => PyData.eqv z (.bool false)) = false from rfl]
    -- the loop
    refine ⟨.ref sl, rfl, sl, xs, rfl, ?_⟩
    refine for_enumG (R := True) (xs := xs) (m6.seq hS) (fun i σ H7 => ∃ y z, σ = [some (.ref x), some (.ref wx), some (.int many), some (.int given), some (.ref sl), some (.ref l), y, z] ∧ Mv [] H6 H7)
      ⟨none, none, rfl, .refl⟩ (fun i σ H7 h7 => h7.choose_spec.choose_spec.2) (fun i y t σ H7 hy h7 nt => ?_) (fun σ H7 h7 => ?_)
    · obtain ⟨y0, z0, rfl, m7⟩ := h7
      have m8 : Mv [] H7 (upd H7 t (.tup [.int (i : Nat), y])) := .new nt
      have e8 : SqT K (upd H7 t (.tup [.int (i : Nat), y])) t [.int (i : Nat), y] := .inl (.inl upd_same)
      generalize upd H7 t (.tup [.int (i : Nat), y]) = H8 at m8 e8 ⊢
      have m08 := m6.trans (m7.trans m8)
      obtain ⟨d1, hd1, him⟩ := hxs0.get hy
      rw [List.getElem?_map] at hd1
      obtain ⟨st, hst, rfl⟩ := Option.map_eq_some_iff.mp hd1
      refine ⟨t, _, rfl, e8, rfl, _, _, rfl, _, _, rfl, rfl, ?_⟩
      refine ⟨.ref wx, rfl, .int many, rfl, .ref sl, rfl, ?_⟩
      walk_at "nc"
      refine rd_len (m08.seq hS) ?_
      refine ⟨y, rfl, wx, many, _, y, rs, st, rfl, hW.mv m08, hWo, him.mv (mH.trans m08), ?_, by omega, by omega, fun H9 m9 => ⟨_, rfl, _, _, rfl, (m7.trans m8).trans m9⟩⟩
      rw [hxl]
      exact hok st (List.mem_of_getElem? hst)
    · obtain ⟨y0, z0, rfl, m7⟩ := h7
      have m07 := m6.trans m7
      refine ⟨.ref wx, rfl, .int many, rfl, .int given, rfl, (by decide : 3 ≤ sizeLine), fun p8 np8 => ?_⟩
      have m8 : Mv [] H (upd H7 p8 (.tup [.ref wx, .int many, .int given])) := m07.trans (.new np8)
      have e8 : SqT K (upd H7 p8 (.tup [.ref wx, .int many, .int given])) p8 [.ref wx, .int many, .int given] := .inl (.inl upd_same)
      generalize upd H7 p8 (.tup [.ref wx, .int many, .int given]) = H8 at m8 e8 ⊢
      refine ⟨p8, _, rfl, e8, rfl, _, _, rfl, ?_⟩
      have hx8 := m8.same _ _ hx
      have hd8 := m8.same _ _ hdx
      refine ⟨.ref x, rfl, x, T.C_Code, dx, T.p_Code_its_world, [], 3, rfl, Or.inl ⟨hx8, rfl⟩, T.c_Code, T.sl_Code_its_world, ?_⟩
      have k9 := Mv.slA hne hx8 hd8 (us := putS 3 (.ref wx) [])
      have m9 := (mH.trans m8).sl (C := T.C_Code) (vs := putS 3 (.ref wx) []) nx ndx
      have hx9 := slH_x (H := H8) (x := x) (C := T.C_Code) (dx := dx) (vs := putS 3 (.ref wx) [])
      have hd9 := slH_dx (H := H8) (C := T.C_Code) (vs := putS 3 (.ref wx) []) hne
      have hs9 := slH_slt (H := H8) (C := T.C_Code) (vs := putS 3 (.ref wx) []) hne
      generalize slH H8 x T.C_Code dx (putS 3 (.ref wx) []) = H9 at k9 m9 hx9 hd9 hs9 ⊢
      refine ⟨_, _, rfl, ?_⟩
      refine ⟨.ref x, rfl, x, T.C_Code, dx, T.p_Code_its_variables, _, 2, rfl, hs9, T.c_Code, T.sl_Code_its_variables, ?_⟩
      have m10 := m9.sl (C := T.C_Code) (vs := putS 2 (.int many) (putS 3 (.ref wx) [])) nx ndx
      have hx10 := slH_x (H := H9) (x := x) (C := T.C_Code) (dx := dx) (vs := putS 2 (.int many) (putS 3 (.ref wx) []))
      have hd10 := slH_dx (H := H9) (C := T.C_Code) (vs := putS 2 (.int many) (putS 3 (.ref wx) [])) hne
      have hs10 := slH_slt (H := H9) (C := T.C_Code) (vs := putS 2 (.int many) (putS 3 (.ref wx) [])) hne
      generalize slH H9 x T.C_Code dx (putS 2 (.int many) (putS 3 (.ref wx) [])) = H10 at m10 hx10 hd10 hs10 ⊢
      refine ⟨_, _, rfl, ?_⟩
      refine ⟨.ref x, rfl, x, T.C_Code, dx, T.p_Code_its_given, _, 0, rfl, hs10, T.c_Code, T.sl_Code_its_given, ?_⟩
      have m11 := m10.sl (C := T.C_Code) (vs := putS 0 (.int given) (putS 2 (.int many) (putS 3 (.ref wx) []))) nx ndx
      have hx11 := slH_x (H := H10) (x := x) (C := T.C_Code) (dx := dx) (vs := putS 0 (.int given) (putS 2 (.int many) (putS 3 (.ref wx) [])))
      have hd11 := slH_dx (H := H10) (C := T.C_Code) (vs := putS 0 (.int given) (putS 2 (.int many) (putS 3 (.ref wx) []))) hne
      have hs11 := slH_slt (H := H10) (C := T.C_Code) (vs := putS 0 (.int given) (putS 2 (.int many) (putS 3 (.ref wx) []))) hne
      generalize slH H10 x T.C_Code dx (putS 0 (.int given) (putS 2 (.int many) (putS 3 (.ref wx) []))) = H11 at m11 hx11 hd11 hs11 ⊢
      refine ⟨rfl, ?_⟩
      -- the statements in order
      refine ⟨.ref sl, rfl, sl, rfl, ?_⟩
      have hS11 : SqL K H11 sl xs ∨ SqT K H11 sl xs := m11.seq (hS0.imp (fun h => .inl (.inl h)) id)
      refine lc_seq (xs := xs) hS11 (fun i D H12 => ∃ ys, H12 D = some (.lst ys) ∧ Ims K H12 ys ((sts.take i).map fun st => st.ord.d) ∧ Mv [] H11 H12)
        (fun D nD => ⟨[], upd_same, Ims.nil, .new nD⟩) (fun i D H12 nD h12 => h12.choose_spec.2.2) (fun D nD i y H12 hy h12 => ?_) (fun D H12 nD h12 => ?_)
      · obtain ⟨ys, e12, i12, m12⟩ := h12
        obtain ⟨d1, hd1, him⟩ := hxs0.get hy
        rw [List.getElem?_map] at hd1
        obtain ⟨st, hst, rfl⟩ := Option.map_eq_some_iff.mp hd1
        have hi := (List.getElem?_eq_some_iff.mp hst).1
        refine ⟨rfl, y, rfl, y, st, rfl, him.mv (m11.trans m12), sta_keyed hWo (hok st (List.mem_of_getElem? hst)), fun v H13 m13 i13 => ?_⟩
        have e13 := m13.same _ _ e12
        have hw : Mv [D] H13 (upd H13 D (.lst (ys ++ [v]))) := .set e13 (by simp)
        refine ⟨ys, e13, ?_, _, upd_same, ?_, (m12.trans m13).wr nD⟩
        · rw [i12.length, List.length_map, List.length_take]
          exact Nat.lt_of_le_of_lt (show min i sts.length ≤ 1000 by omega) (by decide)
        · rw [List.take_add_one, hst, List.map_append]
          exact ((i12.mv m13).append (.cons i13 .nil)).mv hw
      · obtain ⟨ys, e12, i12, m12⟩ := h12
        rw [hxl, List.take_length] at i12
        refine ⟨.ref x, rfl, x, T.C_Code, dx, T.p_Code_its_statements, _, 1, rfl, Slt.mv hs11 m12, T.c_Code, T.sl_Code_its_statements, ?_⟩
        have hx12 := m12.same _ _ hx11
        have hd12 := m12.same _ _ hd11
        refine q D _ ((m11.trans m12).sl nx ndx) (m11.free nD) ⟨dx, ys, slH_slt hne, hW0.mv ((m11.trans m12).sl nx ndx), ?_, ?_⟩
        · rw [slH_ne (by rintro rfl; rw [hx12] at e12; exact slO_nolst ys (Option.some.inj e12)) (by rintro rfl; rw [hd12] at e12; cases e12)]
          exact e12
        · rw [List.map_map]
          exact i12.mv (Mv.slB hne hx12 hd12)
end
end Fm
namespace Fm
open PySem PySem.Spec PyProof.Rows L2 SlX
local macro_rules | `(tactic| walk_at "nn") => `(tactic| dsimp only [tC, tNil, tCons, tCB, tCall, gName, tSeq, tAsg, tPar, tDrop, tRet])
local macro_rules | `(tactic| walk_at "nc") => `(tactic| dsimp only [tC, tNil, tCons, tCB, tCall])
/-- code.statement(i): the statement, or NoPlace -/
def sp_stAt (K : PySem.W.Frag) (C CW D : Addr) : Sp := fun vs H Q E => ∃ (x wx : Addr) (rs : List ActR) (many given : Int) (sts : List Sta) (i : Int), vs = [.ref x, .int i] ∧ CodAt K H C CW x wx rs many given sts ∧
  (0 ≤ i → i < sts.length → ∀ v st H', sts[i.toNat]? = some st → Mv [] H H' → Im K H' v st.d → Q v H') ∧
  (¬ (0 ≤ i ∧ i < sts.length) → ∀ d H', Mv [] H H' → H' d = none → E (.ref D) (some d) (upd H' d (.xd [("place", .int i)])))
/-! what a place shows -/
def isSet (sts : List Sta) (p : Int) : Bool := match sts[p.toNat]? with
  | some (.set _ _) => true
  | _ => false
def stp (sts : List Sta) (p : Int) : Int := match sts[p.toNat]? with
  | some (.set _ g) => g
  | _ => p
def orb (sts : List Sta) (p : Int) : Nat → Int
  | 0 => p
  | n + 1 => stp sts (orb sts p n)
/-- r is what the place p shows -/
def Shows (sts : List Sta) (p : Int) : Option Int → Prop
  | some q => ∃ n, orb sts p n = q ∧ isSet sts q = false
  | none => ∀ n, isSet sts (orb sts p n) = true
theorem stp_no {sts : List Sta} {p : Int} (h : isSet sts p = false) : stp sts p = p := by
  unfold isSet at h
  unfold stp
  split
  · rename_i e
    rw [e] at h
    cases h
  · rfl
theorem orb_stay {sts : List Sta} {p : Int} {n : Nat} (h : isSet sts (orb sts p n) = false) : ∀ m, orb sts p (n + m) = orb sts p n
  | 0 => rfl
  | m + 1 => by
    show stp sts (orb sts p (n + m)) = _
    rw [orb_stay h m, stp_no h]
theorem shows_one {sts : List Sta} {p : Int} : ∀ {r s : Option Int}, Shows sts p r → Shows sts p s → r = s
  | none, none, _, _ => rfl
  | some q, some q', ⟨n, h1, h2⟩, ⟨m, k1, k2⟩ => by
    rcases Nat.le_total n m with h | h
    · have := orb_stay (sts := sts) (p := p) (n := n) (by rw [h1]; exact h2) (m - n)
      rw [Nat.add_sub_cancel' h, k1, h1] at this
      rw [this]
    · have := orb_stay (sts := sts) (p := p) (n := m) (by rw [k1]; exact k2) (n - m)
      rw [Nat.add_sub_cancel' h, k1, h1] at this
      rw [this]
  | some q, none, ⟨n, h1, h2⟩, k => by
    have := k n
    rw [h1, h2] at this
    cases this
  | none, some q, k, ⟨n, h1, h2⟩ => by
    have := k n
    rw [h1, h2] at this
    cases this
theorem orb_add {sts : List Sta} {p : Int} (n : Nat) : ∀ m, orb sts p (n + m) = orb sts (orb sts p n) m
  | 0 => rfl
  | m + 1 => by
    show stp sts (orb sts p (n + m)) = stp sts (orb sts (orb sts p n) m)
    rw [orb_add n m]
theorem orb_loop {sts : List Sta} {p : Int} {i n : Nat} (hi : i < n) (e : orb sts p n = orb sts p i) (h : ∀ m, m < n → isSet sts (orb sts p m) = true) : ∀ m, isSet sts (orb sts p m) = true := by
  intro m
  induction m using Nat.strongRecOn with
  | _ m ih =>
    by_cases hm : m < n
    · exact h m hm
    · have : orb sts p m = orb sts p (i + (m - n)) := by
        rw [orb_add i, ← e, ← orb_add n, Nat.add_sub_cancel' (by omega)]
      rw [this]
      exact ih _ (by omega)
theorem pigeon : ∀ {n : Nat} {xs : List Int}, xs.Nodup → (∀ x ∈ xs, 0 ≤ x ∧ x < n) → xs.length ≤ n
  | 0, xs, _, h => by
    cases xs with
    | nil => exact Nat.le_refl _
    | cons x xs =>
      have := h x (by simp)
      omega
  | n + 1, xs, nd, h => by
    have h1 : (xs.erase (n : Int)).length ≤ n := pigeon (nd.erase _) fun x hx => by
      have hx' := (nd.mem_erase_iff).mp hx
      have := h x hx'.2
      have := hx'.1
      omega
    have h2 := List.length_erase (a := (n : Int)) (l := xs)
    split at h2 <;> omega
theorem isSet_some {sts : List Sta} {p : Int} (h : isSet sts p = true) : ∃ chs g, sts[p.toNat]? = some (.set chs g) ∧ stp sts p = g := by
  unfold isSet at h
  unfold stp
  split at h
  · rename_i chs g e
    rw [e]
    exact ⟨chs, g, rfl, rfl⟩
  · cases h
def optV : Option Int → V
  | some i => .int i
  | none => .non
def sp_showing (K : PySem.W.Frag) (C CW D : Addr) : Sp := fun vs H Q E => ∃ (x wx : Addr) (rs : List ActR) (many given : Int) (sts : List Sta) (i : Int), vs = [.ref x, .int i] ∧ CodAt K H C CW x wx rs many given sts ∧ sts.length ≤ 1000 ∧ (∀ chs g, Sta.set chs g ∈ sts → 0 ≤ g ∧ g < sts.length) ∧
  (0 ≤ i → i < sts.length → ∀ r H', Shows sts i r → Mv [] H H' → Q (optV r) H') ∧
  (¬ (0 ≤ i ∧ i < sts.length) → ∀ d H', Mv [] H H' → H' d = none → E (.ref D) (some d) (upd H' d (.xd [("place", .int i)])))
section
variable {P : Program} {w : World} {K : PySem.W.Frag} {mg : Str → Option Value} {base : Heap}
theorem ok_Code_statement (T : TX K mg) (Y : TY P K mg) {k : Nat} : FnOk P w K mg base (CX P w) (k + 4) T.d_Code_statement.f T.d_Code_statement.fd P_Code_statement (sp_stAt K T.C_Code T.C_World Y.C_NoPlace) := by
  have G_is_place : FnOk P w K mg base CX0 2 T.d_is_place.f T.d_is_place.fd P_is_place (sp_place K) := ok_is_place T
  refine T.d_Code_statement.F.okX sc_Code_statement (fun vs H Q E h => ?_) (fun cdv A outer s H vs Q E hr h => ?_)
  · obtain ⟨_, _, _, _, _, _, _, rfl, _⟩ := h
    rfl
  · obtain ⟨x, wx, rs, many, given, sts, i, rfl, ⟨dx, l, xs, hs, hW, hl, hxs⟩, q1, q2⟩ := h
    refine ⟨_, (pss_cons (ps_if (pt_not (pt_val (pe_call G_is_place (hr.mono (by omega)) rfl T.d_is_place.g T.d_is_place.F.kp T.d_is_place.b .nil pass0 (pa_cons (pe_callB (r := rLenG K) call_lenG (by rfl) T.b_len bt_len (pa_cons (pe_slC (K := K) rfl (pv 0)) pa_nil)) (pa_cons (pv 1) pa_nil))))) (pss_one (ps_raise rfl (takes_of rfl rfl rfl rfl) (pmk_x Y.x_NoPlace hr (pa_cons (pv 1) pa_nil)))) pss_nil) (pss_one (ps_ret (pe_ix (r := rIx K) ix_seq (pe_slC (K := K) rfl (pv 0)) (pv 1) (fun _ _ => rfl))))), ?_⟩
    have hxl : xs.length = sts.length := by
      have := hxs.length
      rwa [List.length_map] at this
    refine ⟨.ref x, rfl, x, T.C_Code, dx, T.p_Code_its_statements, _, 1, .ref l, rfl, hs, T.c_Code, T.sl_Code_its_statements, rfl, ?_⟩
    walk_at "nc"
    refine rd_len (.inl (.inl (.inl hl))) ?_
    refine ⟨.int i, rfl, _, .int i, .int i, x, rfl, rfl, fun H1 m1 => ⟨_, rfl, ite2 (fun e => ?_) (fun e => ?_)⟩⟩
    · have hn : ¬ (0 ≤ i ∧ i < sts.length) := by
        have e' : i < 0 ∨ (xs.length : Int) ≤ i := by simpa [inPl] using e
        omega
      exact ⟨.int i, rfl, .int i, rfl, fun d nd => q2 hn d H1 m1 nd⟩
    · have hn : 0 ≤ i ∧ i < sts.length := by
        rw [← hxl]
        simpa [inPl] using e
      have hi : i.toNat < xs.length := by omega
      refine ⟨.ref x, rfl, x, T.C_Code, dx, T.p_Code_its_statements, _, 1, .ref l, rfl, Slt.mv hs m1, T.c_Code, T.sl_Code_its_statements, rfl, ?_⟩
      obtain ⟨d1, hd1, him⟩ := hxs.get (List.getElem?_eq_getElem hi)
      rw [List.getElem?_map] at hd1
      obtain ⟨st, hst, rfl⟩ := Option.map_eq_some_iff.mp hd1
      exact ⟨.int i, rfl, rd_ixL (.inl (.inl (m1.same _ _ hl))) hn.1 (v := xs[i.toNat]) (List.getElem?_eq_getElem hi) (q1 hn.1 hn.2 _ st H1 hst m1 (him.mv m1))⟩
end
end Fm
/-! == of tuples and dicts, their parts compared in this very program and world -/
namespace Fm
open PySem PySem.Spec PyProof.Rows L2
open AutoSeq1 (wpAny_loadPart')
open PySem.MeetsSeq PySem.MeetsSeq2 PySem.MeetsSeq3 PySem.SeqRoads2
def EqW (prog : Program) (w : PySem.World) (A : Around) (s : Shared) (y x : Value) (b : Bool) : Prop := ∀ (E : Value → Shared → Prop) (Q : Bool → Shared → Prop), Q b s → wpAny (model prog w) A (eqBool y x) Q E s
section
variable {prog : Program} {w : PySem.World} {A : Around} {s : Shared} {E : Value → Shared → Prop}
theorem EqW.of_at {y x : Value} {b : Bool} (h : SeqAt.EqAt A s y x b) : EqW prog w A s y x b := fun E Q q => h prog w E Q q
theorem EqW.of_refs {p q : Addr} {b : Bool} (hne : p ≠ q) (h : ∀ (E : Value → Shared → Prop) (Q : Value → Shared → Prop), Q (.bool b) s → wpAny (model prog w) A (richCompare .Eq (.ref p) (.ref q)) Q E s) : EqW prog w A s (.ref p) (.ref q) b :=
  fun E Q hq => GQ.eqBool_refG hne (h E _ ⟨b, rfl, hq⟩)
/-- how two tuples compare, place by place -/
theorem tupW {p q : Addr} {xs ys : Array Value} {e : Nat → Bool} {Q : Value → Shared → Prop} (hp : s.heap.IsTuple p xs) (hq : s.heap.IsTuple q ys) (hu : A.units < cLine)
    (he : ∀ j (h1 : j < xs.size) (h2 : j < ys.size), EqW prog w A.in1 s xs[j] ys[j] (e j)) (h : Q (.bool ((List.range (min xs.size ys.size)).all e && xs.size == ys.size)) s) : wpAny (model prog w) A (richCompare .Eq (.ref p) (.ref q)) Q E s := by
  obtain ⟨⟨c1, d1, t1, l1⟩, o1, k1, n1, r1⟩ := id hp
  obtain ⟨⟨c2, d2, t2, l2⟩, o2, k2, n2, r2⟩ := id hq
  dsimp only at k1 r1 k2 r2
  subst k1 r1 k2 r2
  refine wpAny_richCompare_same_room (op := .Eq) ⟨_, o1, rfl⟩ ⟨_, o2, rfl⟩ PySem.F.slot_tuple_eq (GQ.call_here PySem.F.slot_tuple_eq ⟨_, o1, rfl⟩ PySem.F.entry_tuple_eq (PySem.F.args_tuple_eq_2 _ _) ?_) hu
  have sub := AutoSeq1.sub_tuple_tuple
  have len : (xs.toList.zip ys.toList).length = min xs.size ys.size := by simp
  obtain ⟨hh, gg, dd, tt, oo⟩ := s
  wp_walk using wpAny_loadPart' o1, wpAny_loadPart' o2, wpAny_forIn_list _ (fun rest acc s' => acc.1 = none ∧ s' = ⟨hh, gg, dd, tt, oo⟩ ∧ ∃ i, rest = (xs.toList.zip ys.toList).drop i ∧
    Q (.bool (((List.range (min xs.size ys.size)).drop i).all e && xs.size == ys.size)) ⟨hh, gg, dd, tt, oo⟩) _
  case turn =>
    rintro ⟨y, x⟩ rest acc s' ⟨ha, rfl, i, hz, hQ⟩
    have lt : i < (xs.toList.zip ys.toList).length := Nat.lt_of_not_le fun ge => by
      rw [List.drop_of_length_le ge] at hz
      cases hz
    have lm : i < min xs.size ys.size := len ▸ lt
    have lx : i < xs.size := by omega
    have ly : i < ys.size := by omega
    rw [List.drop_eq_getElem_cons lt] at hz
    injection hz with hyx hrest
    obtain rfl : y = xs[i] := by simpa using congrArg Prod.fst hyx
    obtain rfl : x = ys[i] := by simpa using congrArg Prod.snd hyx
    have dr : (List.range (min xs.size ys.size)).drop i = i :: (List.range (min xs.size ys.size)).drop (i + 1) := by simp [List.drop_eq_getElem_cons, lm]
    rw [dr, List.all_cons] at hQ
    refine wpAny_bind (he i lx ly _ _ ?_)
    cases ei : e i with
    | true =>
      rw [ei] at hQ
      wp_walk
      exact ⟨rfl, rfl, i + 1, hrest, by simpa using hQ⟩
    | false =>
      rw [ei] at hQ
      wp_walk
      exact ⟨(fun z => nomatch z), by simpa using hQ⟩
  case fin =>
    rintro ⟨a1, a2⟩ s' ⟨ha, rfl, i, hz, hQ⟩
    dsimp only at ha
    subst ha
    have ge : min xs.size ys.size ≤ i := Nat.le_of_not_lt fun lt => by
      rw [List.drop_eq_getElem_cons (len ▸ lt)] at hz
      cases hz
    rw [List.drop_of_length_le (by simpa using ge)] at hQ
    wp_walk
    exact ⟨(fun z => nomatch z), by simpa [Builtin.Tuple.tupleCompareSizes] using hQ⟩
  case h => exact ⟨rfl, rfl, 0, rfl, by simpa using h⟩
end
/-- the pairs of one dict looked up in another one -/
inductive HitsW (prog : Program) (w : PySem.World) (A : Around) (s : Shared) (kb : List (L2.Key × Value)) : List (L2.Key × Value) → Bool → Prop
  | done : HitsW prog w A s kb [] true
  | lacks {k : L2.Key} {v : Value} {r : List (L2.Key × Value)} : valueAt kb k = none → HitsW prog w A s kb ((k, v) :: r) false
  | meets {k : L2.Key} {v y : Value} {r : List (L2.Key × Value)} {e b : Bool} : valueAt kb k = some y → EqW prog w A s v y e → HitsW prog w A s kb r b → HitsW prog w A s kb ((k, v) :: r) (e && b)
section
variable {prog : Program} {w : PySem.World} {A : Around} {s : Shared} {E : Value → Shared → Prop}
theorem HitsW.inv {kb r : List (L2.Key × Value)} {k : L2.Key} {v : Value} {b : Bool} (h : HitsW prog w A s kb ((k, v) :: r) b) : (valueAt kb k = none ∧ b = false) ∨ ∃ y e b', valueAt kb k = some y ∧ EqW prog w A s v y e ∧ HitsW prog w A s kb r b' ∧ b = (e && b') := by
  cases h with
  | lacks h => exact .inl ⟨h, rfl⟩
  | meets h1 h2 h3 => exact .inr ⟨_, _, _, h1, h2, h3, rfl⟩
theorem pairsW {nm : String} {p q : Addr} {ka kb : List (L2.Key × Value)} {r : Bool} {Q : Bool → Shared → Prop} (hp : (p == sysModules) = false) (hq : (q == sysModules) = false)
    (dp : s.heap.DictOf (mixKind prog w) p ka) (dq : s.heap.DictOf (mixKind prog w) q kb) (hits : ka.length = kb.length → HitsW prog w A s kb ka r) (h : Q (ka.length == kb.length && r) s) :
    wpAny (model prog w) A (Builtin.Dict.samePairs nm p q) Q E s := by
  obtain ⟨op, ep, np, gp, _, tp, kp, pp, _⟩ := dp
  obtain ⟨oq, eq, nq, gq, _, tq, kq, pq, _⟩ := dq
  have lp : ka.length = ep.size := by rw [← pp.length]; exact Array.length_toList
  have lq : kb.length = eq.size := by rw [← pq.length]; exact Array.length_toList
  have fnd : ∀ k, findBy (mixKind prog w).is eq k = valueAt kb k := fun k => by
    rw [← pq.find k]
    clear lq pq kq tq gq
    obtain ⟨es⟩ := eq
    simp [findBy]
  rw [lp, lq] at h
  unfold Builtin.Dict.samePairs Builtin.Dict.showsAll
  rw [if_neg (by rw [hp]; exact Bool.false_ne_true), if_neg (by rw [hq]; exact Bool.false_ne_true)]
  refine wpAny_bind (wpAny_pure (wpAny_bind (wpAny_pure (wpAny_bind (wpAny_dictEntries gp tp ?_)))))
  dsimp only
  refine wpAny_bind (wpAny_dictEntries gq tq ?_)
  by_cases sz : ep.size = eq.size
  · have hQ : Q r s := by simpa [sz] using h
    have hits' := hits (by omega)
    rw [if_neg (by rw [sz]; simp)]
    refine wpAny_bind (wpAny_dictEpoch gp tp (wpAny_bind ?_))
    rw [Std.Legacy.Range.forIn_eq_forIn_range']
    simp only [Std.Legacy.Range.size, Nat.sub_zero, Nat.add_sub_cancel, Nat.div_one]
    refine wpAny_forIn_list _ (fun rest acc s' => s' = s ∧ acc = (none, ()) ∧ ∃ i, rest = List.range' i (ep.size - i) ∧ i ≤ ep.size ∧ HitsW prog w A s kb (ka.drop i) r) _ ?_ ?_ _ _ ⟨rfl, rfl, 0, by simp, Nat.zero_le _, hits'⟩
    · rintro x rest acc s' ⟨rfl, rfl, i, hr, hi, hd⟩
      have lt : i < ep.size := Nat.lt_of_not_le fun ge => by
        rw [Nat.sub_eq_zero_of_le ge] at hr
        simp at hr
      have e1 : ep.size - i = (ep.size - (i + 1)) + 1 := by omega
      rw [e1, List.range'_succ] at hr
      injection hr with hx hrest
      subst hx
      refine wpAny_bind (wpAny_dictEntries gp tp ?_)
      rw [Array.getElem?_eq_getElem lt]
      have lt' : x < ka.length := by omega
      obtain ⟨k, v, hkv⟩ : ∃ k v, ka[x] = (k, v) := ⟨_, _, rfl⟩
      have hdrop : ka.drop x = (k, v) :: ka.drop (x + 1) := by rw [← hkv]; exact List.drop_eq_getElem_cons lt'
      obtain ⟨hk, hv⟩ := pp.get? (i := x) (e := ep[x]) (k := k) (v := v) (by rw [Array.getElem?_toList]; exact Array.getElem?_eq_getElem lt) (by rw [List.getElem?_eq_getElem lt', hkv])
      obtain ⟨k', hk', hh⟩ := kp ep[x] (Array.getElem_mem lt)
      have ekk : k' = k := (mixKind prog w).inj _ _ _ hk' hk
      rw [ekk] at hh
      rw [hdrop] at hd
      show wpAny _ _ (holding [ep[x].key, ep[x].val] _ >>= _) _ _ _
      rw [hh]
      refine wpAny_bind (wpAny_holding (wpAny_bind (wpAny_dictFind_of hk gq tq kq ?_)))
      cases hj : eq.findIdx? fun e => (mixKind prog w).is k e.key with
      | none =>
        have hn : valueAt kb k = none := by rw [← fnd k, findBy_of_findIdx?, hj]
        rcases hd.inv with ⟨_, er⟩ | ⟨y, _, _, hy, _⟩
        · rw [er] at hQ
          refine wpAny_pure ?_
          show wpAny _ _ (if (!false) = true then _ else _) _ _ _
          rw [if_pos (by decide)]
          exact wpAny_pure (wpAny_pure hQ)
        · rw [hn] at hy
          cases hy
      | some j =>
        obtain ⟨jl, _, _⟩ := Array.findIdx?_eq_some_iff_getElem.mp hj
        have hy' : valueAt kb k = some eq[j].val := by
          rw [← fnd k, findBy_of_findIdx?, hj]
          simp [Array.getElem?_eq_getElem jl]
        refine wpAny_bind (wpAny_dictEntries gq tq ?_)
        rw [Array.getElem?_eq_getElem jl]
        rcases hd.inv with ⟨hn, _⟩ | ⟨y, e, b', hy, he, hrr, er⟩
        · rw [hy'] at hn
          cases hn
        · have ey : eq[j].val = y := Option.some.inj (hy'.symm.trans hy)
          rw [← ey, ← hv] at he
          refine wpAny_holding (he _ _ ?_)
          cases e with
          | false =>
            rw [er, Bool.false_and] at hQ
            show wpAny _ _ (if (!false) = true then _ else _) _ _ _
            rw [if_pos (by decide)]
            exact wpAny_pure (wpAny_pure hQ)
          | true =>
            rw [Bool.true_and] at er
            rw [← er] at hrr
            show wpAny _ _ (if (!true) = true then _ else _) _ _ _
            rw [if_neg (by decide)]
            refine wpAny_bind (wpAny_dictEpoch gp tp ?_)
            rw [if_neg (by simp)]
            exact wpAny_pure ⟨rfl, rfl, x + 1, hrest, lt, hrr⟩
    · rintro acc s' ⟨rfl, rfl, i, hr, hi, hd⟩
      have ei : i = ep.size := Nat.le_antisymm hi (Nat.le_of_not_lt fun lt => by
        have e1 : ep.size - i = (ep.size - (i + 1)) + 1 := by omega
        rw [e1, List.range'_succ] at hr
        cases hr)
      refine wpAny_pure ?_
      rw [ei, ← lp, List.drop_length] at hd
      cases hd
      exact hQ
  · rw [if_pos (by simpa using sz)]
    have bf : (ep.size == eq.size) = false := by simpa using sz
    rw [bf, Bool.false_and] at h
    exact wpAny_bind (wpAny_rule (wpAny_pure h))
/-- how two dicts compare -/
theorem dictW {p q : Addr} {ka kb : List (L2.Key × Value)} {r : Bool} {Q : Value → Shared → Prop} (hp : (p == sysModules) = false) (hq : (q == sysModules) = false) (dp : s.heap.DictOf (mixKind prog w) p ka) (dq : s.heap.DictOf (mixKind prog w) q kb)
    (hu : A.units < cLine) (hits : ka.length = kb.length → HitsW prog w A.in1 s kb ka r) (h : Q (.bool (ka.length == kb.length && r)) s) : wpAny (model prog w) A (richCompare .Eq (.ref p) (.ref q)) Q E s := by
  refine wpAny_richCompare_same_room (op := .Eq) dp.typeIs dq.typeIs PySem.F.slot_dict_eq (wpAny_call_entry PySem.F.slot_dict_eq dp.typeIs PySem.F.entry_dict_eq ?_ (PySem.F.args_dict_eq_2 _ _)) hu
  show wpAny _ _ (Builtin.Dict.dictSlotArgs "__eq__" ⟨[.ref p, .ref q], []⟩ >>= _) _ _ s
  refine wpAny_bind ?_
  unfold Builtin.Dict.dictSlotArgs
  refine wpAny_bind (wpAny_notOrdered_dict dp.typeIs ?_)
  show wpAny _ _ (pure (Value.ref p, Value.ref q)) _ _ s
  refine wpAny_pure (wpAny_bind (wpAny_isInstance (T := "dict") dq.typeIs PySem.F.sub_dict_dict ?_))
  simp only [Bool.not_true, Bool.false_eq_true, if_false]
  refine wpAny_bind (wpAny_pure (wpAny_bind (wpAny_pure (wpAny_bind (pairsW hp hq dp dq hits (wpAny_pure ⟨_, rfl, (fun z => nomatch z), ?_⟩))))))
  simpa using h
end
end Fm
/-! == of acts -/
namespace Fm
open PySem PySem.Spec PyProof.Rows L2
def lk (b : List (Str × Int)) (x : Str) : Option Int := (b.find? fun e => decide (e.1 = x)).map (·.2)
def hitO (b : List (Str × Int)) (e : Str × Int) : Bool := match lk b e.1 with
  | some j => e.2 == j
  | none => false
def outsEq (a b : List (Str × Int)) : Bool := a.length == b.length && a.all (hitO b)
def actEq (r q : ActR) : Bool := r.ar == q.ar && outsEq r.outs q.outs
def hitA (qs : List ActR) (r : ActR) : Bool := match qs.find? fun q => decide (q.nm = r.nm) with
  | some q => actEq r q
  | none => false
def rsEq (rs qs : List ActR) : Bool := rs.length == qs.length && rs.all (hitA qs)
theorem val_row (b : List (Str × Int)) (x : Str) : valV (b.map rowK) (.inr x) = (lk b x).map V.int := by
  unfold valV lk
  rw [List.find?_map, Option.map_map, Option.map_map]
  have : ((fun kv : L2.Key × V => decide (kv.1 = Sum.inr x)) ∘ rowK) = fun e : Str × Int => decide (e.1 = x) := by
    funext e
    show decide ((Sum.inr e.1 : L2.Key) = Sum.inr x) = _
    by_cases h : e.1 = x
    · rw [decide_eq_true h, decide_eq_true (by rw [h])]
    · rw [decide_eq_false h, decide_eq_false fun z => h (Sum.inr.inj z)]
  rw [this]
  rfl
theorem val_act (zs : List ActA) (x : Str) : valV (zs.map ActA.kv) (.inr x) = (zs.find? fun z => decide (z.r.nm = x)).map fun z => V.ref z.a := by
  unfold valV
  rw [List.find?_map, Option.map_map]
  have : ((fun kv : L2.Key × V => decide (kv.1 = Sum.inr x)) ∘ ActA.kv) = fun z : ActA => decide (z.r.nm = x) := by
    funext z
    show decide ((Sum.inr z.r.nm : L2.Key) = Sum.inr x) = _
    by_cases h : z.r.nm = x
    · rw [decide_eq_true h, decide_eq_true (by rw [h])]
    · rw [decide_eq_false h, decide_eq_false fun z => h (Sum.inr.inj z)]
  rw [this]
  rfl
theorem find_act (zs : List ActA) (x : Str) : ((zs.map (·.r)).find? fun q => decide (q.nm = x)) = (zs.find? fun z => decide (z.r.nm = x)).map (·.r) := by
  rw [List.find?_map]
  rfl
theorem lk_mem {b : List (Str × Int)} (n : (b.map (·.1)).Nodup) {e : Str × Int} (h : e ∈ b) : lk b e.1 = some e.2 := by
  have h1 := val_row b e.1
  rw [row_val n (x := e.1) (i := e.2) h] at h1
  cases h2 : lk b e.1 with
  | none => rw [h2] at h1; cases h1
  | some j =>
    rw [h2] at h1
    have : V.int e.2 = V.int j := Option.some.inj h1
    rw [V.int.inj this]
theorem outsEq_refl {a : List (Str × Int)} (n : (a.map (·.1)).Nodup) : outsEq a a = true := by
  unfold outsEq
  rw [beq_self_eq_true, Bool.true_and, List.all_eq_true]
  intro e he
  unfold hitO
  rw [lk_mem n he]
  exact beq_self_eq_true _
section
variable {X : Cx} {pins : List (Addr × Obj)} {σ : L2.St} {H : Hp} {s : Shared}
theorem hits_outs {A : Around} {b : List (Str × Int)} {vb : List (L2.Key × Value)} (rb : KV (b.map rowK) vb) : ∀ {a : List (Str × Int)} {va : List (L2.Key × Value)}, KV (a.map rowK) va → HitsW X.prog X.w A s vb va (a.all (hitO b))
  | [], _, .nil => .done
  | e :: a, _, .cons (b := kv) ⟨hk, hv⟩ t => by
    obtain ⟨k, v⟩ := kv
    cases hk
    have ih := hits_outs (A := A) rb t
    have hr := rb.val (Sum.inr e.1)
    rw [val_row] at hr
    rw [List.all_cons]
    obtain ⟨t1, rfl⟩ := (show ∃ t, v = Value.int e.2 t from hv)
    unfold hitO
    cases hl : lk b e.1 with
    | none =>
      rw [hl] at hr
      have hn : valueAt vb (Sum.inr e.1) = none := by
        cases hx : valueAt vb (Sum.inr e.1) with
        | none => rfl
        | some u => rw [hx] at hr; exact hr.elim
      rw [Bool.false_and]
      exact .lacks hn
    | some j =>
      rw [hl] at hr
      obtain ⟨u, hu, ru⟩ := RelO.some_of (v := V.int j) (o := valueAt vb (Sum.inr e.1)) hr
      obtain ⟨t2, rfl⟩ := (show ∃ t, u = Value.int j t from ru)
      exact .meets hu (.of_at (SeqAt.EqAt.int_int _ _ _ _)) ih
theorem rowK_inj {a b : List (Str × Int)} (h : a.map rowK = b.map rowK) : a = b := by
  refine (List.map_inj_right ?_).mp h
  intro e f he
  obtain ⟨x, i⟩ := e
  obtain ⟨y, j⟩ := f
  cases he
  rfl
theorem eqW_outs {A : Around} {p q : Addr} {a b : List (Str × Int)} (I : Inv X pins σ H s) (hp : H p = some (.dK (a.map rowK))) (hq : H q = some (.dK (b.map rowK))) (n : (a.map (·.1)).Nodup) (hu : A.units < cLine) : EqW X.prog X.w A s (.ref p) (.ref q) (outsEq a b) := by
  by_cases e : p = q
  · subst e
    rw [hp] at hq
    have hk : a.map rowK = b.map rowK := by
      have := Option.some.inj hq
      injection this
    cases rowK_inj hk
    rw [outsEq_refl n]
    exact .of_at (SeqAt.EqAt.same _)
  · obtain ⟨_, ya, va, ra, da⟩ := (show ObjOk X.prog X.w H s.heap p (.dK (a.map rowK)) from I.hok p _ hp)
    obtain ⟨_, yb, vb, rb, db⟩ := (show ObjOk X.prog X.w H s.heap q (.dK (b.map rowK)) from I.hok q _ hq)
    have la : va.length = a.length := by rw [← ra.length, List.length_map]
    have lb : vb.length = b.length := by rw [← rb.length, List.length_map]
    refine .of_refs e fun E Q hQ => dictW ya yb da db hu (fun _ => hits_outs rb ra) ?_
    rw [la, lb]
    exact hQ
theorem eqW_act {A : Around} {z y : ActA} (I : Inv X pins σ H s) (hz : SqT X.K H z.a [.int z.r.ar, .ref z.o]) (hy : SqT X.K H y.a [.int y.r.ar, .ref y.o]) (oz : H z.o = some (.dK (z.r.outs.map rowK))) (oy : H y.o = some (.dK (y.r.outs.map rowK)))
    (n : (z.r.outs.map (·.1)).Nodup) (hu : A.units + 1 < cLine) : EqW X.prog X.w A s (.ref z.a) (.ref y.a) (actEq z.r y.r) := by
  by_cases e : z.a = y.a
  · rw [e] at hz
    have he := I.tuple_inj hz hy
    have ho : z.o = y.o := by injection he with _ he; injection he with he _; injection he
    have har : z.r.ar = y.r.ar := by injection he with he _; injection he
    rw [ho, oy] at oz
    have hk : y.r.outs.map rowK = z.r.outs.map rowK := by
      have := Option.some.inj oz
      injection this
    have := rowK_inj hk
    unfold actEq
    rw [har, this, outsEq_refl n, beq_self_eq_true, e]
    exact .of_at (SeqAt.EqAt.same _)
  · obtain ⟨is, ri, ti, _⟩ := I.tuple hz
    obtain ⟨js, rj, tj, _⟩ := I.tuple hy
    obtain ⟨u1, u2, rfl, r1, r2⟩ := vals2 ri
    obtain ⟨v1, v2, rfl, q1, q2⟩ := vals2 rj
    obtain ⟨t1, rfl⟩ := (show ∃ t, u1 = Value.int z.r.ar t from r1)
    obtain ⟨t2, rfl⟩ := (show ∃ t, v1 = Value.int y.r.ar t from q1)
    cases (show u2 = Value.ref z.o from r2)
    cases (show v2 = Value.ref y.o from q2)
    have hin : A.in1.units < cLine := by show A.units + 1 < cLine; exact hu
    refine .of_refs e fun E Q hQ => tupW (e := fun j => if j = 0 then z.r.ar == y.r.ar else outsEq z.r.outs y.r.outs) ti tj (Nat.lt_of_succ_lt hu) (fun j h1 h2 => ?_) ?_
    · match j, h1, h2 with
      | 0, _, _ => exact .of_at (SeqAt.EqAt.int_int _ _ _ _)
      | 1, _, _ => exact eqW_outs I oz oy n hin
    · show Q (.bool (([0, 1] : List Nat).all _ && (2 : Nat) == 2)) s
      have : (([0, 1] : List Nat).all (fun j => if j = 0 then z.r.ar == y.r.ar else outsEq z.r.outs y.r.outs) && (2 : Nat) == 2) = actEq z.r y.r := by
        simp [actEq]
      rw [this]
      exact hQ
theorem hits_acts {A : Around} (I : Inv X pins σ H s) {ys : List ActA} {vb : List (L2.Key × Value)} (rb : KV (ys.map ActA.kv) vb) (hy : ∀ y ∈ ys, SqT X.K H y.a [.int y.r.ar, .ref y.o]) (oy : ∀ y ∈ ys, H y.o = some (.dK (y.r.outs.map rowK))) (hu : A.units + 1 < cLine) :
    ∀ {zs : List ActA} {va : List (L2.Key × Value)}, KV (zs.map ActA.kv) va → (∀ z ∈ zs, SqT X.K H z.a [.int z.r.ar, .ref z.o]) → (∀ z ∈ zs, H z.o = some (.dK (z.r.outs.map rowK))) → (∀ z ∈ zs, (z.r.outs.map (·.1)).Nodup) → HitsW X.prog X.w A s vb va ((zs.map (·.r)).all (hitA (ys.map (·.r))))
  | [], _, .nil, _, _, _ => .done
  | z :: zs, _, .cons (b := kv) ⟨hk, hv⟩ t, h1, h2, h3 => by
    obtain ⟨k, v⟩ := kv
    cases hk
    have ih := hits_acts (A := A) I rb hy oy hu t (fun z hz => h1 z (by simp [hz])) (fun z hz => h2 z (by simp [hz])) (fun z hz => h3 z (by simp [hz]))
    have hr := rb.val (Sum.inr z.r.nm)
    rw [val_act] at hr
    rw [List.map_cons, List.all_cons]
    cases (show v = Value.ref z.a from hv)
    have eh : hitA (ys.map (·.r)) z.r = match (ys.find? fun y => decide (y.r.nm = z.r.nm)) with | some y => actEq z.r y.r | none => false := by
      unfold hitA
      rw [find_act]
      cases ys.find? fun y => decide (y.r.nm = z.r.nm) <;> rfl
    rw [eh]
    cases hl : ys.find? fun y => decide (y.r.nm = z.r.nm) with
    | none =>
      rw [hl] at hr
      have hn : valueAt vb (Sum.inr z.r.nm) = none := by
        cases hx : valueAt vb (Sum.inr z.r.nm) with
        | none => rfl
        | some u => rw [hx] at hr; exact hr.elim
      rw [Bool.false_and]
      exact .lacks hn
    | some y =>
      rw [hl] at hr
      have hym := List.mem_of_find?_eq_some hl
      obtain ⟨u, hu', ru⟩ := RelO.some_of (v := V.ref y.a) (o := valueAt vb (Sum.inr z.r.nm)) hr
      cases (show u = Value.ref y.a from ru)
      exact .meets hu' (eqW_act I (h1 z (by simp)) (hy y hym) (h2 z (by simp)) (oy y hym) (h3 z (by simp)) hu) ih
def rEqA (K : PySem.W.Frag) : R2 := fun x y H Q => ∃ d e zs ys, x = .ref d ∧ y = .ref e ∧ ActsAt K H d zs ∧ ActsAt K H e ys ∧ Q (.bl (rsEq (zs.map (·.r)) (ys.map (·.r)))) H
theorem op_eqA (hu : X.A.units + 64 < cLine) : OpR X (compareOp .Eq) (rEqA X.K) := by
  intro pins s σ H x y v u Q I rx ry h
  obtain ⟨d, e, zs, ys, rfl, rfl, hz, hy, q⟩ := h
  cases (show v = Value.ref d from rx)
  cases (show u = Value.ref e from ry)
  obtain ⟨_, ya, va, ra, da⟩ := (show ObjOk X.prog X.w H s.heap d (.dK (zs.map ActA.kv)) from I.hok d _ hz.at_)
  obtain ⟨_, yb, vb, rb, db⟩ := (show ObjOk X.prog X.w H s.heap e (.dK (ys.map ActA.kv)) from I.hok e _ hy.at_)
  have la : va.length = zs.length := by rw [← ra.length, List.length_map]
  have lb : vb.length = ys.length := by rw [← rb.length, List.length_map]
  have hin : X.A.in1.units + 1 < cLine := by show X.A.units + 1 + 1 < cLine; omega
  refine dictW ya yb da db (by omega) (fun _ => hits_acts I rb hy.tup hy.out hin ra hz.tup hz.out hz.ond) (fin_bl I q ?_)
  rw [la, lb]
  unfold rsEq
  rw [List.length_map, List.length_map]
end
end Fm
/-! == of Worlds -/
namespace Fm
open PySem PySem.Spec PyProof.Rows L2 SlX
local macro_rules | `(tactic| walk_at "nn") => `(tactic| dsimp only [tC, tNil, tCons, tCB, tCall, gName, tSeq, tAsg, tPar, tDrop, tRet])
local macro_rules | `(tactic| walk_at "nc") => `(tactic| dsimp only [tC, tNil, tCons, tCB, tCall])
def rIsiX (K : PySem.W.Frag) (u : Value) : List V → Hp → VK → Prop := fun xs H Q => rIsiSl K u xs H Q ∨ rIsi K xs H Q
theorem call_isiX {X : Cx} (u : Value) : CallR X (.builtin "isinstance") (rIsiX X.K u) := CallR.or (call_isiSl u) call_isi
/-- a value of a builtin type that is no class of the text's -/
def plainTy (T : String) : Bool := match fastBuiltinMro T with
  | some l => l.all fun v => match v with | .ref _ => false | _ => true
  | none => false
theorem sub_plain {K : PySem.W.Frag} {T : String} {C : Addr} (h : plainTy T = true) : PySem.W.subIn K (.type T) (.ref C) = some false := by
  unfold plainTy at h
  show (fastBuiltinMro T).map _ = some false
  cases e : fastBuiltinMro T with
  | none => rw [e] at h; cases h
  | some l =>
    rw [e] at h
    show some (l.contains (.ref C)) = some false
    congr 1
    cases hc : l.contains (.ref C) with
    | false => rfl
    | true =>
      have hm : Value.ref C ∈ l := by simpa using hc
      have := List.all_eq_true.mp h _ hm
      cases this
theorem notFirst_plain {K : PySem.W.Frag} {T : String} {C : Addr} (h : plainTy T = true) : PySem.W.notFirst K C (.type T) = true := by
  unfold PySem.W.notFirst
  rw [sub_plain h]
  simp
theorem notFirst_self {K : PySem.W.Frag} {C : Addr} : PySem.W.notFirst K C (.ref C) = true := by
  unfold PySem.W.notFirst
  simp
theorem kitOne_plain {K : PySem.W.Frag} {T : String} {C : Addr} (h : plainTy T = true) (hc : PySem.W.isClsIn K C = true) (ht : PySem.W.typeIn K (.ref C) = some (.type "type")) : PySem.W.kitOne K (.type T) (.ref C) = some false := by
  unfold PySem.W.kitOne
  rw [if_neg (by simp)]
  show (if _ then _ else _) = _
  rw [if_pos ?_]
  · exact sub_plain h
  · rw [ht]
    unfold PySem.W.isClsIn at hc
    simp [hc]
def sp_WorldEq (K : PySem.W.Frag) (C : Addr) : Sp := fun vs H Q _ => ∃ (x : Addr) (rs : List ActR) (y : V), vs = [.ref x, y] ∧ WldAt K H C x rs ∧
  ((∃ x2 rs2, y = .ref x2 ∧ WldAt K H C x2 rs2 ∧ Q (.bl (rsEq rs rs2)) H) ∨ ∃ T, TyX K H y (.type T) ∧ plainTy T = true ∧ Q (.bl false) H)
section
variable {P : Program} {w : World} {K : PySem.W.Frag} {mg : Str → Option Value} {base : Heap}
theorem ok_World___eq__ (T : TX K mg) {k : Nat} : FnOk P w K mg base CX0 (k + 1) T.d_World___eq__.f T.d_World___eq__.fd P_World___eq__ (sp_WorldEq K T.C_World) := by
  refine T.d_World___eq__.F.ok sc_World___eq__ (fun vs H Q E h => ?_) (fun cdv A outer s H vs Q E hr h => ?_)
  · obtain ⟨_, _, _, rfl, _⟩ := h
    rfl
  · obtain ⟨x, rs, y, rfl, ⟨dx, d, zs, hs, hA, hz⟩, h⟩ := h
    have hu64 := hr.units
    refine ⟨_, (pss_one (ps_ret (pe_and (pe_callB (r := rIsiX K (.ref T.C_World)) (call_isiX (.ref T.C_World)) (by rfl) T.b_isinstance bt_isinstance (pa_cons (pv 1) (pa_cons (pe_glob rfl T.g_World (show L2.RelV (.ref T.C_World) _ from rfl)) pa_nil))) (pe_one (pe_cmpR (r := rEqA K) (op_eqA hu64) (pe_slC (K := K) rfl (pv 0)) (pe_slC (K := K) rfl (pv 1)) (nomark _)))))), ?_⟩
    rcases h with ⟨x2, rs2, rfl, ⟨dx2, d2, zs2, hs2, hA2, hz2⟩, q⟩ | ⟨ty, ht, hp, q⟩
    · refine ⟨.ref x2, rfl, ?_⟩
      walk_at "nc"
      refine Or.inl ⟨x2, T.C_World, dx2, _, .ref T.C_World, true, rfl, rfl, fun _ h => h, hs2, T.c_World, T.is_World, kitOne_self _, ?_⟩
      refine ⟨true, rfl, ?_⟩
      refine ⟨.ref x, rfl, x, T.C_World, dx, T.p_World_its_acts, _, 0, .ref d, rfl, hs, T.c_World, T.sl_World_its_acts, rfl, ?_⟩
      refine ⟨.ref x2, rfl, x2, T.C_World, dx2, T.p_World_its_acts, _, 0, .ref d2, rfl, hs2, T.c_World, T.sl_World_its_acts, rfl, ?_⟩
      refine ⟨d, d2, zs, zs2, rfl, rfl, hA, hA2, ?_⟩
      rw [hz, hz2]
      exact q
    · refine ⟨y, rfl, ?_⟩
      walk_at "nc"
      refine Or.inr ⟨y, .ref T.C_World, .type ty, .ref T.C_World, false, rfl, .own _, ht, kitOne_plain hp T.c_World.ic T.ty_World, ?_⟩
      exact ⟨false, rfl, q⟩
end
end Fm
namespace Fm
open PySem PySem.Spec PyProof.Rows L2
/-! tuple * int, also once and not at all -/
theorem tmul_one (l : Addr) (items : Array Value) (n : Nat) (dd : Option Addr) (sl : Array (Option Value)) (u : Tok) :
    Meets (Builtin.«tuple.__mul__» ⟨[.ref l, .int 1 u], []⟩) (fun _ R s => s.heap.get? l = some { cls := .type "tuple", dict := dd, data := .seq items n, slots := sl } ∧ R (.ok (.ret (Value.ref l))) s) :=
  .of_wp fun prog w A R s h => by
    obtain ⟨hp, g, d, tk, os⟩ := s
    obtain ⟨hl, h⟩ := h
    have f1 := AutoSeq1.idx_int
    have c0 : (decide ((1 : Int) < -(2 ^ 63)) || decide ((1 : Int) ≥ 2 ^ 63)) = false := by decide
    have c1 : (items.isEmpty || (1 : Int) == 1) = true := by simp
    wp_walk using wpAny_loadPart' hl
    repeat (first
      | (refine wpAny_ite_false (decide_eq_false (by rw [c0]; exact Bool.false_ne_true)) ?_; wp_walk using wpAny_loadPart' hl)
      | (refine wpAny_ite_true (decide_eq_true c1) ?_; wp_walk using wpAny_loadPart' hl))
    exact ⟨_, rfl, h⟩
theorem tmul_zero (l : Addr) (items : Array Value) (n : Nat) (dd : Option Addr) (sl : Array (Option Value)) (u : Tok) (hi : items.isEmpty = false) :
    Meets (Builtin.«tuple.__mul__» ⟨[.ref l, .int 0 u], []⟩) (fun _ R s => s.heap.get? l = some { cls := .type "tuple", dict := dd, data := .seq items n, slots := sl } ∧
      R (.ok (.ret (Value.ref s.heap.objs.size))) { s with heap := s.heap.push { cls := Value.type "tuple", data := Data.seq #[] }, toks := s.toks }) :=
  .of_wp fun prog w A R s h => by
    obtain ⟨hp, g, d, tk, os⟩ := s
    obtain ⟨hl, h⟩ := h
    have f1 := AutoSeq1.idx_int
    have c0 : (decide ((0 : Int) < -(2 ^ 63)) || decide ((0 : Int) ≥ 2 ^ 63)) = false := by decide
    have c1 : (items.isEmpty || (0 : Int) == 1) = false := by rw [hi]; rfl
    have c2 : (decide ((0 : Int) ≤ 0) || items.isEmpty) = true := by simp
    have hsz : (#[] : Array Value).size ≤ sizeLine := Nat.zero_le _
    wp_walk using wpAny_loadPart' hl
    repeat (first
      | (refine wpAny_ite_false (decide_eq_false (by rw [c0]; exact Bool.false_ne_true)) ?_; wp_walk using wpAny_loadPart' hl)
      | (refine wpAny_ite_false (decide_eq_false (by rw [c1]; exact Bool.false_ne_true)) ?_; wp_walk using wpAny_loadPart' hl)
      | (refine wpAny_ite_true (decide_eq_true c2) ?_; wp_walk using wpAny_loadPart' hl)
      | (refine wpAny_ite_false (decide_eq_false (Nat.not_lt.mpr hsz)) ?_; wp_walk using wpAny_loadPart' hl))
    exact ⟨_, rfl, h⟩
def rRepTG (K : PySem.W.Frag) : R2 := fun x y H Q => ∃ l k xs, x = .ref l ∧ y = .int k ∧ SqT K H l xs ∧ xs ≠ [] ∧ 0 ≤ k ∧ k ≤ 1000 ∧ xs.length ≤ 1000 ∧ (k = 1 → Q (.ref l) H) ∧ (k ≠ 1 → ∀ p, H p = none → Q (.ref p) (upd H p (.tup (List.replicate k.toNat xs).flatten)))
section
variable {X : Cx}
theorem op_repTG : OpR X (binaryOp .Mult) (rRepTG X.K) := by
  intro pins s σ H x y v u Q I rx ry h
  obtain ⟨l, k, xs, rfl, rfl, hT, hne, h1, h2, hz, q1, q2⟩ := h
  by_cases hk : 2 ≤ k
  · exact op_repT pins s σ H _ _ _ _ Q I rx ry ⟨l, k, xs, rfl, rfl, hT, hne, hk, h2, hz, q2 (by omega)⟩
  cases rx
  obtain ⟨t, rfl⟩ := ry
  obtain ⟨its, r, ⟨⟨cls, dd, data, sl⟩, ho, hc, n, hd⟩, hs⟩ := I.tuple hT
  simp only at hc hd
  subst hc hd
  have hle : its.length = xs.length := r.length.symm
  have hi : its.toArray.isEmpty = false := by
    cases its with
    | nil => exact absurd (List.eq_nil_of_length_eq_zero hle.symm) hne
    | cons a b => rfl
  have hk' : k = 0 ∨ k = 1 := by omega
  rcases hk' with rfl | rfl
  · refine wpAny_binaryOp_repeat_ref (T := "tuple") (U := "int") (by decide) ⟨_, ho, rfl⟩ (fun s' => typeIs_int s' 0 t) noFill_tuple_mul F.fills_int_mul F.slot_int_rmul repeat_tuple F.slot_int_index.lookup
      (call_meets F.slot_int_rmul (typeIs_int s 0 t) F.entry_int_rmul (F.args_int_rmul_2 _ _) (int_rmul_tuple 0 t l its.toArray n dd sl)
        ⟨ho, rfl, ⟨_, ho, rfl⟩, call_meets F.slot_tuple_mul ⟨_, ho, rfl⟩ F.entry_tuple_mul (F.args_tuple_mul_2 _ _) (tmul_zero l its.toArray n dd sl t hi) ⟨ho, ?_⟩⟩)
    refine ⟨.ref s.heap.objs.size, _, I.laid (t' := s.toks) (o := .tup []) (fun b ob q => Heap.get?_push_of_some _ q) (Nat.le_refl _) ?_, rfl, q2 (by decide) _ (I.hok.fresh (Nat.le_refl _))⟩
    exact ⟨Nat.zero_le _, [], .nil, IsTup.new _ _⟩
  · refine wpAny_binaryOp_repeat_ref (T := "tuple") (U := "int") (by decide) ⟨_, ho, rfl⟩ (fun s' => typeIs_int s' 1 t) noFill_tuple_mul F.fills_int_mul F.slot_int_rmul repeat_tuple F.slot_int_index.lookup
      (call_meets F.slot_int_rmul (typeIs_int s 1 t) F.entry_int_rmul (F.args_int_rmul_2 _ _) (int_rmul_tuple 1 t l its.toArray n dd sl)
        ⟨ho, rfl, ⟨_, ho, rfl⟩, call_meets F.slot_tuple_mul ⟨_, ho, rfl⟩ F.entry_tuple_mul (F.args_tuple_mul_2 _ _) (tmul_one l its.toArray n dd sl t) ⟨ho, ?_⟩⟩)
    exact ⟨.ref l, H, I, rfl, q1 rfl⟩
end
end Fm
/-! what a Code tells, == of Codes -/
namespace Fm
open PySem PySem.Spec PyProof.Rows L2 SlX
local macro_rules | `(tactic| walk_at "nn") => `(tactic| dsimp only [tC, tNil, tCons, tCB, tCall, gName, tSeq, tAsg, tPar, tDrop, tRet])
local macro_rules | `(tactic| walk_at "nc") => `(tactic| dsimp only [tC, tNil, tCons, tCB, tCall])
theorem no0 {X : Cx} : ∀ (H : Hp) (s : Shared) (e : Value) (s' : Shared), CX0 X.stack H s E0 e s' → False := fun _ _ _ _ h => h
def nilD : PyData := .tuple [.str "nil"]
def firstD (given many : Int) : PyData := .tuple [.int 0, .tuple ((List.range given.toNat).map (fun i => .int (i : Nat)) ++ List.replicate (many - given).toNat nilD)]
def partsD (many given : Int) (sts : List Sta) : PyData := .tuple [.int many, .int given, .list (sts.map Sta.d)]
def sp_Cworld (K : PySem.W.Frag) (C CW : Addr) : Sp := fun vs H Q _ => ∃ (x wx : Addr) (rs : List ActR) (many given : Int) (sts : List Sta), vs = [.ref x] ∧ CodAt K H C CW x wx rs many given sts ∧ Q (.ref wx) H
def sp_Cvars (K : PySem.W.Frag) (C CW : Addr) : Sp := fun vs H Q _ => ∃ (x wx : Addr) (rs : List ActR) (many given : Int) (sts : List Sta), vs = [.ref x] ∧ CodAt K H C CW x wx rs many given sts ∧ Q (.int many) H
def sp_Cgiven (K : PySem.W.Frag) (C CW : Addr) : Sp := fun vs H Q _ => ∃ (x wx : Addr) (rs : List ActR) (many given : Int) (sts : List Sta), vs = [.ref x] ∧ CodAt K H C CW x wx rs many given sts ∧ Q (.int given) H
def sp_Codelen (K : PySem.W.Frag) (C CW : Addr) : Sp := fun vs H Q _ => ∃ (x wx : Addr) (rs : List ActR) (many given : Int) (sts : List Sta), vs = [.ref x] ∧ CodAt K H C CW x wx rs many given sts ∧ Q (.int (sts.length : Nat)) H
def sp_Cstats (K : PySem.W.Frag) (C CW : Addr) : Sp := fun vs H Q _ => ∃ (x wx : Addr) (rs : List ActR) (many given : Int) (sts : List Sta), vs = [.ref x] ∧ CodAt K H C CW x wx rs many given sts ∧ ∀ p xs, H p = none → Ims K H xs (sts.map Sta.d) → Q (.ref p) (upd H p (.lst xs))
def sp_Cfirst (K : PySem.W.Frag) (C CW : Addr) : Sp := fun vs H Q _ => ∃ (x wx : Addr) (rs : List ActR) (many given : Int) (sts : List Sta), vs = [.ref x] ∧ CodAt K H C CW x wx rs many given sts ∧ 0 ≤ given ∧ given ≤ many ∧ many ≤ 1000 ∧ ∀ v H', Im K H' v (firstD given many) → Mv [] H H' → Q v H'
def sp_Cparts (K : PySem.W.Frag) (C CW : Addr) : Sp := fun vs H Q _ => ∃ (x wx : Addr) (rs : List ActR) (many given : Int) (sts : List Sta), vs = [.ref x] ∧ CodAt K H C CW x wx rs many given sts ∧ ∀ v H', Dp K H' v (partsD many given sts) → Mv [] H H' → Q v H'
theorem firstV {K : PySem.W.Frag} {H : Hp} {p q : Addr} {given many : Int} {nv : V} (hn : Im K H nv nilD) (hp : SqT K H p [.int 0, .ref q]) (hq : SqT K H q (rgV 0 given ++ List.replicate (many - given).toNat nv)) : Im K H (.ref p) (firstD given many) := by
  refine .tup hp (.cons (.int 0) (.cons (.tup hq (.append ?_ ?_)) .nil))
  · unfold rgV
    rw [Int.sub_zero]
    generalize given.toNat = n
    generalize List.range n = l
    induction l with
    | nil => exact .nil
    | cons i l ih =>
      refine .cons ?_ ih
      show Im K H (.int (0 + (i : Int))) (.int (i : Int))
      rw [Int.zero_add]
      exact .int _
  · generalize (many - given).toNat = n
    induction n with
    | zero => exact .nil
    | succ n ih => exact .cons hn ih
theorem flat_rep {α : Type} (x : α) : ∀ n : Nat, (List.replicate n [x]).flatten = List.replicate n x
  | 0 => rfl
  | n + 1 => by rw [List.replicate_succ, List.flatten_cons, flat_rep x n]; rfl
/-- (x,) * n -/
theorem rd_repT {K : PySem.W.Frag} {H : Hp} {l : Addr} {x : V} {k : Int} {Q : VK} (hl : SqT K H l [x]) (h0 : 0 ≤ k) (h1 : k ≤ 1000) (h : ∀ p H', Mv [] H H' → SqT K H' p (List.replicate k.toNat x) → Q (.ref p) H') : rRepTG K (.ref l) (.int k) H Q := by
  refine ⟨l, k, [x], rfl, rfl, hl, by simp, h0, h1, by simp, fun e => ?_, fun _ p np => ?_⟩
  · subst e
    exact h l H .refl hl
  · refine h p _ (.new np) (.inl (.inl ?_))
    rw [upd_same, flat_rep]
section
variable {P : Program} {w : World} {K : PySem.W.Frag} {mg : Str → Option Value} {base : Heap}
theorem ok_Code_world (T : TX K mg) {k : Nat} : FnOk P w K mg base CX0 (k + 1) T.d_Code_world.f T.d_Code_world.fd P_Code_world (sp_Cworld K T.C_Code T.C_World) := by
  refine T.d_Code_world.F.ok sc_Code_world (fun vs H Q E h => ?_) (fun cdv A outer s H vs Q E hr h => ?_)
  · obtain ⟨_, _, _, _, _, _, rfl, _⟩ := h
    rfl
  · obtain ⟨x, wx, rs, many, given, sts, rfl, ⟨dx, l, xs, hs, _⟩, q⟩ := h
    refine ⟨_, (pss_one (ps_ret (pe_slC (K := K) rfl (pv 0)))), ?_⟩
    exact ⟨.ref x, rfl, x, T.C_Code, dx, T.p_Code_its_world, _, 3, .ref wx, rfl, hs, T.c_Code, T.sl_Code_its_world, rfl, q⟩
theorem ok_Code_variables (T : TX K mg) {k : Nat} : FnOk P w K mg base CX0 (k + 1) T.d_Code_variables.f T.d_Code_variables.fd P_Code_variables (sp_Cvars K T.C_Code T.C_World) := by
  refine T.d_Code_variables.F.ok sc_Code_variables (fun vs H Q E h => ?_) (fun cdv A outer s H vs Q E hr h => ?_)
  · obtain ⟨_, _, _, _, _, _, rfl, _⟩ := h
    rfl
  · obtain ⟨x, wx, rs, many, given, sts, rfl, ⟨dx, l, xs, hs, _⟩, q⟩ := h
    refine ⟨_, (pss_one (ps_ret (pe_slC (K := K) rfl (pv 0)))), ?_⟩
    exact ⟨.ref x, rfl, x, T.C_Code, dx, T.p_Code_its_variables, _, 2, .int many, rfl, hs, T.c_Code, T.sl_Code_its_variables, rfl, q⟩
theorem ok_Code_given (T : TX K mg) {k : Nat} : FnOk P w K mg base CX0 (k + 1) T.d_Code_given.f T.d_Code_given.fd P_Code_given (sp_Cgiven K T.C_Code T.C_World) := by
  refine T.d_Code_given.F.ok sc_Code_given (fun vs H Q E h => ?_) (fun cdv A outer s H vs Q E hr h => ?_)
  · obtain ⟨_, _, _, _, _, _, rfl, _⟩ := h
    rfl
  · obtain ⟨x, wx, rs, many, given, sts, rfl, ⟨dx, l, xs, hs, _⟩, q⟩ := h
    refine ⟨_, (pss_one (ps_ret (pe_slC (K := K) rfl (pv 0)))), ?_⟩
    exact ⟨.ref x, rfl, x, T.C_Code, dx, T.p_Code_its_given, _, 0, .int given, rfl, hs, T.c_Code, T.sl_Code_its_given, rfl, q⟩
theorem ok_Code___len__ (T : TX K mg) {k : Nat} : FnOk P w K mg base CX0 (k + 1) T.d_Code___len__.f T.d_Code___len__.fd P_Code___len__ (sp_Codelen K T.C_Code T.C_World) := by
  refine T.d_Code___len__.F.ok sc_Code___len__ (fun vs H Q E h => ?_) (fun cdv A outer s H vs Q E hr h => ?_)
  · obtain ⟨_, _, _, _, _, _, rfl, _⟩ := h
    rfl
  · obtain ⟨x, wx, rs, many, given, sts, rfl, ⟨dx, l, xs, hs, _, hl, hx⟩, q⟩ := h
    refine ⟨_, (pss_one (ps_ret (pe_callB (r := rLenG K) call_lenG (by rfl) T.b_len bt_len (pa_cons (pe_slC (K := K) rfl (pv 0)) pa_nil)))), ?_⟩
    refine ⟨.ref x, rfl, x, T.C_Code, dx, T.p_Code_its_statements, _, 1, .ref l, rfl, hs, T.c_Code, T.sl_Code_its_statements, rfl, ?_⟩
    have e := hx.length
    rw [List.length_map] at e
    refine rd_len (.inl (.inl (.inl hl))) ?_
    rw [e]
    exact q
theorem ok_Code_statements (T : TX K mg) {k : Nat} : FnOk P w K mg base CX0 (k + 1) T.d_Code_statements.f T.d_Code_statements.fd P_Code_statements (sp_Cstats K T.C_Code T.C_World) := by
  refine T.d_Code_statements.F.ok sc_Code_statements (fun vs H Q E h => ?_) (fun cdv A outer s H vs Q E hr h => ?_)
  · obtain ⟨_, _, _, _, _, _, rfl, _⟩ := h
    rfl
  · obtain ⟨x, wx, rs, many, given, sts, rfl, ⟨dx, l, xs, hs, _, hl, hx⟩, q⟩ := h
    refine ⟨_, (pss_one (ps_ret (pe_callTy (r := rListG K) (call_listA rfl) (by rfl) T.b_list bt_list (pa_cons (pe_slC (K := K) rfl (pv 0)) pa_nil)))), ?_⟩
    refine ⟨.ref x, rfl, x, T.C_Code, dx, T.p_Code_its_statements, _, 1, .ref l, rfl, hs, T.c_Code, T.sl_Code_its_statements, rfl, ?_⟩
    exact Or.inl ⟨l, xs, rfl, .inl (.inl (.inl hl)), fun p np => q p xs np hx⟩
theorem ok_Code_parts (T : TX K mg) {k : Nat} : FnOk P w K mg base CX0 (k + 1) T.d_Code_parts.f T.d_Code_parts.fd P_Code_parts (sp_Cparts K T.C_Code T.C_World) := by
  refine T.d_Code_parts.F.ok sc_Code_parts (fun vs H Q E h => ?_) (fun cdv A outer s H vs Q E hr h => ?_)
  · obtain ⟨_, _, _, _, _, _, rfl, _⟩ := h
    rfl
  · obtain ⟨x, wx, rs, many, given, sts, rfl, ⟨dx, l, xs, hs, _, hl, hx⟩, q⟩ := h
    refine ⟨_, (pss_one (ps_ret (pe_tup (pa_cons (pe_slC (K := K) rfl (pv 0)) (pa_cons (pe_slC (K := K) rfl (pv 0)) (pa_cons (pe_slC (K := K) rfl (pv 0)) pa_nil)))))), ?_⟩
    refine ⟨.ref x, rfl, x, T.C_Code, dx, T.p_Code_its_variables, _, 2, .int many, rfl, hs, T.c_Code, T.sl_Code_its_variables, rfl, ?_⟩
    refine ⟨.ref x, rfl, x, T.C_Code, dx, T.p_Code_its_given, _, 0, .int given, rfl, hs, T.c_Code, T.sl_Code_its_given, rfl, ?_⟩
    refine ⟨.ref x, rfl, x, T.C_Code, dx, T.p_Code_its_statements, _, 1, .ref l, rfl, hs, T.c_Code, T.sl_Code_its_statements, rfl, ?_⟩
    refine ⟨(by decide : 3 ≤ sizeLine), fun p np => ?_⟩
    have m : Mv [] H (upd H p (.tup [.int many, .int given, .ref l])) := .new np
    exact q _ _ (.tup (.inl (.inl upd_same)) (.cons (.int _) (.cons (.int _) (.cons (.lst (.inl (.inl (m.same _ _ hl))) (hx.mv m).dp) .nil)))) m
theorem ok_Code_first (T : TX K mg) {k : Nat} : FnOk P w K mg base CX0 (k + 1) T.d_Code_first.f T.d_Code_first.fd P_Code_first (sp_Cfirst K T.C_Code T.C_World) := by
  refine T.d_Code_first.F.ok sc_Code_first (fun vs H Q E h => ?_) (fun cdv A outer s H vs Q E hr h => ?_)
  · obtain ⟨_, _, _, _, _, _, rfl, _⟩ := h
    rfl
  · obtain ⟨x, wx, rs, many, given, sts, rfl, ⟨dx, l, xs, hs, _, hl, hx⟩, g0, g1, m1, q⟩ := h
    refine ⟨_, (pss_one (ps_ret (pe_tup (pa_cons pe_int (pa_cons (pe_op (r := rAddG K) op_addG (pe_tupRg rfl (by rfl) T.b_tuple (prg_1 (by rfl) T.b_range (pe_slC (K := K) rfl (pv 0)))) (pe_op (r := rRepTG K) op_repTG (pe_tup (pa_cons (pe_glob rfl T.c_NIL (show L2.RelV (.ref T.a_NIL) _ from rfl)) pa_nil)) (pe_op op_sub (pe_slC (K := K) rfl (pv 0)) (pe_slC (K := K) rfl (pv 0))))) pa_nil))))), ?_⟩
    refine ⟨.ref x, rfl, x, T.C_Code, dx, T.p_Code_its_given, _, 0, .int given, rfl, hs, T.c_Code, T.sl_Code_its_given, rfl, ?_⟩
    refine ⟨given, rfl, .of_le (by decide) (by omega) (by decide) g0, fun p np => ?_⟩
    have mp : Mv [] H (upd H p (.tup (rgV 0 given))) := .new np
    have ep : SqT K (upd H p (.tup (rgV 0 given))) p (rgV 0 given) := .inl (.inl upd_same)
    generalize upd H p (.tup (rgV 0 given)) = H1 at mp ep ⊢
    refine ⟨(by decide : 1 ≤ sizeLine), fun p2 np2 => ?_⟩
    have m2 : Mv [] H1 (upd H1 p2 (.tup [.ref T.a_NIL])) := .new np2
    have e2 : SqT K (upd H1 p2 (.tup [.ref T.a_NIL])) p2 [.ref T.a_NIL] := .inl (.inl upd_same)
    generalize upd H1 p2 (.tup [.ref T.a_NIL]) = H2 at m2 e2 ⊢
    have hs2 := Slt.mv hs (mp.trans m2)
    refine ⟨.ref x, rfl, x, T.C_Code, dx, T.p_Code_its_variables, _, 2, .int many, rfl, hs2, T.c_Code, T.sl_Code_its_variables, rfl, ?_⟩
    refine ⟨.ref x, rfl, x, T.C_Code, dx, T.p_Code_its_given, _, 0, .int given, rfl, hs2, T.c_Code, T.sl_Code_its_given, rfl, ?_⟩
    refine ⟨many, given, rfl, rfl, rd_repT e2 (by omega) (by omega) fun p3 H3 m3 e3 => ?_⟩
    refine rd_cat ((m2.trans m3).sqT ep) e3 ?_ fun p4 H4 m4 e4 => ?_
    · rw [rgV_length, List.length_replicate, sizeLine_eq]
      omega
    refine ⟨(by decide : 2 ≤ sizeLine), fun p5 np5 => ?_⟩
    have m5 : Mv [] H4 (upd H4 p5 (.tup [.int 0, .ref p4])) := .new np5
    exact q _ _ (firstV (.tup (T.q_NIL _) (.cons (.str _) .nil)) (.inl (.inl upd_same)) (m5.sqT e4)) (mp.trans (m2.trans (m3.trans (m4.trans m5))))
end
end Fm
/-! == of Codes -/
namespace Fm
open PySem PySem.Spec PyProof.Rows L2 SlX
local macro_rules | `(tactic| walk_at "nn") => `(tactic| dsimp only [tC, tNil, tCons, tCB, tCall, gName, tSeq, tAsg, tPar, tDrop, tRet])
local macro_rules | `(tactic| walk_at "nc") => `(tactic| dsimp only [tC, tNil, tCons, tCB, tCall])
mutual
theorem eqv_comm : ∀ a b : PyData, PyData.eqv a b = PyData.eqv b a
  | .none, b => by cases b <;> simp [PyData.eqv]
  | .bool x, b => by
    cases b with
    | bool y => simp only [PyData.eqv]; exact BEq.comm
    | int y => simp only [PyData.eqv]; exact BEq.comm
    | _ => simp [PyData.eqv]
  | .int x, b => by
    cases b with
    | bool y => simp only [PyData.eqv]; exact BEq.comm
    | int y => simp only [PyData.eqv]; exact BEq.comm
    | _ => simp [PyData.eqv]
  | .str x, b => by
    cases b with
    | str y =>
      simp only [PyData.eqv]
      rw [Bool.eq_iff_iff, beq_iff_eq, beq_iff_eq]
      exact eq_comm
    | _ => simp [PyData.eqv]
  | .list xs, b => by
    cases b with
    | list ys => simp only [PyData.eqv]; exact eqvAll_comm xs ys
    | _ => simp [PyData.eqv]
  | .tuple xs, b => by
    cases b with
    | tuple ys => simp only [PyData.eqv]; exact eqvAll_comm xs ys
    | _ => simp [PyData.eqv]
  | .dict xs, b => by cases b <;> simp [PyData.eqv]
theorem eqvAll_comm : ∀ a b : List PyData, PyData.eqvAll a b = PyData.eqvAll b a
  | [], [] => rfl
  | [], _ :: _ => by simp [PyData.eqvAll]
  | _ :: _, [] => by simp [PyData.eqvAll]
  | x :: xs, y :: ys => by
    simp only [PyData.eqvAll]
    rw [eqv_comm x y, eqvAll_comm xs ys]
end
section
variable {K : PySem.W.Frag} {H H' : Hp}
mutual
theorem dp0 (m : Mv [] H H') : ∀ (d : PyData) (v : V), Dp K H v d → Dp K H' v d
  | .none, _, h => by cases h; exact .non
  | .bool b, _, h => by cases h; exact .bl b
  | .int i, _, h => by cases h; exact .int i
  | .str x, _, h => by cases h; exact .str x
  | .tuple ds, _, h => by
    cases h with
    | tup hs ha => exact .tup (m.sqT hs) (dps0 m ds _ ha)
  | .list ds, _, h => by
    cases h with
    | lst hs ha => exact .lst (m.same.seq hs) (dps0 m ds _ ha)
  | .dict _, _, h => by cases h
theorem dps0 (m : Mv [] H H') : ∀ (ds : List PyData) (vs : List V), DpAll K H vs ds → DpAll K H' vs ds
  | [], _, h => by cases h; exact .nil
  | d :: ds, _, h => by
    cases h with
    | cons h1 h2 => exact .cons (dp0 m d _ h1) (dps0 m ds _ h2)
end
end
def stsEq (sts sts2 : List Sta) : Bool := PyData.eqv (.list (sts.map Sta.d)) (.list (sts2.map Sta.d))
theorem parts_eqv (many given many2 given2 : Int) (sts sts2 : List Sta) : PyData.eqv (partsD many given sts) (partsD many2 given2 sts2) = (decide (many = many2) && (decide (given = given2) && stsEq sts sts2)) := by
  unfold partsD stsEq
  simp only [PyData.eqv, PyData.eqvAll, Bool.and_true]
  rw [Bool.beq_eq_decide_eq, Bool.beq_eq_decide_eq]
/-- statements that can be compared -/
def StF (sts : List Sta) : Prop := ∀ st ∈ sts, fine st.d ∧ st.d.depth ≤ 55
theorem list_shaped {sts : List Sta} (h : StF sts) : SeqAt.shaped (.list (sts.map Sta.d)) = true ∧ PyData.depthAll (sts.map Sta.d) ≤ 55 ∧ PyData.canLayAll0 (sts.map Sta.d) = true := by
  have hf : fineAll (sts.map Sta.d) := fineAll_iff.mpr fun x hx => by
    obtain ⟨st, hst, rfl⟩ := List.mem_map.mp hx
    exact (h st hst).1
  have hd : PyData.depthAll (sts.map Sta.d) ≤ 55 := depthAll_le fun d hd => by
    obtain ⟨st, hst, rfl⟩ := List.mem_map.mp hd
    exact (h st hst).2
  have hl := (fine_lays _ hf).1
  refine ⟨?_, hd, hl⟩
  show (PyData.canLay0 (.list (sts.map Sta.d)) && decide (PyData.depth (.list (sts.map Sta.d)) ≤ 64)) = true
  rw [Bool.and_eq_true, decide_eq_true_iff]
  simp only [PyData.canLay0, PyData.depth]
  exact ⟨hl, by omega⟩
theorem parts_shaped {many given : Int} {sts : List Sta} (h : StF sts) : SeqAt.shaped (partsD many given sts) = true := by
  obtain ⟨_, hd, hl⟩ := list_shaped h
  show (PyData.canLay0 (partsD many given sts) && decide (PyData.depth (partsD many given sts) ≤ 64)) = true
  rw [Bool.and_eq_true, decide_eq_true_iff]
  unfold partsD
  simp only [PyData.canLay0, PyData.canLayAll0, PyData.depth, PyData.depthAll, hl]
  exact ⟨rfl, by omega⟩
def codeEq (rs rs2 : List ActR) (many many2 given given2 : Int) (sts sts2 : List Sta) : Bool := rsEq rs rs2 && (decide (many = many2) && (decide (given = given2) && stsEq sts sts2))
def sp_CodeEq (K : PySem.W.Frag) (C CW : Addr) : Sp := fun vs H Q _ => ∃ (x wx : Addr) (rs : List ActR) (many given : Int) (sts : List Sta) (y : V), vs = [.ref x, y] ∧ CodAt K H C CW x wx rs many given sts ∧ StF sts ∧
  ((∃ x2 wx2 rs2 many2 given2 sts2, y = .ref x2 ∧ CodAt K H C CW x2 wx2 rs2 many2 given2 sts2 ∧ StF sts2 ∧ ∀ H', Mv [] H H' → Q (.bl (codeEq rs rs2 many many2 given given2 sts sts2)) H') ∨
   ((∃ T, TyX K H y (.type T) ∧ plainTy T = true ∧ Q (.bl false) H) ∨ ∃ x2 rs2, y = .ref x2 ∧ WldAt K H CW x2 rs2 ∧ Q (.bl false) H))
theorem kitOne_dif {K : PySem.W.Frag} {C D : Addr} (h : PySem.W.subIn K (.ref D) (.ref C) = some false) (hne : D ≠ C) (hc : PySem.W.isClsIn K C = true) (ht : PySem.W.typeIn K (.ref C) = some (.type "type")) : PySem.W.kitOne K (.ref D) (.ref C) = some false := by
  unfold PySem.W.kitOne
  rw [if_neg (by simpa using hne)]
  show (if _ then _ else _) = _
  rw [if_pos ?_]
  · exact h
  · rw [ht]
    unfold PySem.W.isClsIn at hc
    simp [hc]
section
variable {P : Program} {w : World} {K : PySem.W.Frag} {mg : Str → Option Value} {base : Heap}
theorem ok_Code___eq__ (T : TX K mg) {k : Nat} : FnOk P w K mg base CX0 (k + 3) T.d_Code___eq__.f T.d_Code___eq__.fd P_Code___eq__ (sp_CodeEq K T.C_Code T.C_World) := by
  have G_World___eq__ : FnOk P w K mg base CX0 1 T.d_World___eq__.f T.d_World___eq__.fd P_World___eq__ (sp_WorldEq K T.C_World) := ok_World___eq__ T
  have G_Code_parts : FnOk P w K mg base CX0 1 T.d_Code_parts.f T.d_Code_parts.fd P_Code_parts (sp_Cparts K T.C_Code T.C_World) := ok_Code_parts T
  refine T.d_Code___eq__.F.ok sc_Code___eq__ (fun vs H Q E h => ?_) (fun cdv A outer s H vs Q E hr h => ?_)
  · obtain ⟨_, _, _, _, _, _, _, rfl, _⟩ := h
    rfl
  · obtain ⟨x, wx, rs, many, given, sts, y, rfl, hC, hF, h⟩ := h
    have hu64 := hr.units
    obtain ⟨dx, l, xs, hs, hW, hl, hx⟩ := id hC
    refine ⟨_, (pss_one (ps_ret (pe_and (pe_callB (r := rIsiX K (.ref T.C_Code)) (call_isiX (.ref T.C_Code)) (by rfl) T.b_isinstance bt_isinstance (pa_cons (pv 1) (pa_cons (pe_glob rfl T.g_Code (show L2.RelV (.ref T.C_Code) _ from rfl)) pa_nil))) (pe_and (pe_cmpR (r := rOwnG K T.C_World (sp_WorldEq K T.C_World) _) (op_ownG T.d_World___eq__.M.at_ T.d_World___eq__.M.fn (fnR_of G_World___eq__ T.d_World___eq__.b) (hr.mono (by omega)) pass0) (pe_slC (K := K) rfl (pv 0)) (pe_slC (K := K) rfl (pv 1)) (nomark _)) (pe_one (pe_cmpR (r := rEqG K) (op_eqG hu64) (pe_methSl0 (pv 0) T.c_Code T.d_Code_parts.M (fnR_of G_Code_parts T.d_Code_parts.b) (hr.mono (by omega)) pass0) (pe_methSl0 (pv 1) T.c_Code T.d_Code_parts.M (fnR_of G_Code_parts T.d_Code_parts.b) (hr.mono (by omega)) pass0) (nomark _))))))), ?_⟩
    rcases h with ⟨x2, wx2, rs2, many2, given2, sts2, rfl, hC2, hF2, q⟩ | ⟨ty, ht, hp, q⟩ | ⟨x2, rs2, rfl, hW2, q⟩
    · obtain ⟨dx2, l2, xs2, hs2, hW2, hl2, hx2⟩ := id hC2
      refine ⟨.ref x2, rfl, ?_⟩
      walk_at "nc"
      refine Or.inl ⟨x2, T.C_Code, dx2, _, .ref T.C_Code, true, rfl, rfl, fun _ h => h, hs2, T.c_Code, T.is_Code, kitOne_self _, ?_⟩
      refine ⟨true, rfl, ?_⟩
      refine ⟨.ref x, rfl, x, T.C_Code, dx, T.p_Code_its_world, _, 3, .ref wx, rfl, hs, T.c_Code, T.sl_Code_its_world, rfl, ?_⟩
      refine ⟨.ref x2, rfl, x2, T.C_Code, dx2, T.p_Code_its_world, _, 3, .ref wx2, rfl, hs2, T.c_Code, T.sl_Code_its_world, rfl, ?_⟩
      obtain ⟨dw, _, _, hws, _⟩ := id hW
      obtain ⟨dw2, _, _, hws2, _⟩ := id hW2
      refine ⟨wx, dw, _, rfl, hws, .inl ⟨wx2, _, _, _, rfl, hws2, notFirst_self⟩, wx, rs, _, rfl, hW, .inl ⟨wx2, rs2, rfl, hW2, ?_⟩⟩
      unfold codeEq at q
      cases he : rsEq rs rs2 with
      | false =>
        rw [he, Bool.false_and] at q
        exact ⟨false, rfl, q H .refl⟩
      | true =>
        rw [he, Bool.true_and, ← parts_eqv] at q
        refine ⟨true, rfl, ?_⟩
        refine ⟨.ref x, rfl, x, dx, _, rfl, hs, x, wx, rs, many, given, sts, rfl, hC, fun v1 H1 h1 m1 => ?_⟩
        refine ⟨.ref x2, rfl, x2, dx2, _, rfl, Slt.mv hs2 m1, x2, wx2, rs2, many2, given2, sts2, rfl, hC2.mv m1, fun v2 H2 h2 m2 => ?_⟩
        exact Or.inr ⟨_, _, dp0 m2 _ _ h1, h2, parts_shaped hF, parts_shaped hF2, q H2 (m1.trans m2)⟩
    · refine ⟨y, rfl, ?_⟩
      walk_at "nc"
      refine Or.inr ⟨y, .ref T.C_Code, .type ty, .ref T.C_Code, false, rfl, .own _, ht, kitOne_plain hp T.c_Code.ic T.ty_Code, ?_⟩
      exact ⟨false, rfl, q⟩
    · obtain ⟨dw2, _, _, hws2, _⟩ := id hW2
      refine ⟨.ref x2, rfl, ?_⟩
      walk_at "nc"
      refine Or.inl ⟨x2, T.C_World, dw2, _, .ref T.C_Code, false, rfl, rfl, fun _ h => h, hws2, T.c_World, T.is_World, kitOne_dif T.df_World_Code ?_ T.c_Code.ic T.ty_Code, ?_⟩
      · exact T.dn_World_Code
      exact ⟨false, rfl, q⟩
end
end Fm
namespace Fm
open PySem PySem.Spec PyProof.Rows L2
local macro_rules | `(tactic| walk_at "nn") => `(tactic| dsimp only [tC, tNil, tCons, tCB, tCall, gName, tSeq, tAsg, tPar, tDrop, tRet])
/-- values by numbers: in a list, a tuple, a dict -/
def Look1 (K : PySem.W.Frag) (H : Hp) (vals : V) (P : Int → Prop) (f : Int → Tm) : Prop := ∃ a, vals = .ref a ∧
  ((∃ xs, SqL K H a xs ∧ ∀ i, P i → 0 ≤ i ∧ ∃ v, xs[i.toNat]? = some v ∧ Im K H v (f i).d) ∨
   (∃ xs, SqT K H a xs ∧ ∀ i, P i → 0 ≤ i ∧ ∃ v, xs[i.toNat]? = some v ∧ Im K H v (f i).d) ∨
   (∃ kvs, H a = some (.dK kvs) ∧ ∀ i, P i → ∃ v, valV kvs (.inl i) = some v ∧ Im K H v (f i).d))
theorem Look1.mv {K : PySem.W.Frag} {H H' : Hp} {vals : V} {P : Int → Prop} {f : Int → Tm} (h : Look1 K H vals P f) (m : Mv [] H H') : Look1 K H' vals P f := by
  obtain ⟨a, rfl, h⟩ := h
  refine ⟨a, rfl, ?_⟩
  rcases h with ⟨xs, h1, h2⟩ | ⟨xs, h1, h2⟩ | ⟨xs, h1, h2⟩
  · refine .inl ⟨xs, m.same.seq h1, fun i hi => ?_⟩
    obtain ⟨h0, v, hv, hm⟩ := h2 i hi
    exact ⟨h0, v, hv, hm.mv m⟩
  · refine .inr (.inl ⟨xs, m.sqT h1, fun i hi => ?_⟩)
    obtain ⟨h0, v, hv, hm⟩ := h2 i hi
    exact ⟨h0, v, hv, hm.mv m⟩
  · refine .inr (.inr ⟨xs, m.same _ _ h1, fun i hi => ?_⟩)
    obtain ⟨v, hv, hm⟩ := h2 i hi
    exact ⟨v, hv, hm.mv m⟩
def sp_put (K : PySem.W.Frag) (d : Nat) : Sp := fun vs H Q _ => ∃ (v vals : V) (t : Tm) (P : Int → Prop) (f : Int → Tm), vs = [v, vals] ∧ Im K H v t.d ∧ t.ok P ∧ t.dep < d ∧ Look1 K H vals P f ∧
  ∀ v' H', Mv [] H H' → Im K H' v' (t.put f).d → Q v' H'
section
variable {P : Program} {w : World} {K : PySem.W.Frag} {mg : Str → Option Value} {base : Heap}

end
end Fm
namespace Fm
open PySem PySem.Spec PyProof.Rows L2
local macro_rules | `(tactic| walk_at "nn") => `(tactic| dsimp only [tC, tNil, tCons, tCB, tCall, gName, tSeq, tAsg, tPar, tDrop, tRet])
theorem line5 {n : Nat} (h : n ≤ 100000) : n ≤ sizeLine := Nat.le_trans h (by decide)
theorem line5lt {n : Nat} (h : n ≤ 100000) : n < sizeLine := Nat.lt_of_le_of_lt h (by decide)
theorem Tm.mem_parts {x : Str} {us ts : List Tm} (h : Tm.op x us ∈ ts) : Tm.deps us < Tm.deps ts := by
  have := Tm.deps_le.mp (show Tm.deps ts ≤ Tm.deps ts from Nat.le_refl _) _ h
  simp only [Tm.dep] at this
  omega
theorem Tm.lv_mem : ∀ {t : Tm} {ts : List Tm}, t ∈ ts → t.lv ≤ Tm.lvs ts
  | t, u :: ts, h => by
    rcases List.mem_cons.mp h with rfl | h
    · simp only [Tm.lvs]; omega
    · have := Tm.lv_mem h
      simp only [Tm.lvs]; omega
theorem Tm.lvs_take : ∀ (i : Nat) (ts : List Tm), Tm.lvs (ts.take i) ≤ Tm.lvs ts
  | 0, ts => by simp [Tm.lvs]
  | i + 1, [] => by simp [Tm.lvs]
  | i + 1, t :: ts => by
    have := Tm.lvs_take i ts
    simp only [List.take_succ_cons, Tm.lvs]
    omega
def sp_leavesR (K : PySem.W.Frag) (d : Nat) : Sp := fun vs H Q _ => ∃ (a : Addr) (xs : List V) (ts : List Tm), vs = [.ref a] ∧ (SqL K H a xs ∨ SqT K H a xs) ∧ Ims K H xs (Tm.ds ts) ∧ Tm.deps ts < d ∧ Tm.lvs ts ≤ 100000 ∧
  ∀ p H', H p = none → Mv [] H H' → H' p = some (.lst ((Tm.leavesL ts).map V.int)) → Q (.ref p) H'
def sp_sizeR (K : PySem.W.Frag) (d : Nat) : Sp := fun vs H Q _ => ∃ (a : Addr) (xs : List V) (ts : List Tm), vs = [.ref a] ∧ (SqL K H a xs ∨ SqT K H a xs) ∧ Ims K H xs (Tm.ds ts) ∧ Tm.deps ts < d ∧ ts.length ≤ 100000 ∧ Tm.oks (fun _ => True) ts ∧
  ∀ H', Mv [] H H' → Q (.int (Tm.sizes ts)) H'
section
variable {P : Program} {w : World} {K : PySem.W.Frag} {mg : Str → Option Value} {base : Heap}
end
end Fm
namespace Fm
open PySem PySem.Spec PyProof.Rows L2
local macro_rules | `(tactic| walk_at "nn") => `(tactic| dsimp only [tC, tNil, tCons, tCB, tCall, gName, tSeq, tAsg, tPar, tDrop, tRet])
local macro_rules | `(tactic| walk_at "nc") => `(tactic| dsimp only [tC, tNil, tCons, tCB])
/-- names at hand -/
structure Nms (H : Hp) (b nm : Addr) (xs : List Str) : Prop where
  at_ : H nm = some (.lst (xs.map V.str))
  ne : nm ≠ b
  some_ : xs ≠ []
  few : xs.length ≤ 1000
  ok : ∀ x ∈ xs, Nm x
theorem Nms.dr {H H' : Hp} {b nm : Addr} {xs : List Str} (h : Nms H b nm xs) (d : Dr b H H') : Nms H' b nm xs := ⟨d.get h.ne h.at_, h.ne, h.some_, h.few, h.ok⟩
def sp_alike (K : PySem.W.Frag) : Sp := fun vs H Q _ => ∃ (x y : V) (d : PyData), vs = [x, y] ∧ Dp K H x d ∧ Dp K H y d ∧ Shw d ∧ Q (.bl true) H
section
variable {P : Program} {w : World} {K : PySem.W.Frag} {mg : Str → Option Value} {base : Heap}
theorem ok__law_alike (T : TX K mg) {k : Nat} : FnOkG P w K mg base CX0 (k + 1) T.d__law_alike.f T.d__law_alike.fd P__law_alike (sp_alike K) := by
  refine okG T.d__law_alike.F sc__law_alike (fun vs H Q E h => ?_) (fun cdv A outer s H vs Q E hgd hr h => ?_)
  · obtain ⟨_, _, _, rfl, _⟩ := h
    rfl
  · obtain ⟨x, y, d, rfl, hx, hy, hs, q⟩ := h
    have hu64 := hr.units
    refine ⟨_, (pss_one (ps_ret (pe_and (pe_cmpR (r := rEqG K) (op_eqG hu64) (pv 0) (pv 1) (nomark _)) (pe_one (pe_cmpR (r := rEqG K) (op_eqG hu64) (pe_callB (r := rReprG K) (call_reprG hgd hu64) (by rfl) T.b_repr bt_repr (pa_cons (pv 0) pa_nil)) (pe_callB (r := rReprG K) (call_reprG hgd hu64) (by rfl) T.b_repr bt_repr (pa_cons (pv 1) pa_nil)) (nomark _)))))), ?_⟩
    have hf := fine_lay d hs.fi
    refine ⟨x, rfl, y, rfl, Or.inr ⟨d, d, hx, hy, hs.shaped, hs.shaped, _, rfl, ?_⟩⟩
    rw [hs.eqv]
    refine ⟨x, rfl, ?_⟩
    walk_at "nc"
    refine ⟨x, d, rfl, hx, hf.2.1, hf.2.2, hs.dp, hs.len, y, rfl, ?_⟩
    refine ⟨y, d, rfl, hy, hf.2.1, hf.2.2, hs.dp, hs.len, Or.inl ⟨rfl, ?_⟩⟩
    rw [decide_eq_true rfl]
    exact q
theorem ints_shaped : ∀ o : List Int, SeqAt.shaped (.list (o.map PyData.int)) = true := fun o => by
  have h1 : ∀ o : List Int, PyData.canLayAll0 (o.map PyData.int) = true := fun o => by
    induction o with
    | nil => rfl
    | cons x o ih => simp [PyData.canLayAll0, PyData.canLay0, ih]
  have h2 : ∀ o : List Int, PyData.depthAll (o.map PyData.int) = 0 := fun o => by
    induction o with
    | nil => rfl
    | cons x o ih => simp [PyData.depthAll, PyData.depth, ih]
  show (PyData.canLay0 (.list (o.map PyData.int)) && decide (PyData.depth (.list (o.map PyData.int)) ≤ 64)) = true
  simp only [PyData.canLay0, PyData.depth, h1, h2]
  rfl
theorem dp_ints {H : Hp} : ∀ o : List Int, DpAll K H (o.map V.int) (o.map PyData.int)
  | [] => .nil
  | x :: o => .cons (.int x) (dp_ints o)
theorem ints_any (o : List Int) (u : Int) : ((o.map PyData.int).any fun z => PyData.eqv z (.int u)) = decide (u ∈ o) := by
  rw [List.any_map]
  have e : ((fun z => PyData.eqv z (.int u)) ∘ PyData.int) = fun z => z == u := by
    funext z
    simp [PyData.eqv]
  rw [e, Bool.eq_iff_iff]
  simp
end
end Fm
namespace Fm
open PySem PySem.Spec PyProof.Rows L2
local macro_rules | `(tactic| walk_at "nn") => `(tactic| dsimp only [tC, tNil, tCons, tCB, tCall, gName, tSeq, tAsg, tPar, tDrop, tRet])
/-- a list or tuple in some other order -/
def sp_mixG (K : PySem.W.Frag) : Sp := fun vs H Q _ => ∃ (b l : Addr) (xs : List V), vs = [.ref b, .ref l] ∧ Bag H b ∧ ((H l = some (.lst xs) ∧ l ≠ b) ∨ SqT K H l xs) ∧ xs.length ≤ 1000 ∧
  ∀ (p : Addr) (ys : List V) H', ys.Perm xs → H p = none → H' p = some (.lst ys) → Dr b H H' → Q (.ref p) H'
theorem perm_ins {α : Type} (ms : List α) (j : Nat) (u : α) : (ms.take j ++ [u] ++ ms.drop j).Perm (ms ++ [u]) := by
  have h1 : (ms.take j ++ [u] ++ ms.drop j).Perm (ms.take j ++ (ms.drop j ++ [u])) := by
    rw [List.append_assoc]
    exact List.Perm.append_left _ List.perm_append_comm
  rw [← List.append_assoc, List.take_append_drop] at h1
  exact h1
section
variable {P : Program} {w : World} {K : PySem.W.Frag} {mg : Str → Option Value} {base : Heap}
theorem ok__law_mixed (T : TX K mg) {k : Nat} : FnOk P w K mg base CX0 (k + 2) T.d__law_mixed.f T.d__law_mixed.fd P__law_mixed (sp_mixG K) := by
  have G__law_take : FnOk P w K mg base CX0 1 T.d__law_take.f T.d__law_take.fd P__law_take sp_take := ok__law_take T
  refine T.d__law_mixed.F.ok sc__law_mixed (fun vs H Q E h => ?_) (fun cdv A outer s H vs Q E hr h => ?_)
  · obtain ⟨_, _, _, rfl, _⟩ := h
    rfl
  · obtain ⟨b, l, xs, rfl, hB, hl, hln, q⟩ := h
    refine ⟨_, (pss_cons (ps_set (i := 2) sc__law_mixed.nd rfl (Or.inl rfl) (pe_lst pa_nil)) (pss_cons (ps_for PassesOwn.never rfl (pi_seq (pv 1)) (pg_name (i := 3) sc__law_mixed.nd rfl (Or.inl rfl)) (pss_one (ps_expr (pe_bm PySem.F.plainAttrs_list PySem.F.slot_list_insert PySem.F.type_list_insert mt_insert (pv 2) (pa_cons (pe_call G__law_take (hr.mono (by omega)) rfl T.d__law_take.g T.d__law_take.F.kp T.d__law_take.b .nil pass0 (pa_cons (pv 0) (pa_cons (pe_op (r := rAddG K) op_addG (pe_callB (r := rLenG K) call_lenG (by rfl) T.b_len bt_len (pa_cons (pv 2) pa_nil)) pe_int) pa_nil))) (pa_cons (pv 3) pa_nil)))))) (pss_one (ps_ret (pv 2))))), ?_⟩
    refine ⟨Nat.zero_le _, fun p np => ⟨.ref l, rfl, l, rfl, ?_⟩⟩
    have hpb : p ≠ b := hB.fneq np
    rcases hl with ⟨hl, hlb⟩ | hl
    · refine Or.inl ⟨⟨_, .inl (.inl (same_new np _ _ hl))⟩, ?_⟩
      refine for_list (K := K) (a := l) (xs := xs) (fun i σ H2 => ∃ (ms : List V) (y : Option V), σ = [some (.ref b), some (.ref l), some (.ref p), y] ∧ H2 p = some (.lst ms) ∧ ms.Perm (xs.take i) ∧ Dr b H H2)
        ⟨[], none, rfl, upd_same, by simp, Dr.new np⟩ (fun i σ H2 _ h2 => ?_) (fun i x σ H2 hx h2 => ?_) (fun σ H2 h2 => ?_)
      · obtain ⟨_, _, _, _, _, d⟩ := h2
        exact .inl (.inl (d.get hlb hl))
      · obtain ⟨ms, y, rfl, e2, s2, d2⟩ := h2
        have hi := (List.getElem?_eq_some_iff.mp hx).1
        have l2 : ms.length = i := by rw [s2.length_eq, List.length_take]; omega
        refine ⟨.ref p, rfl, .inl ⟨rfl, _, .inl (.inl e2)⟩, .ref b, rfl, .ref p, rfl, ?_⟩
        walk_at "nn"
        refine rd_len (.inl (.inl (.inl e2))) ?_
        refine Or.inl ⟨_, 1, rfl, rfl, b, _, rfl, d2.bag hB, by omega, by omega, fun j H3 hj0 hj1 d3 => ?_⟩
        have e3 := d3.get hpb e2
        refine ⟨x, rfl, p, _, j, x, rfl, rfl, e3, small1000 (by omega), hj0, by omega, ?_⟩
        refine ⟨ms.take j.toNat ++ [x] ++ ms.drop j.toNat, _, rfl, ?_, ?_, (d2.trans d3).wr np⟩
        · rw [upd_same]
          first | done | simp
        · rw [List.take_add_one, hx]
          exact (perm_ins ms j.toNat x).trans (s2.append_right _)
      · obtain ⟨ms, y, rfl, e2, s2, d2⟩ := h2
        rw [List.take_length] at s2
        exact ⟨.ref p, rfl, q p ms H2 s2 np e2 d2⟩
    · refine Or.inr ⟨⟨_, (Mv.new (S := []) np).sqT hl⟩, ?_⟩
      refine for_tup (K := K) (a := l) (xs := xs) (fun i σ H2 => ∃ (ms : List V) (y : Option V), σ = [some (.ref b), some (.ref l), some (.ref p), y] ∧ H2 p = some (.lst ms) ∧ ms.Perm (xs.take i) ∧ Dr b H H2)
        ⟨[], none, rfl, upd_same, by simp, Dr.new np⟩ (fun i σ H2 _ h2 => ?_) (fun i x σ H2 hx h2 => ?_) (fun σ H2 h2 => ?_)
      · obtain ⟨_, _, _, _, _, d⟩ := h2
        exact d.mv.sqT hl
      · obtain ⟨ms, y, rfl, e2, s2, d2⟩ := h2
        have hi := (List.getElem?_eq_some_iff.mp hx).1
        have l2 : ms.length = i := by rw [s2.length_eq, List.length_take]; omega
        refine ⟨.ref p, rfl, .inl ⟨rfl, _, .inl (.inl e2)⟩, .ref b, rfl, .ref p, rfl, ?_⟩
        walk_at "nn"
        refine rd_len (.inl (.inl (.inl e2))) ?_
        refine Or.inl ⟨_, 1, rfl, rfl, b, _, rfl, d2.bag hB, by omega, by omega, fun j H3 hj0 hj1 d3 => ?_⟩
        have e3 := d3.get hpb e2
        refine ⟨x, rfl, p, _, j, x, rfl, rfl, e3, small1000 (by omega), hj0, by omega, ?_⟩
        refine ⟨ms.take j.toNat ++ [x] ++ ms.drop j.toNat, _, rfl, ?_, ?_, (d2.trans d3).wr np⟩
        · rw [upd_same]
          first | done | simp
        · rw [List.take_add_one, hx]
          exact (perm_ins ms j.toNat x).trans (s2.append_right _)
      · obtain ⟨ms, y, rfl, e2, s2, d2⟩ := h2
        rw [List.take_length] at s2
        exact ⟨.ref p, rfl, q p ms H2 s2 np e2 d2⟩
end
end Fm
namespace Fm
open PySem PySem.Spec PyProof.Rows L2 SlX
local macro_rules | `(tactic| walk_at "nn") => `(tactic| dsimp only [tC, tNil, tCons, tCB, tCall, gName, tSeq, tAsg, tPar, tDrop, tRet])
local macro_rules | `(tactic| walk_at "nc") => `(tactic| dsimp only [tC, tNil, tCons, tCB, tCall])
theorem isSet_d {K : PySem.W.Frag} {H : Hp} {v : V} {st : Sta} {sts : List Sta} {p : Int} (hst : sts[p.toNat]? = some st) (hv : Im K H v st.d) : ∃ a y y1 ys, v = .ref a ∧ SqT K H a (.str y :: y1 :: ys) ∧ (!decide (V.str y = V.str "set")) = !isSet sts p ∧
    (isSet sts p = true → SqT K H a [.str y, y1, .int (stp sts p)]) := by
  cases st with
  | set chs g =>
    obtain ⟨a, x0, x1, x2, rfl, ha, h0, h1, h2⟩ := hv.tup3
    cases h0.strI
    cases h2.intI
    refine ⟨a, _, x1, _, rfl, ha, ?_, fun _ => ?_⟩
    · unfold isSet
      rw [hst, decide_eq_true rfl]
    · unfold stp
      rw [hst]
      exact ha
  | ask act ts ways =>
    obtain ⟨a, x0, x1, x2, x3, rfl, ha, h0, h1, h2, h3⟩ := hv.tup4
    cases h0.strI
    have e : isSet sts p = false := by unfold isSet; rw [hst]
    refine ⟨a, _, x1, _, rfl, ha, ?_, fun z => by rw [e] at z; cases z⟩
    rw [e, ne_str (by decide +kernel)]
  | fin word ts =>
    obtain ⟨a, x0, x1, x2, rfl, ha, h0, h1, h2⟩ := hv.tup3
    cases h0.strI
    have e : isSet sts p = false := by unfold isSet; rw [hst]
    refine ⟨a, _, x1, _, rfl, ha, ?_, fun z => by rw [e] at z; cases z⟩
    rw [e, ne_str (by decide +kernel)]
end Fm
namespace Fm
open PySem PySem.Spec PyProof.Rows L2 SlX
local macro_rules | `(tactic| walk_at "nn") => `(tactic| dsimp only [tC, tNil, tCons, tCB, tCall, gName, tSeq, tAsg, tPar, tDrop, tRet])
local macro_rules | `(tactic| walk_at "nc") => `(tactic| dsimp only [tC, tNil, tCons, tCB, tCall])
/-- acts as they are drawn -/
structure DrawnActs (many : Int) (rs : List ActR) : Prop where
  ok : ∀ r ∈ rs, r.ok
  le : ∀ r ∈ rs, ∀ e ∈ r.outs, e.2 ≤ many
  few : rs.length ≤ 4
/-- few outcomes, plain names -/
def ActR.thin (r : ActR) : Prop := r.outs.length ≤ 3 ∧ ∀ e ∈ r.outs, Nm e.1
def sp_acts (K : PySem.W.Frag) : Sp := fun vs H Q _ => ∃ (b : Addr) (many : Int), vs = [.ref b, .int many] ∧ Bag H b ∧ 0 ≤ many ∧ many ≤ 1000000 ∧
  ∀ (d : Addr) (zs : List ActA) H', H d = none → ActsAt K H' d zs → DrawnActs many (zs.map (·.r)) → 1 ≤ zs.length → (∀ z ∈ zs, z.r.thin) → zs.length ≤ 3 → Dr b H H' → Q (.ref d) H'
theorem rd_slL {K : PySem.W.Frag} {H : Hp} {Q : VK} {a : Addr} {xs : List V} {k : Int} (ha : H a = some (.lst xs)) (h0 : 0 ≤ k) (h : ∀ p, H p = none → Q (.ref p) (upd H p (.lst (xs.take k.toNat)))) : rSlG K (.ref a) none (some k) H Q := by
  refine Or.inl ⟨a, xs, rfl, .inl (.inl ha), fun p np => ?_⟩
  rw [cutV_to h0]
  exact h p np
/-- an entry put into a dict of outcomes -/
theorem rows_put {rows : List (Str × Int)} (n : (rows.map (·.1)).Nodup) (x : Str) (i : Int) : ∃ rows' : List (Str × Int), putK (rows.map rowK) (.inr x) (.int i) = rows'.map rowK ∧ (rows'.map (·.1)).Nodup ∧ (∀ e ∈ rows', e ∈ rows ∨ e = (x, i)) ∧ rows'.length ≤ rows.length + 1 ∧ 1 ≤ rows'.length := by
  by_cases h : x ∈ rows.map (·.1)
  · refine ⟨rows.map fun e => if e.1 = x then (e.1, i) else e, ?_, ?_, ?_, by simp, ?_⟩
    · unfold putK
      have : ((rows.map rowK).any fun kv => decide (kv.1 = Sum.inr x)) = true := by
        obtain ⟨e, he, rfl⟩ := List.mem_map.mp h
        exact List.any_eq_true.mpr ⟨rowK e, List.mem_map.mpr ⟨e, he, rfl⟩, by simp⟩
      rw [if_pos this, List.map_map, List.map_map]
      refine List.map_congr_left fun e _ => ?_
      simp only [Function.comp]
      by_cases hx : e.1 = x
      · rw [if_pos hx, if_pos (by rw [hx])]
      · rw [if_neg hx, if_neg (fun z => hx (Sum.inr.inj z))]
    · rw [List.map_map]
      have : ((fun e : Str × Int => e.1) ∘ fun e : Str × Int => if e.1 = x then (e.1, i) else e) = fun e => e.1 := by
        funext e
        simp only [Function.comp]
        split <;> rfl
      rw [this]
      exact n
    · intro e he
      obtain ⟨f, hf, rfl⟩ := List.mem_map.mp he
      by_cases hx : f.1 = x
      · rw [if_pos hx]
        exact .inr (by rw [hx])
      · rw [if_neg hx]
        exact .inl hf
    · rw [List.length_map]
      obtain ⟨e, he, _⟩ := List.mem_map.mp h
      exact List.length_pos_of_mem he
  · refine ⟨rows ++ [(x, i)], ?_, ?_, ?_, by simp, by simp⟩
    · rw [putK_new (by rw [row_keys]; intro z; obtain ⟨y, hy, e⟩ := List.mem_map.mp z; cases e; exact h hy), List.map_append]
      rfl
    · rw [List.map_append]
      exact nd_snoc n h
    · intro e he
      rcases List.mem_append.mp he with he | he
      · exact .inl he
      · exact .inr (List.mem_singleton.mp he)
/-- an act put into a dict of acts -/
theorem acts_put {zs : List ActA} (n : (zs.map (·.r.nm)).Nodup) (z : ActA) : ∃ zs' : List ActA, putK (zs.map ActA.kv) (.inr z.r.nm) (.ref z.a) = zs'.map ActA.kv ∧ (zs'.map (·.r.nm)).Nodup ∧ (∀ e ∈ zs', e ∈ zs ∨ e = z) ∧ zs'.length ≤ zs.length + 1 ∧ 1 ≤ zs'.length := by
  by_cases h : z.r.nm ∈ zs.map (·.r.nm)
  · refine ⟨zs.map fun e => if e.r.nm = z.r.nm then z else e, ?_, ?_, ?_, by simp, ?_⟩
    · unfold putK
      have : ((zs.map ActA.kv).any fun kv => decide (kv.1 = Sum.inr z.r.nm)) = true := by
        obtain ⟨e, he, e2⟩ := List.mem_map.mp h
        exact List.any_eq_true.mpr ⟨e.kv, List.mem_map.mpr ⟨e, he, rfl⟩, by simp [ActA.kv, e2]⟩
      rw [if_pos this, List.map_map, List.map_map]
      refine List.map_congr_left fun e _ => ?_
      simp only [Function.comp]
      by_cases hx : e.r.nm = z.r.nm
      · rw [if_pos hx, if_pos (by simp [ActA.kv, hx])]
        simp [ActA.kv, hx]
      · rw [if_neg hx, if_neg (show ¬ e.kv.1 = Sum.inr z.r.nm from fun y => hx (Sum.inr.inj y))]
    · rw [List.map_map]
      have : ((fun e : ActA => e.r.nm) ∘ fun e : ActA => if e.r.nm = z.r.nm then z else e) = fun e => e.r.nm := by
        funext e
        simp only [Function.comp]
        split
        · rename_i hx
          exact hx.symm
        · rfl
      rw [this]
      exact n
    · intro e he
      obtain ⟨f, hf, rfl⟩ := List.mem_map.mp he
      by_cases hx : f.r.nm = z.r.nm
      · rw [if_pos hx]
        exact .inr rfl
      · rw [if_neg hx]
        exact .inl hf
    · rw [List.length_map]
      obtain ⟨e, he, _⟩ := List.mem_map.mp h
      exact List.length_pos_of_mem he
  · refine ⟨zs ++ [z], ?_, ?_, ?_, by simp, by simp⟩
    · rw [putK_new (by rw [kv_keys]; intro y; obtain ⟨u, hu, e⟩ := List.mem_map.mp y; cases e; exact h hu), List.map_append]
      rfl
    · rw [List.map_append]
      exact nd_snoc n h
    · intro e he
      rcases List.mem_append.mp he with he | he
      · exact .inl he
      · exact .inr (List.mem_singleton.mp he)
/-- the text of a text -/
def txt : V → Str
  | .str x => x
  | _ => ""
theorem perm_strs {ms : List V} {xs : List Str} (h : ms.Perm (xs.map V.str)) : ∃ ws : List Str, ms = ws.map V.str ∧ ws.Perm xs := by
  refine ⟨ms.map txt, ?_, ?_⟩
  · rw [List.map_map]
    have : ∀ v ∈ ms, (V.str ∘ txt) v = v := fun v hv => by
      obtain ⟨x, _, rfl⟩ := List.mem_map.mp (h.mem_iff.mp hv)
      rfl
    rw [List.map_congr_left this]
    simp
  · have := h.map txt
    rw [List.map_map] at this
    rw [show xs.map (txt ∘ V.str) = xs by rw [show txt ∘ V.str = id from rfl, List.map_id]] at this
    exact this
theorem ActsAt.mvS {K : PySem.W.Frag} {S : List Addr} {H H' : Hp} {d : Addr} {zs : List ActA} (h : ActsAt K H d zs) (m : Mv S H H') (hd : d ∉ S) (ho : ∀ z ∈ zs, z.o ∉ S) : ActsAt K H' d zs :=
  ⟨m.keep _ _ hd h.at_, h.nd, fun z hz => m.sqT (h.tup z hz), fun z hz => m.keep _ _ (ho z hz) (h.out z hz), h.ond⟩
section
variable {P : Program} {w : World} {K : PySem.W.Frag} {mg : Str → Option Value} {base : Heap}
theorem ok__law_acts (T : TX K mg) {k : Nat} : FnOk P w K mg base CX0 (k + 3) T.d__law_acts.f T.d__law_acts.fd P__law_acts (sp_acts K) := by
  have G__law_take : FnOk P w K mg base CX0 1 T.d__law_take.f T.d__law_take.fd P__law_take sp_take := ok__law_take T
  have G__law_names : FnOk P w K mg base CX0 2 T.d__law_names.f T.d__law_names.fd P__law_names sp_names := ok__law_names T
  have G__law_mixed : FnOk P w K mg base CX0 2 T.d__law_mixed.f T.d__law_mixed.fd P__law_mixed (sp_mixG K) := ok__law_mixed T
  refine T.d__law_acts.F.ok sc__law_acts (fun vs H Q E h => ?_) (fun cdv A outer s H vs Q E hr h => ?_)
  · obtain ⟨_, _, rfl, _⟩ := h
    rfl
  · obtain ⟨b, many, rfl, hB, hm0, hm1, q⟩ := h
    have hu1 := hu1_of hr
    refine ⟨_, (pss_cons (ps_par3 (i := 2) (j := 3) (l := 4) rfl sc__law_acts.nd rfl rfl rfl (by decide) (by decide) (by decide) rfl rfl rfl (pa_cons (pe_call G__law_names (hr.mono (by omega)) rfl T.d__law_names.g T.d__law_names.F.kp T.d__law_names.b .nil pass0 (pa_cons (pv 0) (pa_cons pe_int pa_nil))) (pa_cons (pe_call G__law_names (hr.mono (by omega)) rfl T.d__law_names.g T.d__law_names.F.kp T.d__law_names.b .nil pass0 (pa_cons (pv 0) (pa_cons pe_int pa_nil))) (pa_cons pe_dnewK pa_nil))) rfl) (pss_cons (ps_for PassesOwn.never rfl (pi_seq (pe_slice (r := rSlG K) sl_G (pv 2) po_none (po_some (pe_op (r := rAddG K) op_addG pe_int (pe_call G__law_take (hr.mono (by omega)) rfl T.d__law_take.g T.d__law_take.F.kp T.d__law_take.b .nil pass0 (pa_cons (pv 0) (pa_cons pe_int pa_nil))))))) (pg_name (i := 5) sc__law_acts.nd rfl (Or.inl rfl)) (pss_cons (ps_set (i := 6) sc__law_acts.nd rfl (Or.inl rfl) pe_dnewK) (pss_cons (ps_for PassesOwn.never rfl (pi_seq (pe_slice (r := rSlG K) sl_G (pe_call G__law_mixed (hr.mono (by omega)) rfl T.d__law_mixed.g T.d__law_mixed.F.kp T.d__law_mixed.b .nil pass0 (pa_cons (pv 0) (pa_cons (pv 3) pa_nil))) po_none (po_some (pe_op (r := rAddG K) op_addG pe_int (pe_call G__law_take (hr.mono (by omega)) rfl T.d__law_take.g T.d__law_take.F.kp T.d__law_take.b .nil pass0 (pa_cons (pv 0) (pa_cons pe_int pa_nil))))))) (pg_name (i := 7) sc__law_acts.nd rfl (Or.inl rfl)) (pss_one (ps_dput hu1 (pv 6) (pv 7) (pe_callB (call_min2 rfl) (by rfl) T.b_min bt_min (pa_cons (pv 1) (pa_cons (pe_ix (r := rIx K) ix_seq (pe_lst (pa_cons pe_int (pa_cons pe_int (pa_cons pe_int (pa_cons pe_int (pa_cons pe_int pa_nil)))))) (pe_call G__law_take (hr.mono (by omega)) rfl T.d__law_take.g T.d__law_take.F.kp T.d__law_take.b .nil pass0 (pa_cons (pv 0) (pa_cons pe_int pa_nil))) (fun _ _ => rfl)) pa_nil))) rfl))) (pss_one (ps_dput hu1 (pv 4) (pv 5) (pe_tup (pa_cons (pe_call G__law_take (hr.mono (by omega)) rfl T.d__law_take.g T.d__law_take.F.kp T.d__law_take.b .nil pass0 (pa_cons (pv 0) (pa_cons pe_int pa_nil))) (pa_cons (pv 6) pa_nil))) rfl))))) (pss_one (ps_ret (pv 4))))), ?_⟩
    refine ⟨.ref b, rfl, b, 3, rfl, hB, by decide, by decide, fun p1 xs1 H1 l1 nm1 np1 e1 d1 => ?_⟩
    have hB1 := d1.bag hB
    refine ⟨.ref b, rfl, b, 6, rfl, hB1, by decide, by decide, fun p2 xs2 H2 l2 nm2 np2 e2 d2 => ?_⟩
    have hB2 := d2.bag hB1
    have p1b : p1 ≠ b := hB.fneq np1
    have p2b : p2 ≠ b := hB1.fneq np2
    have d02 := d1.trans d2
    intro d nd
    have ndH := d02.free hB nd
    have e3 : upd H2 d (.dK []) d = some (.dK []) := upd_same
    have d03 : Dr b H (upd H2 d (.dK [])) := d02.wr ndH
    have e13 : upd H2 d (.dK []) p1 = some (.lst (xs1.map V.str)) := same_new nd _ _ (d2.get p1b e1)
    have e23 : upd H2 d (.dK []) p2 = some (.lst (xs2.map V.str)) := same_new nd _ _ e2
    have hB3 := d03.bag hB
    generalize upd H2 d (.dK []) = H3 at e3 d03 e13 e23 hB3 ⊢
    refine ⟨_, _, _, rfl, .ref p1, rfl, .ref b, rfl, b, 3, rfl, hB3, by decide, by decide, fun k1 H4 k10 k13 d4 => ?_⟩
    refine Or.inl ⟨1, k1, rfl, rfl, 1 + k1, rfl, rd_slL (d4.get p1b e13) (by omega) fun p5 np5 => ⟨p5, rfl, ?_⟩⟩
    have hp5b : p5 ≠ b := (d4.bag hB3).fneq np5
    have hdb : d ≠ b := hB.fneq ndH
    have d05 : Dr b H (upd H4 p5 (.lst ((xs1.map V.str).take (1 + k1).toNat))) := (d03.trans d4).trans (.new np5)
    have e5 : upd H4 p5 (.lst ((xs1.map V.str).take (1 + k1).toNat)) p5 = some (.lst ((xs1.take (1 + k1).toNat).map V.str)) := by rw [upd_same, List.map_take]
    have ed5 : upd H4 p5 (.lst ((xs1.map V.str).take (1 + k1).toNat)) d = some (.dK []) := same_new np5 _ _ (d4.get hdb e3)
    have e25 : upd H4 p5 (.lst ((xs1.map V.str).take (1 + k1).toNat)) p2 = some (.lst (xs2.map V.str)) := same_new np5 _ _ (d4.get p2b e23)
    generalize upd H4 p5 (.lst ((xs1.map V.str).take (1 + k1).toNat)) = H5 at d05 e5 ed5 e25 ⊢
    have hys : ∀ x ∈ xs1.take (1 + k1).toNat, Nm x := fun x hx => nm1 x (List.mem_of_mem_take hx)
    have hyl : 1 ≤ (xs1.take (1 + k1).toNat).length ∧ (xs1.take (1 + k1).toNat).length ≤ 3 := by rw [List.length_take]; omega
    generalize xs1.take (1 + k1).toNat = ys1 at e5 hys hyl
    refine Or.inl ⟨⟨_, .inl (.inl e5)⟩, ?_⟩
    refine for_list (K := K) (a := p5) (xs := ys1.map V.str) (fun i σ H6 => ∃ (zs : List ActA) (u5 u6 u7 : Option V), σ = [some (.ref b), some (.int many), some (.ref p1), some (.ref p2), some (.ref d), u5, u6, u7] ∧ H6 p5 = some (.lst (ys1.map V.str)) ∧ H6 p2 = some (.lst (xs2.map V.str)) ∧ ActsAt K H6 d zs ∧ (∀ z ∈ zs, z.o ≠ d) ∧
        (∀ z ∈ zs, z.r.ok ∧ (∀ e ∈ z.r.outs, e.2 ≤ many) ∧ z.r.thin) ∧ zs.length ≤ i ∧ (0 < i → 1 ≤ zs.length) ∧ Dr b H H6)
      ⟨[], none, none, none, rfl, e5, e25, ⟨ed5, by simp, by simp, by simp, by simp⟩, by simp, by simp, Nat.le_refl _, by omega, d05⟩ (fun i σ H6 _ h6 => ?_) (fun i x σ H6 hx h6 => ?_) (fun σ H6 h6 => ?_)
    · obtain ⟨zs, u5, u6, u7, rfl, e6, _⟩ := h6
      exact .inl (.inl e6)
    · obtain ⟨zs, u5, u6, u7, rfl, e6, e26, hA6, ho6, hk6, hl6, hs6, d06⟩ := h6
      rw [List.getElem?_map] at hx
      obtain ⟨nm, hnm, rfl⟩ := Option.map_eq_some_iff.mp hx
      have hB6 := d06.bag hB
      intro o no
      have noH := d06.free hB no
      have hod : o ≠ d := (ne_of_none hA6.at_ no).symm
      have hob : o ≠ b := hB6.fneq no
      have hzo : ∀ z ∈ zs, z.o ≠ o := fun z hz => ne_of_none (hA6.out z hz) no
      have hdb' : d ≠ b := hdb
      have d07 : Dr b H (upd H6 o (.dK [])) := d06.trans (.new no)
      have e7 : upd H6 o (.dK []) o = some (.dK []) := upd_same
      have m67 : Mv [] H6 (upd H6 o (.dK [])) := .new no
      generalize upd H6 o (.dK []) = H7 at d07 e7 m67 ⊢
      have hB7 := d07.bag hB
      refine ⟨.ref b, rfl, .ref p2, rfl, b, p2, _, rfl, hB7, .inl ⟨m67.same _ _ e26, p2b⟩, by rw [List.length_map]; omega, fun pm ms H8 hpm npm e8 d8 => ?_⟩
      have hB8 := d8.bag hB7
      have hpmb : pm ≠ b := hB7.fneq npm
      obtain ⟨ws, rfl, hws⟩ := perm_strs hpm
      refine ⟨.ref b, rfl, b, 3, rfl, hB8, by decide, by decide, fun k2 H9 k20 k23 d9 => ?_⟩
      refine Or.inl ⟨1, k2, rfl, rfl, 1 + k2, rfl, rd_slL (d9.get hpmb e8) (by omega) fun pl npl => ⟨pl, rfl, ?_⟩⟩
      have hB9 := d9.bag hB8
      have hplb : pl ≠ b := hB9.fneq npl
      have d79 : Dr b H7 (upd H9 pl (.lst ((ws.map V.str).take (1 + k2).toNat))) := (d8.trans d9).trans (.new npl)
      have e10 : upd H9 pl (.lst ((ws.map V.str).take (1 + k2).toNat)) pl = some (.lst ((ws.take (1 + k2).toNat).map V.str)) := by rw [upd_same, List.map_take]
      generalize upd H9 pl (.lst ((ws.map V.str).take (1 + k2).toNat)) = H10 at d79 e10 ⊢
      have hwl : ws.length = 6 := by rw [hws.length_eq]; exact l2
      have hvs : ∀ x ∈ ws.take (1 + k2).toNat, Nm x := fun x hx => nm2 x (hws.mem_iff.mp (List.mem_of_mem_take hx))
      have hvl : 1 ≤ (ws.take (1 + k2).toNat).length ∧ (ws.take (1 + k2).toNat).length ≤ 3 := by rw [List.length_take]; omega
      generalize ws.take (1 + k2).toNat = vs1 at e10 hvs hvl
      have hp5b' : p5 ≠ b := hp5b
      refine Or.inl ⟨⟨_, .inl (.inl e10)⟩, ?_⟩
      refine for_list (K := K) (a := pl) (xs := vs1.map V.str) (fun j σ H11 => ∃ (rows : List (Str × Int)) (u7 : Option V), σ = [some (.ref b), some (.int many), some (.ref p1), some (.ref p2), some (.ref d), some (.str nm), some (.ref o), u7] ∧ H11 pl = some (.lst (vs1.map V.str)) ∧ H11 p5 = some (.lst (ys1.map V.str)) ∧ H11 p2 = some (.lst (xs2.map V.str)) ∧ ActsAt K H11 d zs ∧
          H11 o = some (.dK (rows.map rowK)) ∧ (rows.map (·.1)).Nodup ∧ (∀ e ∈ rows, On e.1 ∧ 0 ≤ e.2 ∧ e.2 ≤ 2 ∧ e.2 ≤ many ∧ Nm e.1) ∧ rows.length ≤ j ∧ (0 < j → 1 ≤ rows.length) ∧ Dr b H H11)
        ⟨[], _, rfl, e10, d79.get hp5b' (m67.same _ _ e6), d79.get p2b (m67.same _ _ e26), (hA6.mv m67).dr d79 hB7, d79.get hob e7, by simp, by simp, Nat.le_refl _, by omega, d07.trans d79⟩ (fun j σ H11 _ h11 => ?_) (fun j x σ H11 hx h11 => ?_) (fun σ H11 h11 => ?_)
      · obtain ⟨rows, u7, rfl, e11, _⟩ := h11
        exact .inl (.inl e11)
      · obtain ⟨rows, u7, rfl, e11, e511, e211, hA11, eo11, ndr, hrk, hrl, hrs, d011⟩ := h11
        rw [List.getElem?_map] at hx
        obtain ⟨wd, hwd, rfl⟩ := Option.map_eq_some_iff.mp hx
        have hj := (List.getElem?_eq_some_iff.mp hwd).1
        have hB11 := d011.bag hB
        refine ⟨.int many, rfl, (by decide : 5 ≤ sizeLine), fun q12 nq12 => ?_⟩
        have hq12b : q12 ≠ b := hB11.fneq nq12
        have d12 : Dr b H11 (upd H11 q12 (.lst [.int 0, .int 1, .int 0, .int 1, .int 2])) := .new nq12
        have e12 : upd H11 q12 (.lst [.int 0, .int 1, .int 0, .int 1, .int 2]) q12 = some (.lst [.int 0, .int 1, .int 0, .int 1, .int 2]) := upd_same
        generalize upd H11 q12 (.lst [.int 0, .int 1, .int 0, .int 1, .int 2]) = H12 at d12 e12 ⊢
        refine ⟨.ref b, rfl, b, 5, rfl, d12.bag hB11, by decide, by decide, fun k3 H13 k30 k35 d13 => ?_⟩
        have d113 := d12.trans d13
        obtain ⟨v3, hv3, hv30, hv32⟩ : ∃ v3 : Int, [V.int 0, .int 1, .int 0, .int 1, .int 2][k3.toNat]? = some (.int v3) ∧ 0 ≤ v3 ∧ v3 ≤ 2 := by
          have : k3.toNat < 5 := by omega
          match k3.toNat, this with
          | 0, _ => exact ⟨0, rfl, by decide, by decide⟩
          | 1, _ => exact ⟨1, rfl, by decide, by decide⟩
          | 2, _ => exact ⟨0, rfl, by decide, by decide⟩
          | 3, _ => exact ⟨1, rfl, by decide, by decide⟩
          | 4, _ => exact ⟨2, rfl, by decide, by decide⟩
        refine rd_ixL (.inl (.inl (d13.get hq12b e12))) k30 hv3 ?_
        refine ⟨many, v3, rfl, ?_⟩
        have eo13 := d113.get hob eo11
        obtain ⟨rows', hput, nd', mem', len', one'⟩ := rows_put ndr wd (if v3 < many then v3 else many)
        refine ⟨.ref o, rfl, .str wd, rfl, o, _, rfl, Or.inl ⟨_, .inr wd, eo13, rfl, ?_, rfl⟩, ?_⟩
        · rw [List.length_map]
          exact Nat.lt_of_le_of_lt (show rows.length ≤ 1000 by omega) (by decide)
        rw [hput]
        have hmo : Mv [o] H13 (upd H13 o (.dK (rows'.map rowK))) := .putD eo13
        have kp : ∀ a xs, H11 a = some (.lst xs) → a ≠ b → upd H13 o (.dK (rows'.map rowK)) a = some (.lst xs) := fun a xs h hb => by
          have h13 := d113.get hb h
          rw [upd_ne (by rintro rfl; rw [eo13] at h13; cases h13)]
          exact h13
        refine ⟨rows', _, rfl, kp _ _ e11 hplb, kp _ _ e511 hp5b', kp _ _ e211 p2b, (hA11.dr d113 hB11).mvS hmo (by simpa using hod.symm) (fun z hz => by simpa using hzo z hz), upd_same, nd', fun e he => ?_, by omega, fun _ => one', (d011.trans d113).wr noH⟩
        rcases mem' e he with he | rfl
        · exact hrk e he
        · refine ⟨on_nm (hvs wd (List.mem_of_getElem? hwd)), ?_, ?_, ?_, hvs wd (List.mem_of_getElem? hwd)⟩ <;> (dsimp only; split <;> omega)
      · obtain ⟨rows, u7, rfl, e11, e511, e211, hA11, eo11, ndr, hrk, hrl, hrs, d011⟩ := h11
        rw [List.length_map] at hrl hrs
        have hB11 := d011.bag hB
        refine ⟨.ref b, rfl, b, 3, rfl, hB11, by decide, by decide, fun k4 H12 k40 k43 d12 => ?_⟩
        refine ⟨.ref o, rfl, (by decide : 2 ≤ sizeLine), fun t13 nt13 => ?_⟩
        have d13 : Dr b H11 (upd H12 t13 (.tup [.int k4, .ref o])) := d12.trans (.new nt13)
        have e13 : SqT K (upd H12 t13 (.tup [.int k4, .ref o])) t13 [.int k4, .ref o] := .inl (.inl upd_same)
        generalize upd H12 t13 (.tup [.int k4, .ref o]) = H13 at d13 e13 ⊢
        have hA13 := hA11.dr d13 hB11
        obtain ⟨zs', hput, nd', mem', len', one'⟩ := acts_put hA13.nd ⟨⟨nm, k4, rows⟩, t13, o⟩
        refine ⟨.ref d, rfl, .str nm, rfl, d, _, rfl, Or.inl ⟨_, .inr nm, hA13.at_, rfl, ?_, rfl⟩, ?_⟩
        · rw [List.length_map]
          have hi := (List.getElem?_eq_some_iff.mp hnm).1
          exact Nat.lt_of_le_of_lt (show zs.length ≤ 1000 by omega) (by decide)
        rw [hput]
        have hmd : Mv [d] H13 (upd H13 d (.dK (zs'.map ActA.kv))) := .putD hA13.at_
        have eo13 := d13.get hob eo11
        have kp : ∀ a xs, H11 a = some (.lst xs) → a ≠ b → upd H13 d (.dK (zs'.map ActA.kv)) a = some (.lst xs) := fun a xs h hb => by
          have h13 := d13.get hb h
          rw [upd_ne (by rintro rfl; rw [hA13.at_] at h13; cases h13)]
          exact h13
        have old : ∀ z ∈ zs', z ∈ zs ∨ z = ⟨⟨nm, k4, rows⟩, t13, o⟩ := mem'
        refine ⟨zs', _, _, _, rfl, kp _ _ e511 hp5b', kp _ _ e211 p2b, ⟨upd_same, nd', fun z hz => ?_, fun z hz => ?_, fun z hz => ?_⟩, fun z hz => ?_, fun z hz => ?_, by omega, fun _ => one', (d011.trans d13).wr ndH⟩
        · rcases old z hz with h | rfl
          · exact hmd.sqT (hA13.tup z h)
          · exact hmd.sqT e13
        · rcases old z hz with h | rfl
          · exact hmd.keep _ _ (by simpa using ho6 z h) (hA13.out z h)
          · exact hmd.keep _ _ (by simpa using hod) eo13
        · rcases old z hz with h | rfl
          · exact hA13.ond z h
          · exact ndr
        · rcases old z hz with h | rfl
          · exact ho6 z h
          · exact hod
        · rcases old z hz with h | rfl
          · exact hk6 z h
          · have hnmk := hys nm (List.mem_of_getElem? hnm)
            exact ⟨⟨hnmk, k40, (by omega : k4 ≤ 2), hrs (by omega), (by omega : rows.length ≤ 6), fun e he => ⟨(hrk e he).1, (hrk e he).2.1, (hrk e he).2.2.1⟩⟩, fun e he => (hrk e he).2.2.2.1, (by omega : rows.length ≤ 3), fun e he => (hrk e he).2.2.2.2⟩
    · obtain ⟨zs, u5, u6, u7, rfl, e6, e26, hA6, ho6, hk6, hl6, hs6, d06⟩ := h6
      rw [List.length_map] at hl6 hs6
      refine ⟨.ref d, rfl, q d zs H6 ndH hA6 ⟨fun r hr => ?_, fun r hr => ?_, by rw [List.length_map]; omega⟩ (hs6 (by omega)) (fun z hz => (hk6 z hz).2.2) (by omega) d06⟩
      · obtain ⟨z, hz, rfl⟩ := List.mem_map.mp hr
        exact (hk6 z hz).1
      · obtain ⟨z, hz, rfl⟩ := List.mem_map.mp hr
        exact (hk6 z hz).2.1
end
end Fm
namespace Fm
open PySem PySem.Spec PyProof.Rows L2 SlX
local macro_rules | `(tactic| walk_at "nn") => `(tactic| dsimp only [tC, tNil, tCons, tCB, tCall, gName, tSeq, tAsg, tPar, tDrop, tRet])
local macro_rules | `(tactic| walk_at "nc") => `(tactic| dsimp only [tC, tNil, tCons, tCB, tCall])
theorem perm_lift {α β : Type} {f : α → β} : ∀ {xs : List α} {l : List β}, l.Perm (xs.map f) → ∃ ys : List α, ys.Perm xs ∧ l = ys.map f
  | [], l, h => ⟨[], .refl _, by simpa using h.eq_nil⟩
  | x :: xs, l, h => by
    have hm : f x ∈ l := h.mem_iff.mpr (by simp)
    obtain ⟨l1, l2, rfl⟩ := List.append_of_mem hm
    have h2 : (l1 ++ l2).Perm (xs.map f) := by
      have := List.perm_middle.symm.trans h
      exact (List.perm_cons _).mp this
    obtain ⟨ys, hy, e⟩ := perm_lift h2
    obtain ⟨y1, y2, rfl, rfl, rfl⟩ := List.append_eq_map_iff.mp e
    exact ⟨y1 ++ x :: y2, List.perm_middle.trans ((List.perm_cons _).mpr hy), by simp⟩
theorem normW_perm {rs qs : List ActR} (n : (qs.map (·.nm)).Nodup) (h : (rs.map ActR.norm).Perm (qs.map ActR.norm)) : normW rs = normW qs := by
  unfold normW
  refine srt_of_perm totS ?_ h
  rw [List.map_map]
  exact n
theorem norm_outs {r q : ActR} (h1 : r.nm = q.nm) (h2 : r.ar = q.ar) (n : (q.outs.map (·.1)).Nodup) (h : r.outs.Perm q.outs) : r.norm = q.norm := by
  cases r
  cases q
  simp only at h1 h2 h
  subst h1
  subst h2
  unfold ActR.norm
  rw [srt_of_perm totS n h]
def sp_worldOf (K : PySem.W.Frag) (C : Addr) : Sp := fun vs H Q _ => ∃ (b d : Addr) (zs : List ActA), vs = [.ref b, .ref d] ∧ Bag H b ∧ ActsAt K H d zs ∧ (∀ z ∈ zs, z.r.ok) ∧ zs.length ≤ 50 ∧ ∀ x H', WldAt K H' C x (normW (zs.map (·.r))) → Dr b H H' → Q (.ref x) H'
/-- rows of acts: a tuple of the name and the act -/
structure RowsAt (K : PySem.W.Frag) (H : Hp) (tw : List (Addr × ActA)) : Prop where
  row : ∀ z ∈ tw, SqT K H z.1 [.str z.2.r.nm, .ref z.2.a]
  tup : ∀ z ∈ tw, SqT K H z.2.a [.int z.2.r.ar, .ref z.2.o]
  out : ∀ z ∈ tw, H z.2.o = some (.dK (z.2.r.outs.map rowK))
  ond : ∀ z ∈ tw, (z.2.r.outs.map (·.1)).Nodup
theorem RowsAt.mv {K : PySem.W.Frag} {H H' : Hp} {tw : List (Addr × ActA)} (h : RowsAt K H tw) (m : Mv [] H H') : RowsAt K H' tw := ⟨fun z hz => m.sqT (h.row z hz), fun z hz => m.sqT (h.tup z hz), fun z hz => m.same _ _ (h.out z hz), h.ond⟩
theorem RowsAt.dr {K : PySem.W.Frag} {H H' : Hp} {b : Addr} {tw : List (Addr × ActA)} (h : RowsAt K H tw) (m : Dr b H H') (hB : Bag H b) : RowsAt K H' tw := ⟨fun z hz => m.mv.sqT (h.row z hz), fun z hz => m.mv.sqT (h.tup z hz), fun z hz => m.getK hB (h.out z hz) (fun _ z => by cases z), h.ond⟩
theorem RowsAt.lst {K : PySem.W.Frag} {H H' : Hp} {l : Addr} {xs : List V} {o : HO} {tw : List (Addr × ActA)} (h : RowsAt K H tw) (hl : H l = some (.lst xs)) : RowsAt K (upd H l o) tw := by
  have m : Mv [l] H (upd H l o) := .set hl (by simp)
  exact ⟨fun z hz => m.sqT (h.row z hz), fun z hz => m.sqT (h.tup z hz), fun z hz => m.keep _ _ (by simp; rintro e; have := h.out z hz; rw [e, hl] at this; cases this) (h.out z hz), h.ond⟩
theorem paired_acts {K : PySem.W.Frag} {H : Hp} : ∀ (tw : List (Addr × ActA)), (∀ z ∈ tw, SqT K H z.1 [.str z.2.r.nm, .ref z.2.a]) → Paired (fun p (kv : L2.Key × V) => SqT K H p [kV kv.1, kv.2]) (tw.map (·.1)) ((tw.map (·.2)).map ActA.kv)
  | [], _ => .nil
  | z :: tw, h => .cons (h z (by simp)) (paired_acts tw fun y hy => h y (by simp [hy]))
theorem paired_rows2 {K : PySem.W.Frag} {H : Hp} : ∀ (ps : List (Addr × Str × Int)), (∀ z ∈ ps, SqT K H z.1 [.str z.2.1, .int z.2.2]) → Paired (fun p (kv : L2.Key × V) => SqT K H p [kV kv.1, kv.2]) (ps.map (·.1)) ((ps.map (·.2)).map rowK)
  | [], _ => .nil
  | z :: ps, h => .cons (h z (by simp)) (paired_rows2 ps fun y hy => h y (by simp [hy]))
section
variable {P : Program} {w : World} {K : PySem.W.Frag} {mg : Str → Option Value} {base : Heap}
theorem ok__law_world_of (T : TX K mg) {k : Nat} : FnOk P w K mg base CX0 (k + 7) T.d__law_world_of.f T.d__law_world_of.fd P__law_world_of (sp_worldOf K T.C_World) := by
  have G__law_mixed : FnOk P w K mg base CX0 2 T.d__law_mixed.f T.d__law_mixed.fd P__law_mixed (sp_mixG K) := ok__law_mixed T
  have G_World___init__ : FnOk P w K mg base CX0 5 T.d_World___init__.f T.d_World___init__.fd P_World___init__ (sp_World K T.C_World) := ok_World___init__ T
  refine T.d__law_world_of.F.ok sc__law_world_of (fun vs H Q E h => ?_) (fun cdv A outer s H vs Q E hr h => ?_)
  · obtain ⟨_, _, _, rfl, _⟩ := h
    rfl
  · obtain ⟨b, d, zs, rfl, hB, hA, hok, hfew, q⟩ := h
    have hu1 := hu1_of hr
    refine ⟨_, (pss_cons (ps_set (i := 2) sc__law_world_of.nd rfl (Or.inl rfl) (pe_lst pa_nil)) (pss_cons (ps_for PassesOwn.never rfl (pi_seq (pe_callB (r := rSortA K) (cr_sortA rfl) (by rfl) T.b_sorted bt_sorted (pa_cons (pv 1) pa_nil))) (pg_name (i := 3) sc__law_world_of.nd rfl (Or.inl rfl)) (pss_one (ps_expr (pe_bm PySem.F.plainAttrs_list PySem.F.slot_list_append PySem.F.type_list_append mt_append (pv 2) (pa_cons (pe_tup (pa_cons (pv 3) (pa_cons (pe_tup (pa_cons (pe_ix (r := rIx K) ix_seq (pe_dget hu1 (pv 1) (pv 3) (fun _ _ => rfl)) pe_int (fun _ _ => rfl)) (pa_cons (pe_callTy (r := rDictG K) (call_dictG rfl) (by rfl) T.b_dict bt_dict (pa_cons (pe_call G__law_mixed (hr.mono (by omega)) rfl T.d__law_mixed.g T.d__law_mixed.F.kp T.d__law_mixed.b .nil pass0 (pa_cons (pv 0) (pa_cons (pe_callB (r := rSortSI) (cr_sortSI rfl) (by rfl) T.b_sorted bt_sorted (pa_cons (pe_bm0C (K := K) rfl PySem.F.plainAttrs_dict PySem.F.slot_dict_items PySem.F.type_dict_items mt_itemsK (pe_ix (r := rIx K) ix_seq (pe_dget hu1 (pv 1) (pv 3) (fun _ _ => rfl)) pe_int (fun _ _ => rfl))) pa_nil)) pa_nil))) pa_nil)) pa_nil))) pa_nil))) pa_nil))))) (pss_one (ps_ret (pe_make ⟨T.mk_World, T.d_World___init__.M.at_, T.d_World___init__.M.fn, T.k_World⟩ G_World___init__ (hr.mono (by omega)) rfl T.g_World T.d_World___init__.b .nil pass0 (pa_cons (pe_callTy (r := rDictG K) (call_dictG rfl) (by rfl) T.b_dict bt_dict (pa_cons (pe_call G__law_mixed (hr.mono (by omega)) rfl T.d__law_mixed.g T.d__law_mixed.F.kp T.d__law_mixed.b .nil pass0 (pa_cons (pv 0) (pa_cons (pv 2) pa_nil))) pa_nil)) pa_nil)))))), ?_⟩
    refine ⟨Nat.zero_le _, fun l nl => ?_⟩
    have hlb : l ≠ b := hB.fneq nl
    have e1 : upd H l (.lst []) l = some (.lst []) := upd_same
    have d1 : Dr b H (upd H l (.lst [])) := .new nl
    generalize upd H l (.lst []) = H1 at e1 d1 ⊢
    have hA1 := hA.dr d1 hB
    have hB1 := d1.bag hB
    have hlz : (zs.map (·.r.nm)).length < 64 := by rw [List.length_map]; omega
    refine ⟨.ref d, rfl, Or.inl ⟨d, _, zs.map (·.r.nm), rfl, .inl hA1.at_, kv_keys zs, hlz, fun ys p hp hs np => ⟨p, rfl, ?_⟩⟩⟩
    have hys := srt_keys totS hA.nd hp (sortedS_pw ys hs)
    generalize hss : srt leS (fun z : ActA => z.r.nm) zs = ss at hys
    subst hys
    have hpb : p ≠ b := hB1.fneq np
    have hlp : l ≠ p := ne_of_none e1 np
    have e2 : upd H1 p (.lst ((ss.map (·.r.nm)).map V.str)) p = some (.lst ((ss.map (·.r.nm)).map V.str)) := upd_same
    have e12 : upd H1 p (.lst ((ss.map (·.r.nm)).map V.str)) l = some (.lst []) := same_new np _ _ e1
    have d2 : Dr b H (upd H1 p (.lst ((ss.map (·.r.nm)).map V.str))) := d1.trans (.new np)
    generalize upd H1 p (.lst ((ss.map (·.r.nm)).map V.str)) = H2 at e2 e12 d2 ⊢
    have hsub : ∀ z ∈ ss, z ∈ zs := fun z hz => by rw [← srt_mem (le := leS) (k := fun z : ActA => z.r.nm), hss]; exact hz
    have hsl : ss.length = zs.length := by rw [← hss, srt_len]
    refine Or.inl ⟨⟨_, .inl (.inl e2)⟩, ?_⟩
    refine for_list (K := K) (a := p) (xs := (ss.map (·.r.nm)).map V.str) (fun i σ H3 => ∃ (tw : List (Addr × ActA)) (y : Option V), σ = [some (.ref b), some (.ref d), some (.ref l), y] ∧ H3 p = some (.lst ((ss.map (·.r.nm)).map V.str)) ∧ H3 l = some (.lst ((tw.map (·.1)).map V.ref)) ∧ RowsAt K H3 tw ∧
        tw.map (·.2.r.norm) = (ss.take i).map (·.r.norm) ∧ (∀ z ∈ tw, z.2.r.ok) ∧ Dr b H H3)
      ⟨[], none, rfl, e2, e12, ⟨by simp, by simp, by simp, by simp⟩, by simp, by simp, d2⟩ (fun i σ H3 _ h3 => ?_) (fun i x σ H3 hx h3 => ?_) (fun σ H3 h3 => ?_)
    · obtain ⟨tw, y, rfl, e3, _⟩ := h3
      exact .inl (.inl e3)
    · obtain ⟨tw, y, rfl, e3, el3, hR3, hn3, hk3, d03⟩ := h3
      rw [List.getElem?_map, List.getElem?_map, Option.map_map] at hx
      obtain ⟨z, hz, rfl⟩ := Option.map_eq_some_iff.mp hx
      have hi := (List.getElem?_eq_some_iff.mp hz).1
      have hzs := hsub z (List.mem_of_getElem? hz)
      have hA3 := hA.dr d03 hB
      have hB3 := d03.bag hB
      refine ⟨.ref l, rfl, .inl ⟨rfl, _, .inl (.inl el3)⟩, .str z.r.nm, rfl, ?_⟩
      refine ⟨.ref d, rfl, .str z.r.nm, rfl, d, .ref z.a, rfl, Or.inl ⟨_, .inr z.r.nm, .inl hA3.at_, rfl, (hA3.val hzs).symm⟩, ?_⟩
      refine rd_ixT (hA3.tup z hzs) (by decide) (v := .int z.r.ar) rfl ?_
      refine ⟨.ref b, rfl, ?_⟩
      refine ⟨.ref d, rfl, .str z.r.nm, rfl, d, .ref z.a, rfl, Or.inl ⟨_, .inr z.r.nm, .inl hA3.at_, rfl, (hA3.val hzs).symm⟩, ?_⟩
      refine rd_ixT (hA3.tup z hzs) (by decide) (v := .ref z.o) rfl ?_
      refine ⟨.inr (.inr (.inl ⟨rfl, .inl ⟨_, hA3.out z hzs⟩⟩)), z.o, _, rfl, rfl, hA3.out z hzs, fun p8 np8 => ?_⟩
      have hzo : z.o ≠ p8 := ne_of_none (hA3.out z hzs) np8
      refine ⟨p8, z.o, z.r.outs, rfl, upd_same, by rw [upd_ne hzo]; exact hA3.out z hzs, fun H9 l9 ps k9 nl9 hpm hpw hl9 hps => ?_⟩
      have m39 : Mv [] H3 H9 := (Mv.new np8).trans (.of_same k9)
      have d39 : Dr b H3 H9 := .of m39
      have hB9 := d39.bag hB3
      have nl9H : H3 l9 = none := (Mv.new (S := []) np8).free nl9
      have hl9b : l9 ≠ b := hB3.fneq nl9H
      have hpl : ps.length = z.r.outs.length := by
        have := hpm.length_eq
        rwa [List.length_map] at this
      have ho6 := (hok z hzs).o6
      refine ⟨b, l9, _, rfl, hB9, .inl ⟨hl9, hl9b⟩, by rw [List.length_map]; omega, fun pm ms H10 hms npm e10 d10 => ?_⟩
      obtain ⟨ps', hps', rfl⟩ := perm_lift (f := fun z : Addr × Str × Int => V.ref z.1) hms
      have hps10 : ∀ y ∈ ps', SqT K H10 y.1 [.str y.2.1, .int y.2.2] := fun y hy => d10.mv.sqT (.inl (.inl (hps y (hps'.mem_iff.mp hy))))
      have hq : (ps'.map (·.2)).Perm z.r.outs := (hps'.map _).trans hpm
      have hqn : ((ps'.map (·.2)).map (·.1)).Nodup := ((hq.map _).nodup_iff).mpr (hA3.ond z hzs)
      refine Or.inl ⟨pm, ps'.map (·.1), (ps'.map (·.2)).map rowK, rfl, .inl (.inl (by rw [e10, List.map_map]; rfl)), paired_rows2 ps' hps10, fun p11 np11 => ?_⟩
      rw [mergeK_nd _ _ (by rw [List.nil_append, row_keys]; exact nd_inr hqn), List.nil_append]
      have d311 : Dr b H3 (upd H10 p11 (.dK ((ps'.map (·.2)).map rowK))) := (d39.trans d10).trans (.new np11)
      have e11 : upd H10 p11 (.dK ((ps'.map (·.2)).map rowK)) p11 = some (.dK ((ps'.map (·.2)).map rowK)) := upd_same
      generalize upd H10 p11 (.dK ((ps'.map (·.2)).map rowK)) = H11 at d311 e11 ⊢
      refine ⟨(by decide : 2 ≤ sizeLine), fun p12 np12 => ?_⟩
      have m12 : Mv [] H11 (upd H11 p12 (.tup [.int z.r.ar, .ref p11])) := .new np12
      have e12' : SqT K (upd H11 p12 (.tup [.int z.r.ar, .ref p11])) p12 [.int z.r.ar, .ref p11] := .inl (.inl upd_same)
      generalize upd H11 p12 (.tup [.int z.r.ar, .ref p11]) = H12 at m12 e12' ⊢
      refine ⟨(by decide : 2 ≤ sizeLine), fun p13 np13 => ?_⟩
      have m13 : Mv [] H12 (upd H12 p13 (.tup [.str z.r.nm, .ref p12])) := .new np13
      have e13 : SqT K (upd H12 p13 (.tup [.str z.r.nm, .ref p12])) p13 [.str z.r.nm, .ref p12] := .inl (.inl upd_same)
      generalize upd H12 p13 (.tup [.str z.r.nm, .ref p12]) = H13 at m13 e13 ⊢
      have d313 : Dr b H3 H13 := d311.trans (.of (m12.trans m13))
      have el13 := d313.get hlb el3
      refine ⟨l, _, _, rfl, rfl, el13, ?_, ?_⟩
      · rw [List.length_map, List.length_map]
        have := congrArg List.length hn3
        rw [List.length_map, List.length_map, List.length_take] at this
        exact Nat.lt_of_le_of_lt (show tw.length ≤ 1000 by omega) (by decide)
      have hw : Mv [l] H13 (upd H13 l (.lst ((tw.map (·.1)).map V.ref ++ [.ref p13]))) := .set el13 (by simp)
      have hpm' := d313.get hpb e3
      refine ⟨tw ++ [(p13, ⟨⟨z.r.nm, z.r.ar, ps'.map (·.2)⟩, p12, p11⟩)], _, rfl, ?_, ?_, ?_, ?_, ?_, (d03.trans d313).wr nl⟩
      · rw [upd_ne hlp.symm]
        exact hpm'
      · rw [upd_same]
        simp
      · have hR13 := (hR3.dr d313 hB3).lst (H' := H) (o := .lst ((tw.map (·.1)).map V.ref ++ [.ref p13])) el13
        have e1113 := m13.same _ _ (m12.same _ _ e11)
        refine ⟨fun y hy => ?_, fun y hy => ?_, fun y hy => ?_, fun y hy => ?_⟩
        all_goals
          rcases List.mem_append.mp hy with hy | hy
        · exact hR13.row y hy
        · rw [List.mem_singleton] at hy
          subst hy
          exact hw.sqT e13
        · exact hR13.tup y hy
        · rw [List.mem_singleton] at hy
          subst hy
          exact hw.sqT (m13.sqT e12')
        · exact hR13.out y hy
        · rw [List.mem_singleton] at hy
          subst hy
          exact hw.keep _ _ (by simp; rintro rfl; rw [el13] at e1113; cases e1113) e1113
        · exact hR13.ond y hy
        · rw [List.mem_singleton] at hy
          subst hy
          exact hqn
      · rw [List.map_append, hn3, List.take_add_one, hz, List.map_append]
        congr 1
        show [ActR.norm _] = [z.r.norm]
        rw [norm_outs (r := ⟨z.r.nm, z.r.ar, ps'.map (·.2)⟩) (q := z.r) rfl rfl (hA3.ond z hzs) hq]
      · intro y hy
        rcases List.mem_append.mp hy with hy | hy
        · exact hk3 y hy
        · rw [List.mem_singleton] at hy
          subst hy
          have hz' := hok z hzs
          have hql := hq.length_eq
          exact ⟨hz'.nm, hz'.ar0, hz'.ar2, by show 1 ≤ (ps'.map (·.2)).length; rw [hql]; exact hz'.o1, by show (ps'.map (·.2)).length ≤ 6; rw [hql]; exact hz'.o6, fun e he => hz'.on e (hq.mem_iff.mp he)⟩
    · obtain ⟨tw, y, rfl, e3, el3, hR3, hn3, hk3, d03⟩ := h3
      rw [show ((ss.map (·.r.nm)).map V.str).length = ss.length by simp, List.take_length] at hn3
      have hB3 := d03.bag hB
      have htl : tw.length = ss.length := by
        have := congrArg List.length hn3
        rwa [List.length_map, List.length_map] at this
      refine ⟨.ref b, rfl, .ref l, rfl, b, l, _, rfl, hB3, .inl ⟨el3, hlb⟩, by rw [List.length_map, List.length_map]; omega, fun pm ms H4 hms npm e4 d4 => ?_⟩
      rw [List.map_map] at hms
      obtain ⟨tw', htw, rfl⟩ := perm_lift hms
      have hR4 := hR3.dr d4 hB3
      have nmn : (tw'.map (·.2.r.nm)).Nodup := by
        have h1 : (tw'.map (·.2.r.nm)).Perm (zs.map (·.r.nm)) := by
          refine (htw.map _).trans ?_
          have : tw.map (·.2.r.nm) = ss.map (·.r.nm) := by
            have := congrArg (List.map ActR.nm) hn3
            rw [List.map_map, List.map_map] at this
            exact this
          rw [this, ← hss]
          exact (srt_perm zs).map _
        exact h1.nodup_iff.mpr hA.nd
      refine Or.inl ⟨pm, tw'.map (·.1), (tw'.map (·.2)).map ActA.kv, rfl, .inl (.inl (by rw [e4, List.map_map])), paired_acts tw' (fun z hz => hR4.row z (htw.mem_iff.mp hz)), fun p5 np5 => ?_⟩
      have nmn2 : ((tw'.map (·.2)).map (·.r.nm)).Nodup := by rw [List.map_map]; exact nmn
      rw [mergeK_nd _ _ (by rw [List.nil_append, kv_keys]; exact nd_inr nmn2), List.nil_append]
      have m45 : Mv [] H4 (upd H4 p5 (.dK ((tw'.map (·.2)).map ActA.kv))) := .new np5
      have e5 : upd H4 p5 (.dK ((tw'.map (·.2)).map ActA.kv)) p5 = some (.dK ((tw'.map (·.2)).map ActA.kv)) := upd_same
      generalize upd H4 p5 (.dK ((tw'.map (·.2)).map ActA.kv)) = H5 at m45 e5 ⊢
      have hR5 := hR4.mv m45
      have d05 : Dr b H H5 := (d03.trans d4).trans (.of m45)
      refine fun x dx nx ndx hne => ⟨x, dx, p5, tw'.map (·.2), H5, rfl, rfl, nx, ndx, hne, ⟨e5, nmn2, fun z hz => ?_, fun z hz => ?_, fun z hz => ?_⟩, fun z hz => ?_, by rw [List.length_map, htw.length_eq]; omega, fun H6 m6 hW => ⟨rfl, q x H6 ?_ (d05.trans (.of m6))⟩⟩
      · obtain ⟨y, hy, rfl⟩ := List.mem_map.mp hz
        exact hR5.tup y (htw.mem_iff.mp hy)
      · obtain ⟨y, hy, rfl⟩ := List.mem_map.mp hz
        exact hR5.out y (htw.mem_iff.mp hy)
      · obtain ⟨y, hy, rfl⟩ := List.mem_map.mp hz
        exact hR5.ond y (htw.mem_iff.mp hy)
      · obtain ⟨y, hy, rfl⟩ := List.mem_map.mp hz
        exact hk3 y (htw.mem_iff.mp hy)
      · have : normW ((tw'.map (·.2)).map (·.r)) = normW (zs.map (·.r)) := by
          refine normW_perm (by rw [List.map_map]; exact hA.nd) ?_
          rw [List.map_map, List.map_map, List.map_map]
          refine (htw.map _).trans ?_
          show (tw.map (·.2.r.norm)).Perm _
          rw [hn3, ← hss]
          exact (srt_perm zs).map _
        rw [← this]
        exact hW.at_
end
end Fm
namespace Fm
open PySem PySem.Spec PyProof.Rows L2 SlX
local macro_rules | `(tactic| walk_at "nn") => `(tactic| dsimp only [tC, tNil, tCons, tCB, tCall, gName, tSeq, tAsg, tPar, tDrop, tRet])
local macro_rules | `(tactic| walk_at "nc") => `(tactic| dsimp only [tC, tNil, tCons, tCB, tCall])
def sp_goal : Sp := fun vs H Q _ => ∃ (b : Addr) (at_ places : Int), vs = [.ref b, .int at_, .int places] ∧ Bag H b ∧ 0 < places ∧ places ≤ 1000000 ∧ ∀ (g : Int) H', 0 ≤ g → g < places → Dr b H H' → Q (.int g) H'
section
variable {P : Program} {w : World} {K : PySem.W.Frag} {mg : Str → Option Value} {base : Heap}
theorem ok__law_goal (T : TX K mg) {k : Nat} : FnOk P w K mg base CX0 (k + 2) T.d__law_goal.f T.d__law_goal.fd P__law_goal sp_goal := by
  have G__law_take : FnOk P w K mg base CX0 1 T.d__law_take.f T.d__law_take.fd P__law_take sp_take := ok__law_take T
  refine T.d__law_goal.F.ok sc__law_goal (fun vs H Q E h => ?_) (fun cdv A outer s H vs Q E hr h => ?_)
  · obtain ⟨_, _, _, rfl, _⟩ := h
    rfl
  · obtain ⟨b, at_, places, rfl, hB, h0, h1, q⟩ := h
    refine ⟨_, (pss_one (ps_ret (pe_ix (r := rIx K) ix_seq (pe_lst (pa_cons (pe_op op_mod (pe_callTy call_int1 (by rfl) T.b_int bt_int (pa_cons (pe_op (r := rAddG K) op_addG (pv 1) pe_int) pa_nil)) (pv 2)) (pa_cons (pe_op op_mod (pe_callTy call_int1 (by rfl) T.b_int bt_int (pa_cons (pe_op (r := rAddG K) op_addG (pv 1) pe_int) pa_nil)) (pv 2)) (pa_cons (pe_call G__law_take (hr.mono (by omega)) rfl T.d__law_take.g T.d__law_take.F.kp T.d__law_take.b .nil pass0 (pa_cons (pv 0) (pa_cons (pv 2) pa_nil))) pa_nil)))) (pe_call G__law_take (hr.mono (by omega)) rfl T.d__law_take.g T.d__law_take.F.kp T.d__law_take.b .nil pass0 (pa_cons (pv 0) (pa_cons pe_int pa_nil))) (fun _ _ => rfl)))), ?_⟩
    have hg0 := Int.emod_nonneg (at_ + 1) (show places ≠ 0 by omega)
    have hg1 := Int.emod_lt_of_pos (at_ + 1) h0
    refine ⟨.int at_, rfl, Or.inl ⟨at_, 1, rfl, rfl, Or.inl ⟨_, rfl, .int places, rfl, _, _, rfl, rfl, h0, ?_⟩⟩⟩
    refine ⟨.int at_, rfl, Or.inl ⟨at_, 1, rfl, rfl, Or.inl ⟨_, rfl, .int places, rfl, _, _, rfl, rfl, h0, ?_⟩⟩⟩
    refine ⟨.ref b, rfl, .int places, rfl, b, places, rfl, hB, h0, h1, fun g H1 g0 g1 d1 => ?_⟩
    refine ⟨(by decide : 3 ≤ sizeLine), fun p np => ?_⟩
    have hB1 := d1.bag hB
    have hpb := hB1.fneq np
    refine ⟨.ref b, rfl, b, 3, rfl, Dr.bag (.new np) hB1, by decide, by decide, fun i H2 i0 i3 d2 => ?_⟩
    have d02 : Dr b H H2 := (d1.trans (.new np)).trans d2
    have e2 := d2.get hpb (upd_same (H := H1) (a := p) (o := .lst [.int ((at_ + 1) % places), .int ((at_ + 1) % places), .int g]))
    have hi : i.toNat < 3 := by omega
    have key : ∃ v, [V.int ((at_ + 1) % places), .int ((at_ + 1) % places), .int g][i.toNat]? = some (.int v) ∧ 0 ≤ v ∧ v < places := by
      match i.toNat, hi with
      | 0, _ => exact ⟨_, rfl, hg0, hg1⟩
      | 1, _ => exact ⟨_, rfl, hg0, hg1⟩
      | 2, _ => exact ⟨_, rfl, g0, g1⟩
    obtain ⟨v, hv, v0, v1⟩ := key
    exact rd_ixL (.inl (.inl e2)) i0 hv (q v H2 v0 v1 d02)
end
end Fm
namespace Fm
open PySem PySem.Spec PyProof.Rows L2 SlX
local macro_rules | `(tactic| walk_at "nn") => `(tactic| dsimp only [tC, tNil, tCons, tCB, tCall, gName, tSeq, tAsg, tPar, tDrop, tRet])
local macro_rules | `(tactic| walk_at "nc") => `(tactic| dsimp only [tC, tNil, tCons, tCB, tCall])
theorem over_dep {many : Int} {t : Tm} (h : t.ok fun i => 0 ≤ i ∧ i < many) (hd : t.dep ≤ 4) : TmOver many t := by
  have h1 := Tm.small 4 t h hd
  have h2 := cnt_th t
  refine ⟨h, ?_, by omega⟩
  have : (3 : Nat) ^ 4 = 81 := by decide
  omega
theorem perm_ints {ms : List V} {xs : List Int} (h : ms.Perm (xs.map V.int)) : ∃ ws : List Int, ms = ws.map V.int ∧ ws.Perm xs := by
  obtain ⟨ws, h1, h2⟩ := perm_lift h
  exact ⟨ws, h2, h1⟩
theorem rgV_ints (n : Int) : rgV 0 n = ((List.range n.toNat).map fun i : Nat => (i : Int)).map V.int := by
  unfold rgV
  rw [List.map_map, Int.sub_zero]
  refine List.map_congr_left fun i _ => ?_
  simp
theorem rg_nd (n : Int) : ((List.range n.toNat).map fun i : Nat => (i : Int)).Nodup := by
  refine List.Pairwise.map _ (fun a b h => ?_) List.nodup_range
  exact fun e => h (Int.ofNat.inj e)
theorem rg_in {n : Int} : ∀ j ∈ (List.range n.toNat).map fun i : Nat => (i : Int), 0 ≤ j ∧ j < n := fun j hj => by
  obtain ⟨i, hi, rfl⟩ := List.mem_map.mp hj
  have := List.mem_range.mp hi
  omega
/-- what the makers of statements are handed -/
structure Hand (K : PySem.W.Frag) (H : Hp) (b d nm : Addr) (zs : List ActA) (xs : List Str) (many : Int) : Prop where
  bag : Bag H b
  acts : ActsAt K H d zs
  ok : DrawnActs many (zs.map (·.r))
  nms : Nms H b nm xs
  m0 : 0 ≤ many
  m1 : many ≤ 100
theorem Hand.dr {K : PySem.W.Frag} {H H' : Hp} {b d nm : Addr} {zs : List ActA} {xs : List Str} {many : Int} (h : Hand K H b d nm zs xs many) (m : Dr b H H') : Hand K H' b d nm zs xs many := ⟨m.bag h.bag, h.acts.dr m h.bag, h.ok, h.nms.dr m, h.m0, h.m1⟩
def sp_lask (K : PySem.W.Frag) : Sp := fun vs H Q _ => ∃ (b d nm : Addr) (zs : List ActA) (xs : List Str) (many at_ places : Int), vs = [.ref b, .ref d, .ref nm, .int many, .int at_, .int places] ∧ Hand K H b d nm zs xs many ∧ 1 ≤ zs.length ∧ 0 < places ∧ places ≤ 1000000 ∧
  ∀ v (r : ActR) ts ways H', r ∈ zs.map (·.r) → AskOk r many places ts ways → (∀ t ∈ ts, t.dep ≤ 1) → ways.map (·.1) = (srt leS (·.1) r.outs).map (·.1) → Im K H' v (Sta.ask r.nm ts ways).d → Dr b H H' → Q v H'
section
variable {P : Program} {w : World} {K : PySem.W.Frag} {mg : Str → Option Value} {base : Heap}
theorem ok__law_ask (T : TX K mg) {k : Nat} : FnOk P w K mg base CX0 (k + 5) T.d__law_ask.f T.d__law_ask.fd P__law_ask (sp_lask K) := by
  have G__law_take : FnOk P w K mg base CX0 1 T.d__law_take.f T.d__law_take.fd P__law_take sp_take := ok__law_take T
  have G__law_goal : FnOk P w K mg base CX0 2 T.d__law_goal.f T.d__law_goal.fd P__law_goal sp_goal := ok__law_goal T
  have G__law_mixed : FnOk P w K mg base CX0 2 T.d__law_mixed.f T.d__law_mixed.fd P__law_mixed (sp_mixG K) := ok__law_mixed T
  have G__law_term : FnOk P w K mg base CX0 4 T.d__law_term.f T.d__law_term.fd P__law_term (sp_term K 2) := ok__law_term T 2
  refine T.d__law_ask.F.ok sc__law_ask (fun vs H Q E h => ?_) (fun cdv A outer s H vs Q E hr h => ?_)
  · obtain ⟨_, _, _, _, _, _, _, _, rfl, _⟩ := h
    rfl
  · obtain ⟨b, d, nm, zs, xs, many, at_, places, rfl, hH, hz1, h0, h1, q⟩ := h
    have hu1 := hu1_of hr
    refine ⟨_, (pss_cons (ps_set (i := 6) sc__law_ask.nd rfl (Or.inl rfl) (pe_ix (r := rIx K) ix_seq (pe_callB (r := rSortA K) (cr_sortA rfl) (by rfl) T.b_sorted bt_sorted (pa_cons (pv 1) pa_nil)) (pe_call G__law_take (hr.mono (by omega)) rfl T.d__law_take.g T.d__law_take.F.kp T.d__law_take.b .nil pass0 (pa_cons (pv 0) (pa_cons (pe_callB (r := rLenG K) call_lenG (by rfl) T.b_len bt_len (pa_cons (pv 1) pa_nil)) pa_nil))) (fun _ _ => rfl))) (pss_cons (ps_par (i := 7) (j := 8) rfl sc__law_ask.nd rfl rfl (by decide) rfl rfl (pa_cons (pe_callTy (r := rTupOf K) call_tupG (by rfl) T.b_tuple bt_tuple (pa_cons (pe_lc (own := [("_law_k", 11)]) (g := gName 11) (by rfl) sc__law_ask.nd (pi_range1 (by rfl) T.b_range (pa_cons (pe_ix (r := rIx K) ix_seq (pe_dget hu1 (pv 1) (pv 6) (fun _ _ => rfl)) pe_int (fun _ _ => rfl)) pa_nil)) (blkOk_by (own := [("_law_k", 11)]) (N := N__law_ask) (sc := defScope s__law_ask) (by decide +kernel)) (fun _ _ _ _ _ => pg_name (i := 11) sc__law_ask.nd rfl (Or.inl rfl)) (fun _ _ _ _ _ => pts_nil) (fun _ _ _ _ _ => (pe_call G__law_term (hr.mono (by omega)) rfl T.d__law_term.g T.d__law_term.F.kp T.d__law_term.b .nil pass0 (pa_cons (pv 0) (pa_cons (pv 2) (pa_cons (pv 3) (pa_cons pe_int pa_nil))))))) pa_nil)) (pa_cons (pe_lst pa_nil) pa_nil)) rfl) (pss_cons (ps_for PassesOwn.never rfl (pi_seq (pe_callB (r := rSortA K) (cr_sortA rfl) (by rfl) T.b_sorted bt_sorted (pa_cons (pe_ix (r := rIx K) ix_seq (pe_dget hu1 (pv 1) (pv 6) (fun _ _ => rfl)) pe_int (fun _ _ => rfl)) pa_nil))) (pg_name (i := 9) sc__law_ask.nd rfl (Or.inl rfl)) (pss_cons (ps_set (i := 10) sc__law_ask.nd rfl (Or.inl rfl) (pe_callTy (r := rTupOf K) call_tupG (by rfl) T.b_tuple bt_tuple (pa_cons (pe_slice (r := rSlG K) sl_G (pe_call G__law_mixed (hr.mono (by omega)) rfl T.d__law_mixed.g T.d__law_mixed.F.kp T.d__law_mixed.b .nil pass0 (pa_cons (pv 0) (pa_cons (pe_listRg rfl (by rfl) T.b_list (prg_1 (by rfl) T.b_range (pv 3))) pa_nil))) po_none (po_some (pe_dget hu1 (pe_ix (r := rIx K) ix_seq (pe_dget hu1 (pv 1) (pv 6) (fun _ _ => rfl)) pe_int (fun _ _ => rfl)) (pv 9) (fun _ _ => rfl)))) pa_nil))) (pss_one (ps_expr (pe_bm PySem.F.plainAttrs_list PySem.F.slot_list_append PySem.F.type_list_append mt_append (pv 8) (pa_cons (pe_tup (pa_cons (pv 9) (pa_cons (pv 10) (pa_cons (pe_call G__law_goal (hr.mono (by omega)) rfl T.d__law_goal.g T.d__law_goal.F.kp T.d__law_goal.b .nil pass0 (pa_cons (pv 0) (pa_cons (pv 4) (pa_cons (pv 5) pa_nil)))) pa_nil)))) pa_nil)))))) (pss_one (ps_ret (pe_tup (pa_cons pe_str (pa_cons (pv 6) (pa_cons (pv 7) (pa_cons (pe_callTy (r := rTupOf K) call_tupG (by rfl) T.b_tuple bt_tuple (pa_cons (pv 8) pa_nil)) pa_nil)))))))))), ?_⟩
    have hzl := hH.ok.few
    rw [List.length_map] at hzl
    have hlz : (zs.map (·.r.nm)).length < 64 := by rw [List.length_map]; omega
    refine ⟨.ref d, rfl, Or.inl ⟨d, _, zs.map (·.r.nm), rfl, .inl hH.acts.at_, kv_keys zs, hlz, fun ys p hp hs np => ?_⟩⟩
    have hys := srt_keys totS hH.acts.nd hp (sortedS_pw ys hs)
    generalize hss : srt leS (fun z : ActA => z.r.nm) zs = ss at hys
    subst hys
    have hsub : ∀ z ∈ ss, z ∈ zs := fun z hz => by rw [← srt_mem (le := leS) (k := fun z : ActA => z.r.nm), hss]; exact hz
    have hsl : ss.length = zs.length := by rw [← hss, srt_len]
    have hpb : p ≠ b := hH.bag.fneq np
    have e1 : upd H p (.lst ((ss.map (·.r.nm)).map V.str)) p = some (.lst ((ss.map (·.r.nm)).map V.str)) := upd_same
    have d1 : Dr b H (upd H p (.lst ((ss.map (·.r.nm)).map V.str))) := .new np
    generalize upd H p (.lst ((ss.map (·.r.nm)).map V.str)) = H1 at e1 d1 ⊢
    have hH1 := hH.dr d1
    refine ⟨.ref b, rfl, .ref d, rfl, ?_⟩
    walk_at "nc"
    refine Or.inr (Or.inr ⟨d, _, rfl, hH1.acts.at_, b, _, rfl, hH1.bag, by rw [List.length_map]; omega, by rw [List.length_map]; omega, fun i H2 i0 i1 d2 => ?_⟩)
    rw [List.length_map] at i1
    have hi : i.toNat < ss.length := by omega
    have hH2 := hH1.dr d2
    refine rd_ixL (.inl (.inl (d2.get hpb e1))) i0 (v := .str ss[i.toNat].r.nm) (by rw [List.getElem?_map, List.getElem?_map, List.getElem?_eq_getElem hi]; rfl) ?_
    have hzs : ss[i.toNat] ∈ zs := hsub _ (List.getElem_mem hi)
    generalize ss[i.toNat] = z at hzs ⊢
    have hzr : z.r ∈ zs.map (·.r) := List.mem_map.mpr ⟨z, hzs, rfl⟩
    have hzo := hH.ok.ok _ hzr
    have hzm := hH.ok.le _ hzr
    have har0 := hzo.ar0
    have har2 := hzo.ar2
    -- the terms
    refine ⟨.ref d, rfl, .str z.r.nm, rfl, d, .ref z.a, rfl, Or.inl ⟨_, .inr z.r.nm, .inl hH2.acts.at_, rfl, (hH2.acts.val hzs).symm⟩, ?_⟩
    refine rd_ixT (hH2.acts.tup z hzs) (by decide) (v := .int z.r.ar) rfl ?_
    refine ⟨z.r.ar, rfl, by omega, by omega, fun D nD => ?_⟩
    refine lc_range (lo := 0) (n := z.r.ar.toNat) (fun i H3 => ∃ (vs : List V) (ts : List Tm), H3 D = some (.lst vs) ∧ Ims K H3 vs (Tm.ds ts) ∧ ts.length = i ∧ (∀ t ∈ ts, TmOver many t ∧ t.dep ≤ 1) ∧ Dr b H2 H3)
      ⟨[], [], upd_same, Ims.nil, rfl, by simp, Dr.new nD⟩ (fun i H3 hi h3 => ?_) (fun H3 h3 => ?_)
    · obtain ⟨vs, ts, e3, i3, l3, o3, d3⟩ := h3
      have hH3 := hH2.dr d3
      have hN := hH3.nms
      refine ⟨rfl, .ref b, rfl, .ref nm, rfl, .int many, rfl, b, nm, xs, many, 1, rfl, hH3.bag, hN.at_, hN.ne, hN.some_, hN.few, hN.ok, hH.m0, by have := hH.m1; omega, by decide, fun v t H4 ho hd1 hd2 him d4 => ?_⟩
      have e4 := d4.get (hH2.bag.fneq nD) e3
      refine ⟨_, e4, ?_, vs ++ [v], ts ++ [t], upd_same, ?_, by simp [l3], ?_, (d3.trans d4).wr nD⟩
      · rw [i3.length, Tm.ds_map, List.length_map, l3]
        exact small1000 (by omega)
      · rw [show Tm.ds (ts ++ [t]) = Tm.ds ts ++ [t.d] by simp [Tm.ds_map]]
        exact ((i3.mv d4.mv).append (Ims.cons him Ims.nil)).mv (Mv.set (S := [D]) e4 (by simp))
      · intro y hy
        rcases List.mem_append.mp hy with hy | hy
        · exact o3 y hy
        · rw [List.mem_singleton.mp hy]
          exact ⟨over_dep ho (by have : max (1 : Int).toNat 1 = 1 := rfl; omega), by have : max (1 : Int).toNat 1 = 1 := rfl; omega⟩
    obtain ⟨vs, ts, e3, i3, l3, o3, d3⟩ := h3
    walk_at "nc"
    refine rd_tupOf (.inl (.inl e3)) fun p4 H4 m4 e4 => ?_
    have hts : Im K H4 (.ref p4) (.tuple (Tm.ds ts)) := .tup e4 (i3.mv m4)
    have d04 := (d1.trans d2).trans (d3.trans (.of m4))
    have hH4 := hH.dr d04
    refine ⟨Nat.zero_le _, fun l nl => ?_⟩
    refine ⟨_, _, rfl, ?_⟩
    have nlH := d04.free hH.bag nl
    have hlb : l ≠ b := hH4.bag.fneq nl
    have e5 : upd H4 l (.lst []) l = some (.lst []) := upd_same
    have d05 : Dr b H (upd H4 l (.lst [])) := d04.trans (.new nl)
    have hts5 := hts.mv (Mv.new (S := []) (o := .lst []) nl)
    generalize upd H4 l (.lst []) = H5 at e5 d05 hts5 ⊢
    have hH5 := hH.dr d05
    -- the ways
    refine ⟨.ref d, rfl, .str z.r.nm, rfl, d, .ref z.a, rfl, Or.inl ⟨_, .inr z.r.nm, .inl hH5.acts.at_, rfl, (hH5.acts.val hzs).symm⟩, ?_⟩
    refine rd_ixT (hH5.acts.tup z hzs) (by decide) (v := .ref z.o) rfl ?_
    have hol : (z.r.outs.map (·.1)).length < 64 := by rw [List.length_map]; have := hzo.o6; omega
    refine Or.inl ⟨z.o, _, z.r.outs.map (·.1), rfl, .inl (hH5.acts.out z hzs), row_keys _, hol, fun ys2 p6 hp2 hs2 np6 => ⟨p6, rfl, ?_⟩⟩
    have hond := hH.acts.ond z hzs
    have hys2 := srt_keys totS hond hp2 (sortedS_pw ys2 hs2)
    generalize hos : srt leS (fun e : Str × Int => e.1) z.r.outs = os at hys2
    subst hys2
    have hosub : ∀ e ∈ os, e ∈ z.r.outs := fun e he => by rw [← srt_mem (le := leS) (k := fun e : Str × Int => e.1), hos]; exact he
    have hosl : os.length = z.r.outs.length := by rw [← hos, srt_len]
    have hp6b : p6 ≠ b := hH5.bag.fneq np6
    have hlp6 : l ≠ p6 := ne_of_none e5 np6
    have e6 : upd H5 p6 (.lst ((os.map (·.1)).map V.str)) p6 = some (.lst ((os.map (·.1)).map V.str)) := upd_same
    have e56 : upd H5 p6 (.lst ((os.map (·.1)).map V.str)) l = some (.lst []) := same_new np6 _ _ e5
    have d06 : Dr b H (upd H5 p6 (.lst ((os.map (·.1)).map V.str))) := d05.trans (.new np6)
    have hts6 := hts5.mv (Mv.new (S := []) (o := .lst ((os.map (·.1)).map V.str)) np6)
    generalize upd H5 p6 (.lst ((os.map (·.1)).map V.str)) = H6 at e6 e56 d06 hts6 ⊢
    refine Or.inl ⟨⟨_, .inl (.inl e6)⟩, ?_⟩
    refine for_list (K := K) (a := p6) (xs := (os.map (·.1)).map V.str) (fun j σ H7 => ∃ (vs : List V) (ways : List (Str × List Int × Int)) (u9 u10 : Option V), σ = [some (.ref b), some (.ref d), some (.ref nm), some (.int many), some (.int at_), some (.int places), some (.str z.r.nm), some (.ref p4), some (.ref l), u9, u10, none] ∧ H7 p6 = some (.lst ((os.map (·.1)).map V.str)) ∧ H7 l = some (.lst vs) ∧
        Ims K H7 vs (ways.map wayD) ∧ ways.map (·.1) = (os.take j).map (·.1) ∧ (∀ wy ∈ ways, WayOk z.r many places wy) ∧ Im K H7 (.ref p4) (.tuple (Tm.ds ts)) ∧ Dr b H H7)
      ⟨[], [], none, none, rfl, e6, e56, Ims.nil, by simp, by simp, hts6, d06⟩ (fun j σ H7 _ h7 => ?_) (fun j x σ H7 hx h7 => ?_) (fun σ H7 h7 => ?_)
    · obtain ⟨vs, ways, u9, u10, rfl, e7, _⟩ := h7
      exact .inl (.inl e7)
    · obtain ⟨ws, ways, u9, u10, rfl, e7, el7, i7, n7, k7, t7, d07⟩ := h7
      rw [List.getElem?_map, List.getElem?_map, Option.map_map] at hx
      obtain ⟨e, he, rfl⟩ := Option.map_eq_some_iff.mp hx
      have hj := (List.getElem?_eq_some_iff.mp he).1
      have heo := hosub e (List.mem_of_getElem? he)
      have hH7 := hH.dr d07
      have hm1 := hH.m1
      have hm0 := hH.m0
      refine ⟨.ref b, rfl, .int many, rfl, many, rfl, .of_le (by decide) (by omega) (by decide) hm0, fun q8 nq8 => ?_⟩
      have hq8b : q8 ≠ b := hH7.bag.fneq nq8
      have d8 : Dr b H7 (upd H7 q8 (.lst (rgV 0 many))) := .new nq8
      have e8 : upd H7 q8 (.lst (rgV 0 many)) q8 = some (.lst (rgV 0 many)) := upd_same
      generalize upd H7 q8 (.lst (rgV 0 many)) = H8 at d8 e8 ⊢
      refine ⟨b, q8, _, rfl, d8.bag hH7.bag, .inl ⟨e8, hq8b⟩, by rw [rgV_length]; omega, fun pm ms H9 hms npm e9 d9 => ?_⟩
      rw [rgV_ints] at hms
      obtain ⟨ns, rfl, hns⟩ := perm_ints hms
      have d79 := d8.trans d9
      have hH9 := hH7.dr d79
      refine ⟨.ref d, rfl, .str z.r.nm, rfl, d, .ref z.a, rfl, Or.inl ⟨_, .inr z.r.nm, .inl hH9.acts.at_, rfl, (hH9.acts.val hzs).symm⟩, ?_⟩
      refine rd_ixT (hH9.acts.tup z hzs) (by decide) (v := .ref z.o) rfl ?_
      refine ⟨.str e.1, rfl, z.o, .int e.2, rfl, Or.inl ⟨_, .inr e.1, .inl (hH9.acts.out z hzs), rfl, (row_val hond heo).symm⟩, e.2, rfl, ?_⟩
      have he0 := (hzo.on e heo).2.1
      have hem := hzm e heo
      refine rd_slL e9 he0 fun p10 np10 => ?_
      walk_at "nc"
      have e10 : upd H9 p10 (.lst ((ns.map V.int).take e.2.toNat)) p10 = some (.lst ((ns.take e.2.toNat).map V.int)) := by rw [upd_same, List.map_take]
      have d710 : Dr b H7 (upd H9 p10 (.lst ((ns.map V.int).take e.2.toNat))) := d79.trans (.new np10)
      generalize upd H9 p10 (.lst ((ns.map V.int).take e.2.toNat)) = H10 at e10 d710 ⊢
      refine rd_tupOf (.inl (.inl e10)) fun p11 H11 m11 e11 => ?_
      have d711 := d710.trans (Dr.of m11)
      have hH11 := hH7.dr d711
      have el11 := d711.get hlb el7
      refine ⟨.ref l, rfl, .inl ⟨rfl, _, .inl (.inl el11)⟩, .str e.1, rfl, .ref p11, rfl, ?_⟩
      refine ⟨.ref b, rfl, .int at_, rfl, .int places, rfl, b, at_, places, rfl, hH11.bag, h0, h1, fun g H12 g0 g1 d12 => ?_⟩
      refine ⟨(by decide : 3 ≤ sizeLine), fun p13 np13 => ?_⟩
      have d713 : Dr b H7 (upd H12 p13 (.tup [.str e.1, .ref p11, .int g])) := (d711.trans d12).trans (.new np13)
      have e13 : SqT K (upd H12 p13 (.tup [.str e.1, .ref p11, .int g])) p13 [.str e.1, .ref p11, .int g] := .inl (.inl upd_same)
      have e1113 := (d12.trans (Dr.new (o := .tup [.str e.1, .ref p11, .int g]) np13)).mv.sqT e11
      generalize upd H12 p13 (.tup [.str e.1, .ref p11, .int g]) = H13 at d713 e13 e1113 ⊢
      have el13 := d713.get hlb el7
      have hwl : ways.length = (os.take j).length := by
        have := congrArg List.length n7
        rwa [List.length_map, List.length_map] at this
      rw [List.length_take] at hwl
      have ho6 := hzo.o6
      refine ⟨l, _, _, rfl, rfl, el13, ?_, ?_⟩
      · rw [i7.length, List.length_map]
        exact small1000 (by omega)
      have hw : Mv [l] H13 (upd H13 l (.lst (ws ++ [.ref p13]))) := .set el13 (by simp)
      have hnl : ns.length = many.toNat := by
        have := hns.length_eq
        simpa using this
      refine ⟨ws ++ [.ref p13], ways ++ [(e.1, ns.take e.2.toNat, g)], _, _, rfl, ?_, upd_same, ?_, ?_, ?_, (t7.mv d713.mv).mv hw, (d07.trans d713).wr nlH⟩
      · rw [upd_ne hlp6.symm]
        exact d713.get hp6b e7
      · rw [List.map_append]
        refine ((i7.mv d713.mv).append (.cons ?_ .nil)).mv hw
        exact .tup e13 (.cons (.str _) (.cons (.tup e1113 (.ofInts _)) (.cons (.int _) .nil)))
      · rw [List.map_append, n7, List.take_add_one, he, List.map_append]
        rfl
      · intro wy hwy
        rcases List.mem_append.mp hwy with hwy | hwy
        · exact k7 wy hwy
        · rw [List.mem_singleton] at hwy
          subst hwy
          refine ⟨e.2, heo, ?_, ?_, fun j hj => ?_, g0, g1⟩
          · show ((ns.take e.2.toNat).length : Int) = e.2
            rw [List.length_take, hnl]
            omega
          · exact (hns.nodup_iff.mpr (rg_nd many)).sublist (List.take_sublist _ _)
          · exact rg_in j (hns.mem_iff.mp (List.mem_of_mem_take hj))
    · obtain ⟨ws, ways, u9, u10, rfl, e7, el7, i7, n7, k7, t7, d07⟩ := h7
      rw [show ((os.map (·.1)).map V.str).length = os.length by simp, List.take_length] at n7
      refine ⟨.str z.r.nm, rfl, .ref p4, rfl, .ref l, rfl, ?_⟩
      walk_at "nc"
      refine rd_tupOf (.inl (.inl el7)) fun p8 H8 m8 e8 => ?_
      refine ⟨(by decide : 4 ≤ sizeLine), fun p9 np9 => ?_⟩
      have m9 : Mv [] H8 (upd H8 p9 (.tup [.str "ask", .str z.r.nm, .ref p4, .ref p8])) := .new np9
      refine q (.ref p9) z.r ts ways _ hzr ⟨by omega, fun t ht => (o3 t ht).1, ?_, k7⟩ (fun t ht => (o3 t ht).2) (by rw [n7, hos]) ?_ (d07.trans (.of (m8.trans m9)))
      · rw [n7, ← hos]
        exact (srt_perm _).map _
      · exact .tup (.inl (.inl upd_same)) (.cons (.str _) (.cons (.str _) (.cons (t7.mv (m8.trans m9)) (.cons (.tup (m9.sqT e8) (i7.mv (m8.trans m9))) .nil))))
end
end Fm
/-! tuples whose object is known to have no dict of its own: dict(t) of pairs -/
namespace Fm
open PySem PySem.Spec PyProof.Rows L2
/-- a tuple without a dict of its own -/
def PlT (H : Hp) (a : Addr) (xs : List V) : Prop := ∃ o : Obj, H a = some (.frz o (.tup xs)) ∧ o.dict = none
theorem PlT.sq {K : PySem.W.Frag} {H : Hp} {a : Addr} {xs : List V} (h : PlT H a xs) : SqT K H a xs := let ⟨o, e, _⟩ := h; .inl (.inr ⟨o, e⟩)
theorem PlT.mv {S : List Addr} {H H' : Hp} {a : Addr} {xs : List V} (h : PlT H a xs) (m : Mv S H H') (hS : ∀ q ∈ S, ∀ o ys, H q ≠ some (.frz o (.tup ys))) : PlT H' a xs :=
  let ⟨o, e, d⟩ := h
  ⟨o, m.keep a _ (fun z => hS a z o xs e) e, d⟩
section
variable {X : Cx}
def rTupF (K : PySem.W.Frag) : List V → Hp → VK → Prop := fun xs H Q => ∃ p ys, xs = [.ref p] ∧ SqL K H p ys ∧ ∀ l o, H l = none → o.dict = none → Q (.ref l) (upd H l (.frz o (.tup ys)))
theorem call_tupF : CallR X (.type "tuple") (rTupF X.K) := by
  intro pins s σ H xs us Q I r h
  obtain ⟨p, ys, rfl, hq, q⟩ := h
  obtain ⟨u, rfl, rx⟩ := vals1 r
  cases rx
  obtain ⟨its, r', pl, hz⟩ := I.list hq
  have hlen := r'.length
  refine call_tuple_list pl.isList (fun h' kp => ?_) (by simp only [List.size_toArray] <;> omega)
  have I1 : Inv X pins σ H { s with heap := h' } := I.kept (t' := s.toks) kp
  have I2 : Inv X pins σ (upd H h'.objs.size (.frz { cls := .type "tuple", data := .seq its.toArray } (.tup ys))) { s with heap := h'.push { cls := .type "tuple", data := .seq its.toArray } } :=
    I1.laid (t' := s.toks) (fun b o e => Heap.get?_push_of_some _ e) (Nat.le_refl _) (show ObjOk X.prog X.w _ _ _ (.frz _ (.tup ys)) from ⟨Heap.get?_push_size _ rfl, hz, its, r', IsTup.new _ _⟩)
  exact ⟨.ref h'.objs.size, _, I2, rfl, q _ _ (I1.hok.fresh (Nat.le_refl _)) rfl⟩
def tTupF (t : TA) : TE := fun σ H Q => t σ H fun xs H1 => xs.length ≤ sizeLine ∧ ∀ p o, H1 p = none → o.dict = none → Q (.ref p) (upd H1 p (.frz o (.tup xs)))
theorem pe_tupF {es : List Expr} {t : TA} {x1 : Nat} {pos : Pos} (h : PA X es t) : PE X (.Tuple es x1 pos) (tTupF t) := by
  refine ⟨fun pins s σ H Q I hq => ?_⟩
  refine wpAny_Tuple_spliced (thn (h.run pos pins s σ H _ I hq) fun us s1 ⟨xs, H1, I1, r, z, q⟩ => ⟨by rw [← r.length]; exact z, ?_⟩)
  have hf : H1 s1.heap.objs.size = none := I1.hok.fresh (Nat.le_refl _)
  refine ⟨.ref s1.heap.objs.size, upd H1 s1.heap.objs.size (.frz { cls := .type "tuple", data := .seq us.toArray } (.tup xs)), I1.laid (t' := s1.toks) (fun b u e => Heap.get?_push_of_some _ e) (Nat.le_refl _) ?_, rfl, q _ _ hf rfl⟩
  exact ⟨Heap.get?_push_size _ rfl, z, us, r, ⟨_, Heap.get?_push_size _ rfl, rfl, _, rfl⟩⟩
theorem pairs_ofV {pins : List (Addr × Obj)} {σ : L2.St} {H : Hp} {s : Shared} (I : Inv X pins σ H s) : ∀ {ps : List Addr} {kvs : List (L2.Key × V)}, Paired (fun p kv => SqT X.K H p [kV kv.1, kv.2]) ps kvs →
    ∃ (prs : List (L2.Key × Value)) (uvs : List (Value × Value)), KV kvs prs ∧ prs.length = ps.length ∧ uvs.length = ps.length ∧ ∀ (j : Nat) (u v : Value), uvs[j]? = some (u, v) → ∃ (b : Addr) (k : L2.Key), ps[j]? = some b ∧ prs[j]? = some (k, v) ∧ IsTup s.heap b #[u, v] ∧ keyIs k u = true
  | _, _, .nil => ⟨[], [], .nil, rfl, rfl, fun j u v e => by simp at e⟩
  | _, _, .cons (a := p) (b := kv) h t => by
    obtain ⟨prs, uvs, r, hl, hl2, hp⟩ := pairs_ofV I t
    obtain ⟨its, rv, ht, _⟩ := I.tuple h
    obtain ⟨u, y, ei, ru, ry⟩ := vals2 rv
    subst ei
    refine ⟨(kv.1, y) :: prs, (u, y) :: uvs, .cons ⟨rfl, ry⟩ r, by rw [List.length_cons, List.length_cons, hl], by rw [List.length_cons, List.length_cons, hl2], fun j u' v' e => ?_⟩
    cases j with
    | zero =>
      have e' : (u, y) = (u', v') := Option.some.inj e
      cases e'
      exact ⟨p, kv.1, rfl, rfl, ht, kV_is (P := X.prog) (w := X.w) ru⟩
    | succ j =>
      obtain ⟨b, k, e1, e2, e3, e4⟩ := hp j u' v' (by simpa using e)
      exact ⟨b, k, by simpa using e1, by simpa using e2, e3, e4⟩
/-- dict(t) of a tuple of pairs -/
def rDictT (K : PySem.W.Frag) : List V → Hp → VK → Prop := fun xs H Q => ∃ (a : Addr) (ps : List Addr) (kvs : List (L2.Key × V)), xs = [.ref a] ∧ PlT H a (ps.map V.ref) ∧ Paired (fun p kv => SqT K H p [kV kv.1, kv.2]) ps kvs ∧ ∀ p, H p = none → Q (.ref p) (upd H p (.dK (mergeK [] kvs)))
theorem call_dictT (hcalm : X.calm = true) : CallR X (.type "dict") (rDictT X.K) := by
  intro pins s σ H xs us Q I r q
  obtain ⟨a, ps, kvs, rfl, ⟨o, ha, hod⟩, hp, q⟩ := q
  obtain ⟨u, rfl, rx⟩ := vals1 r
  cases rx
  obtain ⟨ho, hz, its, rv, o', ho', hc, n, hdat⟩ := (show ObjOk X.prog X.w H s.heap a (.frz o (.tup (ps.map V.ref))) from I.hok a _ ha)
  rw [ho] at ho'
  cases ho'
  have ei := refs_at rv
  subst ei
  rw [List.length_map] at hz
  obtain ⟨prs, uvs, rel, hl, hl2, hpr⟩ := pairs_ofV I hp
  have hPS : PlainSeq "tuple" s.heap a (ps.map Value.ref).toArray := ⟨o, n, ho, hc, hod, hdat⟩
  have hPI : PairItems s.heap (ps.map Value.ref).toArray (fun j => ps.getD j 0) uvs := by
    refine ⟨by simp [hl2], fun j k v e => ?_⟩
    obtain ⟨b, k', e1, e2, e3, e4⟩ := hpr j k v e
    have eb : ps.getD j 0 = b := by rw [List.getD_eq_getElem?_getD, e1]; rfl
    refine ⟨?_, ?_⟩
    · show _ = some (Value.ref (ps.getD j 0))
      rw [eb]
      simp [e1]
    · show PairAt s.heap (ps.getD j 0) k v
      rw [eb]
      exact .inl e3
  have hPH : PairsHave (mixKind X.prog X.w) uvs.length (PairRel uvs) prs := by
    refine ⟨by omega, fun i key v hR => ?_⟩
    obtain ⟨b, k, e1, e2, e3, e4⟩ := hpr i key v hR
    exact ⟨k, e2, e4⟩
  refine PySem.call_dict_pairs (knd := mixKind X.prog X.w) (kvs := prs) (PairArg.tuple a (ps.map Value.ref).toArray (fun j => ps.getD j 0) uvs) (I.ok.hd hcalm) ⟨hPS, hPI⟩ hPH (by omega) fun h' tk hd' k => ?_
  have hm : (s.heap.objs.size == sysModules) = false := beq_eq_false_iff_ne.mpr (Nat.ne_of_gt I.big)
  have hlen : (mergeK [] kvs).length ≤ sizeLine := by
    refine Nat.le_trans (length_mergeK kvs []) ?_
    rw [List.length_nil, Nat.zero_add, rel.length, hl]
    exact hz
  exact ⟨.ref s.heap.objs.size, upd H s.heap.objs.size (.dK (mergeK [] kvs)), I.laid (t' := tk) (fun b o e => k b o List.not_mem_nil e) (Nat.le_refl _) (show ObjOk X.prog X.w _ _ _ (.dK (mergeK [] kvs)) from ⟨hlen, hm, merged [] prs, KV.merge rel .nil, hd'⟩), rfl, q _ (I.hok.fresh (Nat.le_refl _))⟩
end
end Fm
namespace Fm
open PySem PySem.Spec PyProof.Rows L2 SlX
local macro_rules | `(tactic| walk_at "nn") => `(tactic| dsimp only [tC, tNil, tCons, tCB, tCall, gName, tSeq, tAsg, tPar, tDrop, tRet])
local macro_rules | `(tactic| walk_at "nc") => `(tactic| dsimp only [tC, tNil, tCons, tCB, tCall])
/-- a statement as it is drawn: in order -/
def Sta.rw (rs : List ActR) (many places : Int) (st : Sta) : Prop := st.ok rs many places ∧ st.ord = st
/-- how deep its terms are -/
def Sta.dp (n : Nat) : Sta → Prop
  | .set chs _ => ∀ c ∈ chs, c.2.dep ≤ n
  | .ask _ ts _ => ∀ t ∈ ts, t.dep ≤ n
  | .fin _ ts => ∀ t ∈ ts, t.dep ≤ n
def Sta.raw (rs : List ActR) (many places : Int) (st : Sta) : Prop := st.rw rs many places ∧ st.dp 1
/-- the changes of a set lie in a tuple without a dict of its own -/
def Sta.pl (K : PySem.W.Frag) (H : Hp) (v : V) : Sta → Prop
  | .set chs g => ∃ a e zs, v = .ref a ∧ SqT K H a [.str "set", .ref e, .int g] ∧ PlT H e zs ∧ Ims K H zs (chs.map chD)
  | _ => True
theorem pl_mv {K : PySem.W.Frag} {S : List Addr} {H H' : Hp} {v : V} (m : Mv S H H') (hS : ∀ q ∈ S, ∀ o ys, H q ≠ some (.frz o (.tup ys))) : ∀ {st : Sta}, st.pl K H v → st.pl K H' v
  | .set _ _, ⟨a, e, zs, h1, h2, h3, h4⟩ => ⟨a, e, zs, h1, m.sqT h2, h3.mv m hS, h4.mv m⟩
  | .ask _ _ _, _ => trivial
  | .fin _ _, _ => trivial
def Rws (K : PySem.W.Frag) (H : Hp) (vs : List V) (sts : List Sta) : Prop := Ims K H vs (sts.map Sta.d) ∧ ∀ (i : Nat) (v : V) (st : Sta), vs[i]? = some v → sts[i]? = some st → st.pl K H v
theorem Rws.mv {K : PySem.W.Frag} {S : List Addr} {H H' : Hp} {vs : List V} {sts : List Sta} (h : Rws K H vs sts) (m : Mv S H H') (hS : ∀ q ∈ S, ∀ o ys, H q ≠ some (.frz o (.tup ys))) : Rws K H' vs sts := ⟨h.1.mv m, fun i v st h1 h2 => pl_mv m hS (h.2 i v st h1 h2)⟩
theorem Rws.mv0 {K : PySem.W.Frag} {H H' : Hp} {vs : List V} {sts : List Sta} (h : Rws K H vs sts) (m : Mv [] H H') : Rws K H' vs sts := h.mv m (fun q hq => nomatch hq)
theorem no_frz {H : Hp} {p : Addr} {u : HO} (h : H p = some u) (hu : ∀ o ys, u ≠ .frz o (.tup ys)) : ∀ q ∈ [p], ∀ o ys, H q ≠ some (.frz o (.tup ys)) := fun q hq o ys e => by
  rw [List.mem_singleton.mp hq, h] at e
  exact hu o ys (Option.some.inj e)
theorem Rws.dr {K : PySem.W.Frag} {H H' : Hp} {b : Addr} {vs : List V} {sts : List Sta} (h : Rws K H vs sts) (m : Dr b H H') (hB : Bag H b) : Rws K H' vs sts := by
  refine h.mv m.mv ?_
  obtain ⟨c, s, mm, k, ns, h1, _⟩ := hB
  exact no_frz h1 (fun _ _ z => by cases z)
theorem Rws.snoc {K : PySem.W.Frag} {H : Hp} {vs : List V} {sts : List Sta} {v : V} {st : Sta} (h : Rws K H vs sts) (hv : Im K H v st.d) (hp : st.pl K H v) : Rws K H (vs ++ [v]) (sts ++ [st]) := by
  have hl := h.1.length
  rw [List.length_map] at hl
  refine ⟨by rw [List.map_append]; exact h.1.append (.cons hv .nil), fun i v' st' h1 h2 => ?_⟩
  by_cases hi : i < vs.length
  · rw [List.getElem?_append_left hi] at h1
    rw [List.getElem?_append_left (by omega)] at h2
    exact h.2 i v' st' h1 h2
  · have : i = vs.length := by
      have := (List.getElem?_eq_some_iff.mp h1).1
      rw [List.length_append, List.length_singleton] at this
      omega
    subst this
    rw [List.getElem?_append_right (Nat.le_refl _), Nat.sub_self] at h1
    rw [List.getElem?_append_right (by omega), show vs.length - sts.length = 0 by omega] at h2
    cases h1
    cases h2
    exact hp
def sp_line (K : PySem.W.Frag) : Sp := fun vs H Q _ => ∃ (b d nm : Addr) (zs : List ActA) (xs : List Str) (many at_ places : Int), vs = [.ref b, .ref d, .ref nm, .int many, .int at_, .int places] ∧ Hand K H b d nm zs xs many ∧ 0 < places ∧ places ≤ 1000000 ∧
  ∀ v (st : Sta) H', st.raw (zs.map (·.r)) many places → Im K H' v st.d → st.pl K H' v → Dr b H H' → Q v H'
theorem ask_ord {act : Str} {ts : List Tm} {ways : List (Str × List Int × Int)} {outs : List (Str × Int)} (n : (outs.map (·.1)).Nodup) (h : ways.map (·.1) = (srt leS (·.1) outs).map (·.1)) : (Sta.ask act ts ways).ord = .ask act ts ways := by
  show Sta.ask act ts (srt leS (·.1) ways) = _
  congr 1
  refine (srt_one totS ?_ (.refl _) ?_).symm
  · rw [h]
    exact srt_nd n
  · have : (ways.map (·.1)).Pairwise fun a b => leS a b = true := by
      rw [h]
      exact List.pairwise_map.mpr (srt_pw totS outs)
    exact List.pairwise_map.mp this
section
variable {P : Program} {w : World} {K : PySem.W.Frag} {mg : Str → Option Value} {base : Heap}
theorem ok__law_line (T : TX K mg) {k : Nat} : FnOk P w K mg base CX0 (k + 6) T.d__law_line.f T.d__law_line.fd P__law_line (sp_line K) := by
  have G__law_take : FnOk P w K mg base CX0 1 T.d__law_take.f T.d__law_take.fd P__law_take sp_take := ok__law_take T
  have G__law_goal : FnOk P w K mg base CX0 2 T.d__law_goal.f T.d__law_goal.fd P__law_goal sp_goal := ok__law_goal T
  have G__law_mixed : FnOk P w K mg base CX0 2 T.d__law_mixed.f T.d__law_mixed.fd P__law_mixed (sp_mixG K) := ok__law_mixed T
  have G__law_term : FnOk P w K mg base CX0 4 T.d__law_term.f T.d__law_term.fd P__law_term (sp_term K 2) := ok__law_term T 2
  have G__law_ask : FnOk P w K mg base CX0 5 T.d__law_ask.f T.d__law_ask.fd P__law_ask (sp_lask K) := ok__law_ask T
  refine T.d__law_line.F.ok sc__law_line (fun vs H Q E h => ?_) (fun cdv A outer s H vs Q E hr h => ?_)
  · obtain ⟨_, _, _, _, _, _, _, _, rfl, _⟩ := h
    rfl
  · obtain ⟨b, d, nm, zs, xs, many, at_, places, rfl, hH, h0, h1, q⟩ := h
    have hu64 := hr.units
    refine ⟨_, (pss_cons (ps_set (i := 6) sc__law_line.nd rfl (Or.inl rfl) (pe_call G__law_take (hr.mono (by omega)) rfl T.d__law_take.g T.d__law_take.F.kp T.d__law_take.b .nil pass0 (pa_cons (pv 0) (pa_cons pe_int pa_nil)))) (Evl.pss_cut (ps_if (PW.pt (pw_and (pt_cmpR op_lt (pv 6) pe_int (nomark _)) (pw_and1 (pt_cmpR (r := rNeE) (op_neE (Nat.lt_of_le_of_lt (Nat.le_add_right _ 64) hu64)) (pv 1) pe_dnewK (nomark _))))) (pss_one (ps_ret (pe_call G__law_ask (hr.mono (by omega)) rfl T.d__law_ask.g T.d__law_ask.F.kp T.d__law_ask.b .nil pass0 (pa_cons (pv 0) (pa_cons (pv 1) (pa_cons (pv 2) (pa_cons (pv 3) (pa_cons (pv 4) (pa_cons (pv 5) pa_nil))))))))) pss_nil) (pss_cons (ps_if (pt_cmpR (r := rEqG K) (op_eqG hu64) (pv 6) pe_int (nomark _)) (pss_cons (ps_set (i := 7) sc__law_line.nd rfl (Or.inl rfl) (pe_callTy (r := rTupOf K) call_tupG (by rfl) T.b_tuple bt_tuple (pa_cons (pe_lc (own := [("_law_k", 11)]) (g := gName 11) (by rfl) sc__law_line.nd (pi_range1 (by rfl) T.b_range (pa_cons (pe_call G__law_take (hr.mono (by omega)) rfl T.d__law_take.g T.d__law_take.F.kp T.d__law_take.b .nil pass0 (pa_cons (pv 0) (pa_cons pe_int pa_nil))) pa_nil)) (blkOk_by (own := [("_law_k", 11)]) (N := N__law_line) (sc := defScope s__law_line) (by decide +kernel)) (fun _ _ _ _ _ => pg_name (i := 11) sc__law_line.nd rfl (Or.inl rfl)) (fun _ _ _ _ _ => pts_nil) (fun _ _ _ _ _ => (pe_call G__law_term (hr.mono (by omega)) rfl T.d__law_term.g T.d__law_term.F.kp T.d__law_term.b .nil pass0 (pa_cons (pv 0) (pa_cons (pv 2) (pa_cons (pv 3) (pa_cons pe_int pa_nil))))))) pa_nil))) (pss_one (ps_ret (pe_tup (pa_cons pe_str (pa_cons (pe_ix (r := rIx K) ix_seq (pv 2) (pe_call G__law_take (hr.mono (by omega)) rfl T.d__law_take.g T.d__law_take.F.kp T.d__law_take.b .nil pass0 (pa_cons (pv 0) (pa_cons (pe_callB (r := rLenG K) call_lenG (by rfl) T.b_len bt_len (pa_cons (pv 2) pa_nil)) pa_nil))) (fun _ _ => rfl)) (pa_cons (pv 7) pa_nil))))))) pss_nil) (pss_cons (ps_set (i := 8) sc__law_line.nd rfl (Or.inl rfl) (pe_callB (r := rSortA K) (cr_sortA rfl) (by rfl) T.b_sorted bt_sorted (pa_cons (pe_slice (r := rSlG K) sl_G (pe_call G__law_mixed (hr.mono (by omega)) rfl T.d__law_mixed.g T.d__law_mixed.F.kp T.d__law_mixed.b .nil pass0 (pa_cons (pv 0) (pa_cons (pe_listRg rfl (by rfl) T.b_list (prg_1 (by rfl) T.b_range (pv 3))) pa_nil))) po_none (po_some (pe_call G__law_take (hr.mono (by omega)) rfl T.d__law_take.g T.d__law_take.F.kp T.d__law_take.b .nil pass0 (pa_cons (pv 0) (pa_cons pe_int pa_nil))))) pa_nil))) (pss_cons (ps_set (i := 9) sc__law_line.nd rfl (Or.inl rfl) (pe_callTy (r := rTupF K) call_tupF (by rfl) T.b_tuple bt_tuple (pa_cons (pe_lc (own := [("_law_one", 10)]) (g := gName 10) (by rfl) sc__law_line.nd (pi_seq (pv 8)) (blkOk_by (own := [("_law_one", 10)]) (N := N__law_line) (sc := defScope s__law_line) (by decide +kernel)) (fun _ _ _ _ _ => pg_name (i := 10) sc__law_line.nd rfl (Or.inl rfl)) (fun _ _ _ _ _ => pts_nil) (fun _ _ _ _ _ => (pe_tup (pa_cons (pv 10) (pa_cons (pe_call G__law_term (hr.mono (by omega)) rfl T.d__law_term.g T.d__law_term.F.kp T.d__law_term.b .nil pass0 (pa_cons (pv 0) (pa_cons (pv 2) (pa_cons (pv 3) (pa_cons pe_int pa_nil))))) pa_nil))))) pa_nil))) (pss_one (ps_ret (pe_tup (pa_cons pe_str (pa_cons (pv 9) (pa_cons (pe_call G__law_goal (hr.mono (by omega)) rfl T.d__law_goal.g T.d__law_goal.F.kp T.d__law_goal.b .nil pass0 (pa_cons (pv 0) (pa_cons (pv 4) (pa_cons (pv 5) pa_nil)))) pa_nil))))))))))), ?_⟩
    have hm0 := hH.m0
    have hm1 := hH.m1
    refine ⟨.ref b, rfl, b, 9, rfl, hH.bag, by decide, by decide, fun way H1 w0 w9 d1 => ?_⟩
    have hH1 := hH.dr d1
    refine ⟨fun σ H2 => σ = [some (.ref b), some (.ref d), some (.ref nm), some (.int many), some (.int at_), some (.int places), some (.int way), none, none, none, none, none] ∧ Dr b H H2, ?_, ?_⟩
    · refine ⟨.int way, rfl, way, 4, rfl, rfl, _, rfl, ite2 (fun e => ?_) (fun e => ⟨rfl, d1⟩)⟩
      refine ⟨.ref d, rfl, fun p np => ?_⟩
      have d2 : Dr b H (upd H1 p (.dK [])) := d1.trans (.new np)
      refine ⟨d, p, _, rfl, rfl, same_new np _ _ hH1.acts.at_, upd_same, _, rfl, ?_⟩
      generalize upd H1 p (.dK []) = H2 at d2 ⊢
      refine ite2 (fun e2 => ?_) (fun e2 => ⟨rfl, d2⟩)
      have hz1 : 1 ≤ zs.length := by
        cases zs with
        | nil => simp at e2
        | cons z zs => simp
      refine ⟨.ref b, rfl, .ref d, rfl, .ref nm, rfl, .int many, rfl, .int at_, rfl, .int places, rfl, b, d, nm, zs, xs, many, at_, places, rfl, hH.dr d2, hz1, h0, h1, fun v r ts ways H3 hr' hk hdp ho hv d3 => ?_⟩
      refine q v (.ask r.nm ts ways) H3 ⟨⟨⟨r, hr', rfl, hk⟩, ?_⟩, hdp⟩ hv trivial (d2.trans d3)
      obtain ⟨z, hz, rfl⟩ := List.mem_map.mp hr'
      exact ask_ord (hH.acts.ond z hz) ho
    · rintro σ H2 ⟨rfl, d2⟩
      have hH2 := hH.dr d2
      refine ⟨.int way, rfl, Or.inl ⟨rfl, _, rfl, ?_⟩⟩
      rw [vint_eq]
      refine ite2 (fun e => ?_) (fun e => ?_)
      · -- an end
        refine ⟨.ref b, rfl, b, 3, rfl, hH2.bag, by decide, by decide, fun n H3 n0 n3 d3 => ?_⟩
        have hH3 := hH2.dr d3
        refine ⟨n, rfl, by omega, by omega, fun D nD => ?_⟩
        refine lc_range (lo := 0) (n := n.toNat) (fun i H4 => ∃ (vs : List V) (ts : List Tm), H4 D = some (.lst vs) ∧ Ims K H4 vs (Tm.ds ts) ∧ ts.length = i ∧ (∀ t ∈ ts, TmOver many t ∧ t.dep ≤ 1) ∧ Dr b H3 H4)
          ⟨[], [], upd_same, Ims.nil, rfl, by simp, Dr.new nD⟩ (fun i H4 hi h4 => ?_) (fun H4 h4 => ?_)
        · obtain ⟨vs, ts, e4, i4, l4, o4, d4⟩ := h4
          have hH4 := hH3.dr d4
          have hN := hH4.nms
          refine ⟨rfl, .ref b, rfl, .ref nm, rfl, .int many, rfl, b, nm, xs, many, 1, rfl, hH4.bag, hN.at_, hN.ne, hN.some_, hN.few, hN.ok, hm0, by omega, by decide, fun v t H5 ho hd1 hd2 him d5 => ?_⟩
          have e5 := d5.get (hH3.bag.fneq nD) e4
          refine ⟨_, e5, ?_, vs ++ [v], ts ++ [t], upd_same, ?_, by simp [l4], ?_, (d4.trans d5).wr nD⟩
          · rw [i4.length, Tm.ds_map, List.length_map, l4]
            exact small1000 (by omega)
          · rw [show Tm.ds (ts ++ [t]) = Tm.ds ts ++ [t.d] by simp [Tm.ds_map]]
            exact ((i4.mv d5.mv).append (Ims.cons him Ims.nil)).mv (Mv.set (S := [D]) e5 (by simp))
          · intro y hy
            rcases List.mem_append.mp hy with hy | hy
            · exact o4 y hy
            · rw [List.mem_singleton.mp hy]
              exact ⟨over_dep ho (by have : max (1 : Int).toNat 1 = 1 := rfl; omega), by have : max (1 : Int).toNat 1 = 1 := rfl; omega⟩
        obtain ⟨vs, ts, e4, i4, l4, o4, d4⟩ := h4
        walk_at "nc"
        refine rd_tupOf (.inl (.inl e4)) fun p5 H5 m5 e5 => ?_
        have d25 := d3.trans (d4.trans (Dr.of m5))
        have hH5 := hH2.dr d25
        have hN := hH5.nms
        refine ⟨.ref nm, rfl, .ref b, rfl, .ref nm, rfl, ?_⟩
        walk_at "nc"
        refine rd_len (.inl (.inl (.inl hN.at_))) ?_
        have hxl : 0 < xs.length := List.length_pos_iff.mpr hN.some_
        have hx1 := hN.few
        refine ⟨b, _, rfl, hH5.bag, by rw [List.length_map]; omega, by rw [List.length_map]; omega, fun i H6 i0 i1 d6 => ?_⟩
        rw [List.length_map] at i1
        have hi : i.toNat < xs.length := by omega
        refine rd_ixL (.inl (.inl (d6.get hN.ne hN.at_))) i0 (v := .str xs[i.toNat]) (by rw [List.getElem?_map, List.getElem?_eq_getElem hi]; rfl) ?_
        refine ⟨.ref p5, rfl, (by decide : 3 ≤ sizeLine), fun p7 np7 => ?_⟩
        have m7 : Mv [] H6 (upd H6 p7 (.tup [.str "end", .str xs[i.toNat], .ref p5])) := .new np7
        refine q (.ref p7) (.fin xs[i.toNat] ts) _ ⟨⟨⟨hN.ok _ (List.getElem_mem hi), by omega, fun t ht => (o4 t ht).1⟩, rfl⟩, fun t ht => (o4 t ht).2⟩ ?_ trivial (d2.trans (d25.trans (d6.trans (.of m7))))
        exact .tup (.inl (.inl upd_same)) (.cons (.str _) (.cons (.str _) (.cons (.tup (m7.sqT (d6.mv.sqT e5)) (((i4.mv m5).mv d6.mv).mv m7)) .nil)))
      · -- a set
        refine ⟨.ref b, rfl, .int many, rfl, many, rfl, .of_le (by decide) (by omega) (by decide) hm0, fun q3 nq3 => ?_⟩
        have hq3b : q3 ≠ b := hH2.bag.fneq nq3
        have d3 : Dr b H2 (upd H2 q3 (.lst (rgV 0 many))) := .new nq3
        have e3 : upd H2 q3 (.lst (rgV 0 many)) q3 = some (.lst (rgV 0 many)) := upd_same
        generalize upd H2 q3 (.lst (rgV 0 many)) = H3 at d3 e3 ⊢
        have hH3 := hH2.dr d3
        refine ⟨b, q3, _, rfl, hH3.bag, .inl ⟨e3, hq3b⟩, by rw [rgV_length]; omega, fun pm ms H4 hms npm e4 d4 => ?_⟩
        rw [rgV_ints] at hms
        obtain ⟨ns, rfl, hns⟩ := perm_ints hms
        have hH4 := hH3.dr d4
        have hpmb : pm ≠ b := hH3.bag.fneq npm
        refine ⟨.ref b, rfl, b, 3, rfl, hH4.bag, by decide, by decide, fun n H5 n0 n3 d5 => ?_⟩
        refine ⟨n, rfl, rd_slL (d5.get hpmb e4) n0 fun p6 np6 => ?_⟩
        walk_at "nc"
        have e6 : upd H5 p6 (.lst ((ns.map V.int).take n.toNat)) p6 = some (.lst ((ns.take n.toNat).map V.int)) := by rw [upd_same, List.map_take]
        have d26 : Dr b H2 (upd H5 p6 (.lst ((ns.map V.int).take n.toNat))) := (d3.trans (d4.trans d5)).trans (.new np6)
        generalize upd H5 p6 (.lst ((ns.map V.int).take n.toNat)) = H6 at e6 d26 ⊢
        have hkn : (ns.take n.toNat).Nodup := (hns.nodup_iff.mpr (rg_nd many)).sublist (List.take_sublist _ _)
        have hki : ∀ j ∈ ns.take n.toNat, 0 ≤ j ∧ j < many := fun j hj => rg_in j (hns.mem_iff.mp (List.mem_of_mem_take hj))
        have hkl : (ns.take n.toNat).length ≤ 2 := by rw [List.length_take]; omega
        generalize ns.take n.toNat = ks at e6 hkn hki hkl
        refine Or.inr (Or.inr ⟨p6, ks, rfl, .inl (.inl e6), by omega, fun js p7 hjp hjs np7 => ?_⟩)
        have hjn : js.Nodup := hjp.nodup_iff.mpr hkn
        have hji : ∀ j ∈ js, 0 ≤ j ∧ j < many := fun j hj => hki j (hjp.mem_iff.mp hj)
        have hjl : js.length ≤ 2 := by rw [hjp.length_eq]; exact hkl
        have hH6 := hH2.dr d26
        have hp7b : p7 ≠ b := hH6.bag.fneq np7
        have e7 : upd H6 p7 (.lst (js.map V.int)) p7 = some (.lst (js.map V.int)) := upd_same
        have d27 : Dr b H2 (upd H6 p7 (.lst (js.map V.int))) := d26.trans (.new np7)
        generalize upd H6 p7 (.lst (js.map V.int)) = H7 at e7 d27 ⊢
        have hH7 := hH2.dr d27
        refine ⟨.ref p7, rfl, p7, rfl, Or.inl ⟨⟨_, .inl (.inl e7)⟩, fun D nD => ?_⟩⟩
        have hDb : D ≠ b := hH7.bag.fneq nD
        have hDp : p7 ≠ D := ne_of_none e7 nD
        refine lc_list (K := K) (a := p7) (xs := js.map V.int) (fun i H8 => ∃ (vs : List V) (chs : List (Int × Tm)), H8 p7 = some (.lst (js.map V.int)) ∧ H8 D = some (.lst vs) ∧ Ims K H8 vs (chs.map chD) ∧ chs.map (·.1) = js.take i ∧ (∀ c ∈ chs, TmOver many c.2 ∧ c.2.dep ≤ 1) ∧ Dr b H7 H8)
          ⟨[], [], same_new nD _ _ e7, upd_same, Ims.nil, by simp, by simp, Dr.new nD⟩ (fun i H8 _ h8 => ?_) (fun i x H8 hx h8 => ?_) (fun H8 h8 => ?_)
        · obtain ⟨vs, chs, e8, _⟩ := h8
          exact .inl (.inl e8)
        · obtain ⟨vs, chs, e8, eD8, i8, n8, o8, d8⟩ := h8
          rw [List.getElem?_map] at hx
          obtain ⟨j, hj, rfl⟩ := Option.map_eq_some_iff.mp hx
          have hjl' := (List.getElem?_eq_some_iff.mp hj).1
          have hH8 := hH7.dr d8
          have hN := hH8.nms
          refine ⟨rfl, .int j, rfl, .ref b, rfl, .ref nm, rfl, .int many, rfl, b, nm, xs, many, 1, rfl, hH8.bag, hN.at_, hN.ne, hN.some_, hN.few, hN.ok, hm0, by omega, by decide, fun v t H9 ho hd1 hd2 him d9 => ?_⟩
          refine ⟨(by decide : 2 ≤ sizeLine), fun p10 np10 => ?_⟩
          have m10 : Mv [] H9 (upd H9 p10 (.tup [.int j, v])) := .new np10
          have e10 : SqT K (upd H9 p10 (.tup [.int j, v])) p10 [.int j, v] := .inl (.inl upd_same)
          generalize upd H9 p10 (.tup [.int j, v]) = H10 at m10 e10 ⊢
          have d810 : Dr b H8 H10 := d9.trans (.of m10)
          have eD10 := d810.get hDb eD8
          have hcl : chs.length = (js.take i).length := by
            have := congrArg List.length n8
            rwa [List.length_map] at this
          rw [List.length_take] at hcl
          refine ⟨_, eD10, ?_, vs ++ [.ref p10], chs ++ [(j, t)], ?_, upd_same, ?_, ?_, ?_, (d8.trans d810).wr nD⟩
          · rw [i8.length, List.length_map]
            exact small1000 (by omega)
          · rw [upd_ne hDp]
            exact d810.get hp7b e8
          · rw [List.map_append]
            refine ((i8.mv d810.mv).append (.cons ?_ .nil)).mv (Mv.set (S := [D]) eD10 (by simp))
            exact .tup e10 (.cons (.int _) (.cons (him.mv m10) .nil))
          · rw [List.map_append, n8, List.take_add_one, hj]
            rfl
          · intro c hc
            rcases List.mem_append.mp hc with hc | hc
            · exact o8 c hc
            · rw [List.mem_singleton.mp hc]
              exact ⟨over_dep (t := t) ho (by have : max (1 : Int).toNat 1 = 1 := rfl; omega), by have : max (1 : Int).toNat 1 = 1 := rfl; show t.dep ≤ 1; omega⟩
        obtain ⟨vs, chs, e8, eD8, i8, n8, o8, d8⟩ := h8
        rw [List.length_map, List.take_length] at n8
        walk_at "nc"
        refine ⟨D, vs, rfl, .inl (.inl eD8), fun p9 o9 np9 ho9 => ?_⟩
        have m9 : Mv [] H8 (upd H8 p9 (.frz o9 (.tup vs))) := .new np9
        have e9 : PlT (upd H8 p9 (.frz o9 (.tup vs))) p9 vs := ⟨o9, upd_same, ho9⟩
        generalize upd H8 p9 (.frz o9 (.tup vs)) = H9 at m9 e9 ⊢
        have d29 := d27.trans (d8.trans (Dr.of m9))
        have hH9 := hH2.dr d29
        refine ⟨.ref p9, rfl, .ref b, rfl, .int at_, rfl, .int places, rfl, b, at_, places, rfl, hH9.bag, h0, h1, fun g H10 g0 g1 d10 => ?_⟩
        refine ⟨(by decide : 3 ≤ sizeLine), fun p11 np11 => ?_⟩
        have m11 : Mv [] H10 (upd H10 p11 (.tup [.str "set", .ref p9, .int g])) := .new np11
        have hbl : ∀ q ∈ [b], ∀ o ys, H9 q ≠ some (.frz o (.tup ys)) := by
          obtain ⟨_, _, _, _, _, hb1, _⟩ := hH9.bag
          exact no_frz hb1 (fun _ _ z => by cases z)
        have e11 := (e9.mv d10.mv hbl).mv m11 (fun q hq => nomatch hq)
        have hcl : chs.length = js.length := by
          have := congrArg List.length n8
          rwa [List.length_map] at this
        refine q (.ref p11) (.set chs g) _ ⟨⟨⟨⟨by rw [n8]; exact hjn, by omega, fun c hc => ?_⟩, g0, g1⟩, ?_⟩, fun c hc => (o8 c hc).2⟩ ?_ ⟨p11, p9, vs, rfl, .inl (.inl upd_same), e11, ((i8.mv m9).mv d10.mv).mv m11⟩ (d2.trans (d29.trans (d10.trans (.of m11))))
        · have : c.1 ∈ js := by rw [← n8]; exact List.mem_map.mpr ⟨c, hc, rfl⟩
          exact ⟨(hji _ this).1, (hji _ this).2, (o8 c hc).1⟩
        · show Sta.set (srt leZ (·.1) chs) g = _
          congr 1
          refine (srt_one totZ (by rw [n8]; exact hjn) (.refl _) ?_).symm
          have : (chs.map (·.1)).Pairwise fun a b => leZ a b = true := by
            rw [n8]
            exact hjs.imp fun {a b} h => decide_eq_true h
          exact List.pairwise_map.mp this
        · exact .tup (.inl (.inl upd_same)) (.cons (.str _) (.cons (.tup e11.sq (((i8.mv m9).mv d10.mv).mv m11)) (.cons (.int _) .nil)))
end
end Fm
namespace Fm
open PySem PySem.Spec PyProof.Rows L2 SlX
local macro_rules | `(tactic| walk_at "nn") => `(tactic| dsimp only [tC, tNil, tCons, tCB, tCall, gName, tSeq, tAsg, tPar, tDrop, tRet])
local macro_rules | `(tactic| walk_at "nc") => `(tactic| dsimp only [tC, tNil, tCons, tCB, tCall])
def codeKv (d l : Addr) (many given : Int) : List (L2.Key × V) := [(.inr "acts", .ref d), (.inr "many", .int many), (.inr "given", .int given), (.inr "rows", .ref l)]
theorem codeKv_nd (d l : Addr) (many given : Int) : ((codeKv d l many given).map (·.1)).Nodup := (show ([.inr "acts", .inr "many", .inr "given", .inr "rows"] : List L2.Key).Nodup by decide +kernel)
theorem code_merge (d l : Addr) (many given : Int) : mergeK [] (codeKv d l many given) = codeKv d l many given := (mergeK_nd (codeKv d l many given) [] (codeKv_nd d l many given)).trans (List.nil_append _)
theorem code_rows (d l : Addr) (many given : Int) : valV (codeKv d l many given) (.inr "rows") = some (.ref l) := valV_mem (codeKv_nd d l many given) (by simp [codeKv])
theorem code_many (d l : Addr) (many given : Int) : valV (codeKv d l many given) (.inr "many") = some (.int many) := valV_mem (codeKv_nd d l many given) (by simp [codeKv])
theorem code_given (d l : Addr) (many given : Int) : valV (codeKv d l many given) (.inr "given") = some (.int given) := valV_mem (codeKv_nd d l many given) (by simp [codeKv])
/-- a code as this law has it: a dict -/
def LCode (K : PySem.W.Frag) (H : Hp) (c d : Addr) (many given : Int) (sts : List Sta) : Prop := ∃ l vs, H c = some (.dK (codeKv d l many given)) ∧ H l = some (.lst vs) ∧ Rws K H vs sts
/-- the same, its rows at l -/
def LCodeL (K : PySem.W.Frag) (H : Hp) (c d l : Addr) (many given : Int) (sts : List Sta) : Prop := ∃ vs, H c = some (.dK (codeKv d l many given)) ∧ H l = some (.lst vs) ∧ Rws K H vs sts
theorem LCodeL.at_ {K : PySem.W.Frag} {H : Hp} {c d l : Addr} {many given : Int} {sts : List Sta} : LCodeL K H c d l many given sts → LCode K H c d many given sts := fun ⟨vs, h⟩ => ⟨l, vs, h⟩
theorem LCodeL.dr {K : PySem.W.Frag} {H H' : Hp} {b c d l : Addr} {many given : Int} {sts : List Sta} (h : LCodeL K H c d l many given sts) (m : Dr b H H') (hB : Bag H b) : LCodeL K H' c d l many given sts := by
  obtain ⟨vs, h1, h2, h3⟩ := h
  exact ⟨vs, m.getK hB h1 (fun _ z => by cases z), m.get (hB.ne_sta h2 h3.1) h2, h3.dr m hB⟩
theorem LCodeL.put {K : PySem.W.Frag} {H : Hp} {c d l p : Addr} {o : HO} {zs : List V} {many given : Int} {sts : List Sta} (h : LCodeL K H c d l many given sts) (hp : H p = some (.lst zs)) (hl : l ≠ p) : LCodeL K (upd H p o) c d l many given sts := by
  obtain ⟨vs, h1, h2, h3⟩ := h
  exact ⟨vs, by rw [upd_ne (by rintro rfl; rw [hp] at h1; cases h1)]; exact h1, by rw [upd_ne hl]; exact h2, h3.mv (Mv.set (S := [p]) hp (by simp)) (no_frz hp (fun _ _ z => by cases z))⟩
theorem LCode.mv {K : PySem.W.Frag} {H H' : Hp} {c d : Addr} {many given : Int} {sts : List Sta} (h : LCode K H c d many given sts) (m : Mv [] H H') : LCode K H' c d many given sts := by
  obtain ⟨l, vs, h1, h2, h3⟩ := h
  exact ⟨l, vs, m.same _ _ h1, m.same _ _ h2, h3.mv0 m⟩
theorem LCode.dr {K : PySem.W.Frag} {H H' : Hp} {b c d : Addr} {many given : Int} {sts : List Sta} (h : LCode K H c d many given sts) (m : Dr b H H') (hB : Bag H b) : LCode K H' c d many given sts := by
  obtain ⟨l, vs, h1, h2, h3⟩ := h
  exact ⟨l, vs, m.getK hB h1 (fun _ z => by cases z), m.get (hB.ne_sta h2 h3.1) h2, h3.dr m hB⟩
def sp_code (K : PySem.W.Frag) : Sp := fun vs H Q _ => ∃ (b d : Addr) (zs : List ActA) (places many : Int), vs = [.ref b, .ref d, .int places, .int many] ∧ Bag H b ∧ ActsAt K H d zs ∧ DrawnActs many (zs.map (·.r)) ∧ 0 < places ∧ places ≤ 1000 ∧ 0 ≤ many ∧ many ≤ 100 ∧
  ∀ c given (sts : List Sta) H', LCode K H' c d many given sts → H c = none → sts.length = places.toNat → (∀ st ∈ sts, st.raw (zs.map (·.r)) many places) → 0 ≤ given → given ≤ many → Dr b H H' → Q (.ref c) H'
section
variable {P : Program} {w : World} {K : PySem.W.Frag} {mg : Str → Option Value} {base : Heap}
theorem ok__law_code (T : TX K mg) {k : Nat} : FnOk P w K mg base CX0 (k + 7) T.d__law_code.f T.d__law_code.fd P__law_code (sp_code K) := by
  have G__law_take : FnOk P w K mg base CX0 1 T.d__law_take.f T.d__law_take.fd P__law_take sp_take := ok__law_take T
  have G__law_names : FnOk P w K mg base CX0 2 T.d__law_names.f T.d__law_names.fd P__law_names sp_names := ok__law_names T
  have G__law_line : FnOk P w K mg base CX0 6 T.d__law_line.f T.d__law_line.fd P__law_line (sp_line K) := ok__law_line T
  refine T.d__law_code.F.ok sc__law_code (fun vs H Q E h => ?_) (fun cdv A outer s H vs Q E hr h => ?_)
  · obtain ⟨_, _, _, _, _, rfl, _⟩ := h
    rfl
  · obtain ⟨b, d, zs, places, many, rfl, hB, hA, hD, h0, h1, hm0, hm1, q⟩ := h
    refine ⟨_, (pss_cons (ps_set (i := 4) sc__law_code.nd rfl (Or.inr rfl) (pe_call G__law_names (hr.mono (by omega)) rfl T.d__law_names.g T.d__law_names.F.kp T.d__law_names.b .nil pass0 (pa_cons (pv 0) (pa_cons pe_int pa_nil)))) (pss_cons (ps_setLc (i := 5) (own := [("_law_at", 6)]) (g := gName 6) (by rfl) sc__law_code.nd rfl rfl (sw_true rfl rfl rfl (by decide +kernel)) (pi_range1 (by rfl) T.b_range (pa_cons (pv 2) pa_nil)) (blkOk_by (own := [("_law_at", 6)]) (N := N__law_code) (sc := defScope s__law_code) (by decide +kernel)) (fun _ _ _ _ _ => pg_name (i := 6) sc__law_code.nd rfl (Or.inl rfl)) (fun _ _ _ _ _ => pts_nil) (fun _ _ _ _ _ => (pe_call G__law_line (hr.mono (by omega)) rfl T.d__law_line.g T.d__law_line.F.kp T.d__law_line.b .nil pass0 (pa_cons (pv 0) (pa_cons (pv 1) (pa_cons (pv 4) (pa_cons (pv 3) (pa_cons (pv 6) (pa_cons (pv 2) pa_nil))))))))) (pss_one (ps_ret (pe_disp (pps_cons pe_str (pv 1) (pps_cons pe_str (pv 3) (pps_cons pe_str (pe_call G__law_take (hr.mono (by omega)) rfl T.d__law_take.g T.d__law_take.F.kp T.d__law_take.b .nil pass0 (pa_cons (pv 0) (pa_cons (pe_op (r := rAddG K) op_addG (pv 3) pe_int) pa_nil))) (pps_cons pe_str (pv 5) pps_nil)))) (by rfl) (by rfl) (fun z => by cases z) (by decide)))))), ?_⟩
    refine ⟨.ref b, rfl, b, 3, rfl, hB, by decide, by decide, fun p1 xs H1 l1 nm1 np1 e1 d1 => ?_⟩
    have hB1 := d1.bag hB
    have p1b : p1 ≠ b := hB.fneq np1
    have hH1 : Hand K H1 b d p1 zs xs many := ⟨hB1, hA.dr d1 hB, hD, ⟨e1, p1b, by rintro rfl; simp at l1, by omega, nm1⟩, hm0, hm1⟩
    refine ⟨.int places, rfl, places, rfl, by omega, by omega, fun D nD => ?_⟩
    have hDb : D ≠ b := hB1.fneq nD
    refine lc_range (lo := 0) (n := places.toNat) (fun i H2 => ∃ (vs : List V) (sts : List Sta), H2 D = some (.lst vs) ∧ Rws K H2 vs sts ∧ sts.length = i ∧ (∀ st ∈ sts, st.raw (zs.map (·.r)) many places) ∧ Dr b H1 H2)
      ⟨[], [], upd_same, ⟨Ims.nil, fun i v st h1 => by simp at h1⟩, rfl, by simp, Dr.new nD⟩ (fun i H2 hi h2 => ?_) (fun H2 h2 => ?_)
    · obtain ⟨vs, sts, e2, i2, l2, o2, d2⟩ := h2
      have hH2 := hH1.dr d2
      refine ⟨rfl, .ref b, rfl, .ref d, rfl, .ref p1, rfl, .int many, rfl, _, rfl, .int places, rfl, b, d, p1, zs, xs, many, _, places, rfl, hH2, h0, by omega, fun v st H3 hst him hpl d3 => ?_⟩
      have e3 := d3.get hDb e2
      refine ⟨_, e3, ?_, vs ++ [v], sts ++ [st], upd_same, ?_, by simp [l2], ?_, (d2.trans d3).wr nD⟩
      · rw [i2.1.length, List.length_map, l2]
        exact small1000 (by omega)
      · exact ((i2.dr d3 hH2.bag).snoc him hpl).mv (Mv.set (S := [D]) e3 (by simp)) (no_frz e3 (fun _ _ z => by cases z))
      · intro y hy
        rcases List.mem_append.mp hy with hy | hy
        · exact o2 y hy
        · rw [List.mem_singleton.mp hy]
          exact hst
    obtain ⟨vs, sts, e2, i2, l2, o2, d2⟩ := h2
    have hH2 := hH1.dr d2
    have d02 := d1.trans d2
    intro c nc
    have ncH := d02.free hB nc
    have hcb : c ≠ b := hH2.bag.fneq nc
    have hcD : D ≠ c := ne_of_none e2 nc
    have d3 : Dr b H2 (upd H2 c (.dK [])) := .new nc
    have e3 : upd H2 c (.dK []) c = some (.dK []) := upd_same
    generalize upd H2 c (.dK []) = H3 at d3 e3 ⊢
    refine ⟨.ref d, rfl, .int many, rfl, .ref b, rfl, .int many, rfl, Or.inl ⟨many, 1, rfl, rfl, b, many + 1, rfl, d3.bag hH2.bag, by omega, by omega, fun given H4 g0 g1 d4 => ?_⟩⟩
    have e4 := d4.get hcb e3
    refine ⟨.ref D, rfl, e4, codeKv d D many given, rfl, (by decide : 4 ≤ 15), ?_⟩
    rw [code_merge]
    have d24 := d3.trans d4
    refine q c given sts _ ⟨D, vs, upd_same, ?_, ?_⟩ ncH l2 o2 g0 (by omega) ((d02.trans d24).wr ncH)
    · rw [upd_ne hcD]
      exact d24.get hDb e2
    · exact (i2.dr d24 hH2.bag).mv (Mv.putD e4) (no_frz e4 (fun _ _ z => by cases z))
end
end Fm
namespace Fm
open PySem PySem.Spec PyProof.Rows L2 SlX
local macro_rules | `(tactic| walk_at "nn") => `(tactic| dsimp only [tC, tNil, tCons, tCB, tCall, gName, tSeq, tAsg, tPar, tDrop, tRet])
local macro_rules | `(tactic| walk_at "nc") => `(tactic| dsimp only [tC, tNil, tCons, tCB, tCall])
theorem code_put (d l l' : Addr) (many given : Int) : putK (codeKv d l many given) (.inr "rows") (.ref l') = codeKv d l' many given := by
  have h1 : (Sum.inr (Str.ofString "acts") : L2.Key) ≠ .inr (Str.ofString "rows") := by decide +kernel
  have h2 : (Sum.inr (Str.ofString "many") : L2.Key) ≠ .inr (Str.ofString "rows") := by decide +kernel
  have h3 : (Sum.inr (Str.ofString "given") : L2.Key) ≠ .inr (Str.ofString "rows") := by decide +kernel
  unfold putK codeKv
  rw [if_pos (by simp)]
  simp only [List.map_cons, List.map_nil, if_neg h1, if_neg h2, if_neg h3, if_true]
def sp_quiet (K : PySem.W.Frag) : Sp := fun vs H Q _ => ∃ (b c d : Addr) (many given : Int) (sts : List Sta) (rs : List ActR), vs = [.ref b, .ref c] ∧ Bag H b ∧ LCode K H c d many given sts ∧ 0 < sts.length ∧ sts.length ≤ 1000 ∧ (∀ st ∈ sts, st.raw rs many sts.length) ∧
  ∀ c' l sts' H', LCodeL K H' c' d l many given sts' → H c' = none → H l = none → sts'.length = sts.length → (∀ st ∈ sts', st.raw rs many sts.length) → Dr b H H' → Q (.ref c') H'
theorem raw_empty {rs : List ActR} {many places g : Int} (h0 : 0 ≤ g) (h1 : g < places) : (Sta.set [] g).raw rs many places := ⟨⟨⟨⟨by simp, by simp, by simp⟩, h0, h1⟩, by simp [Sta.ord, srt]⟩, fun c hc => by cases hc⟩
section
variable {P : Program} {w : World} {K : PySem.W.Frag} {mg : Str → Option Value} {base : Heap}
end
end Fm
namespace Fm
open PySem PySem.Spec PyProof.Rows L2 SlX
local macro_rules | `(tactic| walk_at "nn") => `(tactic| dsimp only [tC, tNil, tCons, tCB, tCall, gName, tSeq, tAsg, tPar, tDrop, tRet])
local macro_rules | `(tactic| walk_at "nc") => `(tactic| dsimp only [tC, tNil, tCons, tCB, tCall])
/-- this law's own look -/
def sp_lshow (K : PySem.W.Frag) : Sp := fun vs H Q _ => ∃ (c d : Addr) (many given : Int) (sts : List Sta) (i : Int), vs = [.ref c, .int i] ∧ LCode K H c d many given sts ∧ sts.length ≤ 1000 ∧ (∀ chs g, Sta.set chs g ∈ sts → 0 ≤ g ∧ g < sts.length) ∧ 0 ≤ i ∧ i < sts.length ∧
  ∀ r, Shows sts i r → Q (optV r) H
end Fm
namespace Fm
open PySem PySem.Spec PyProof.Rows L2 SlX
local macro_rules | `(tactic| walk_at "nn") => `(tactic| dsimp only [tC, tNil, tCons, tCB, tCall, gName, tSeq, tAsg, tPar, tDrop, tRet])
local macro_rules | `(tactic| walk_at "nc") => `(tactic| dsimp only [tC, tNil, tCons, tCB, tCall])
theorem Ims.perm {α : Type} {K : PySem.W.Frag} {H : Hp} {D : α → PyData} {rows : List α} {xs ys : List V} (h : Ims K H xs (rows.map D)) (p : ys.Perm xs) : ∃ rows' : List α, rows'.Perm rows ∧ Ims K H ys (rows'.map D) := by
  have hl : rows.length = xs.length := by
    have := h.length
    rw [List.length_map] at this
    exact this.symm
  have e : xs = (rows.zip xs).map (·.2) := (List.map_snd_zip (by omega)).symm
  rw [e] at p
  obtain ⟨zs, hz, rfl⟩ := perm_lift p
  refine ⟨zs.map (·.1), ?_, Ims.ofPairs zs fun z hz' => h.pairs z (hz.mem_iff.mp hz')⟩
  have := hz.map (fun z : α × V => z.1)
  rwa [List.map_fst_zip (by omega)] at this
theorem ch_perm {many : Int} {chs chs' : List (Int × Tm)} (h : ChOk many chs) (p : chs'.Perm chs) : ChOk many chs' := ⟨(p.map _).nodup_iff.mpr h.1, by rw [p.length_eq]; exact h.2.1, fun c hc => h.2.2 c (p.mem_iff.mp hc)⟩
theorem ask_perm {r : ActR} {many places : Int} {ts : List Tm} {ways ways' : List (Str × List Int × Int)} (h : AskOk r many places ts ways) (p : ways'.Perm ways) : AskOk r many places ts ways' := ⟨h.len, h.ts, (p.map _).trans h.pm, fun w hw => h.ways w (p.mem_iff.mp hw)⟩
theorem ask_norm {r : ActR} {many places : Int} {ts : List Tm} {ways : List (Str × List Int × Int)} (h : AskOk r many places ts ways) : AskOk r.norm many places ts ways :=
  ⟨h.len, h.ts, h.pm.trans ((srt_perm r.outs).map _).symm, fun w hw => by
    obtain ⟨i, h1, h2⟩ := h.ways w hw
    exact ⟨i, srt_mem.mpr h1, h2⟩⟩
theorem sta_norm {rs : List ActR} {many places : Int} : ∀ {st : Sta}, st.ok rs many places → st.ok (normW rs) many places
  | .set _ _, h => h
  | .ask _ _ _, ⟨r, hr, h1, h2⟩ => ⟨r.norm, srt_mem.mpr (List.mem_map.mpr ⟨r, hr, rfl⟩), h1, ask_norm h2⟩
  | .fin _ _, h => h
theorem wok_norm {rs : List ActR} (hok : ∀ r ∈ rs, r.ok) (hnd : (rs.map (·.nm)).Nodup) (hf : rs.length < 60) (hond : ∀ r ∈ rs, (r.outs.map (·.1)).Nodup) : WOk (normW rs) := by
  have hm : ∀ r ∈ normW rs, ∃ q ∈ rs, r = q.norm := fun r hr => by
    obtain ⟨q, hq, e⟩ := List.mem_map.mp (srt_mem.mp hr)
    exact ⟨q, hq, e.symm⟩
  refine ⟨fun r hr => ?_, ?_, ?_, fun r hr => ?_, fun r hr => ?_⟩
  · obtain ⟨q, hq, rfl⟩ := hm r hr
    exact ActR.ok_norm (hok q hq)
  · refine srt_nd ?_
    rw [List.map_map]
    exact hnd
  · unfold normW
    rw [srt_len, List.length_map]
    exact hf
  · obtain ⟨q, hq, rfl⟩ := hm r hr
    exact srt_nd (hond q hq)
  · obtain ⟨q, hq, rfl⟩ := hm r hr
    exact List.pairwise_map.mpr (srt_pw totS q.outs)
def sp_codeOf (K : PySem.W.Frag) (C CW : Addr) : Sp := fun vs H Q _ => ∃ (b wx c d : Addr) (rs : List ActR) (many given : Int) (sts : List Sta), vs = [.ref b, .ref wx, .ref c] ∧ Bag H b ∧ WldAt K H CW wx (normW rs) ∧ WOk (normW rs) ∧ LCode K H c d many given sts ∧ 0 < sts.length ∧ sts.length ≤ 1000 ∧ (∀ st ∈ sts, st.rw rs many sts.length) ∧
  0 ≤ given ∧ given ≤ many ∧ many ≤ 24 ∧ ∀ l x H', CodL K H' C CW l x wx (normW rs) many given sts → H l = none → Dr b H H' → Q (.ref x) H'
section
variable {P : Program} {w : World} {K : PySem.W.Frag} {mg : Str → Option Value} {base : Heap}
theorem ok__law_code_of (T : TX K mg) {k : Nat} : FnOk P w K mg base CX0 (k + 9) T.d__law_code_of.f T.d__law_code_of.fd P__law_code_of (sp_codeOf K T.C_Code T.C_World) := by
  have G__law_take : FnOk P w K mg base CX0 1 T.d__law_take.f T.d__law_take.fd P__law_take sp_take := ok__law_take T
  have G__law_mixed : FnOk P w K mg base CX0 2 T.d__law_mixed.f T.d__law_mixed.fd P__law_mixed (sp_mixG K) := ok__law_mixed T
  have G_Code___init__ : FnOk P w K mg base CX0 7 T.d_Code___init__.f T.d_Code___init__.fd P_Code___init__ (sp_Code K T.C_Code T.C_World) := ok_Code___init__ T
  refine T.d__law_code_of.F.ok sc__law_code_of (fun vs H Q E h => ?_) (fun cdv A outer s H vs Q E hr h => ?_)
  · obtain ⟨_, _, _, _, _, _, _, _, rfl, _⟩ := h
    rfl
  · obtain ⟨b, wx, c, d, rs, many, given, sts, rfl, hB, hW, hWo, hC, h0, h1, hraw, hg0, hg1, hm1, q⟩ := h
    have hu1 := hu1_of hr
    have hu64 := hr.units
    refine ⟨_, (pss_cons (ps_set (i := 3) sc__law_code_of.nd rfl (Or.inl rfl) (pe_lst pa_nil)) (pss_cons (ps_for PassesOwn.never rfl (pi_seq (pe_dget hu1 (pv 2) pe_str (fun _ _ => rfl))) (pg_name (i := 4) sc__law_code_of.nd rfl (Or.inl rfl)) (Evl.pss_cut (ps_if (pt_cmpR (r := rEqG K) (op_eqG hu64) (pe_ix (r := rIx K) ix_seq (pv 4) pe_int (fun _ _ => rfl)) pe_str (nomark _)) (pss_one (ps_set (i := 4) sc__law_code_of.nd rfl (Or.inl rfl) (pe_tup (pa_cons pe_str (pa_cons (pe_callTy (r := rTupOf K) call_tupG (by rfl) T.b_tuple bt_tuple (pa_cons (pe_call G__law_mixed (hr.mono (by omega)) rfl T.d__law_mixed.g T.d__law_mixed.F.kp T.d__law_mixed.b .nil pass0 (pa_cons (pv 0) (pa_cons (pe_callTy (r := rListG K) (call_listA rfl) (by rfl) T.b_list bt_list (pa_cons (pe_ix (r := rIx K) ix_seq (pv 4) pe_int (fun _ _ => rfl)) pa_nil)) pa_nil))) pa_nil)) (pa_cons (pe_ix (r := rIx K) ix_seq (pv 4) pe_int (fun _ _ => rfl)) pa_nil)))))) pss_nil) (Evl.pss_cut (ps_if (pt_cmpR (r := rEqG K) (op_eqG hu64) (pe_ix (r := rIx K) ix_seq (pv 4) pe_int (fun _ _ => rfl)) pe_str (nomark _)) (pss_one (ps_set (i := 4) sc__law_code_of.nd rfl (Or.inl rfl) (pe_op (r := rAddG K) op_addG (pe_slice (r := rSlG K) sl_G (pv 4) po_none (po_some pe_int)) (pe_tup (pa_cons (pe_callTy (r := rTupOf K) call_tupG (by rfl) T.b_tuple bt_tuple (pa_cons (pe_call G__law_mixed (hr.mono (by omega)) rfl T.d__law_mixed.g T.d__law_mixed.F.kp T.d__law_mixed.b .nil pass0 (pa_cons (pv 0) (pa_cons (pe_callTy (r := rListG K) (call_listA rfl) (by rfl) T.b_list bt_list (pa_cons (pe_ix (r := rIx K) ix_seq (pv 4) pe_int (fun _ _ => rfl)) pa_nil)) pa_nil))) pa_nil)) pa_nil))))) pss_nil) (pss_one (ps_expr (pe_bm PySem.F.plainAttrs_list PySem.F.slot_list_append PySem.F.type_list_append mt_append (pv 3) (pa_cons (pv 4) pa_nil))))))) (pss_one (ps_ret (pe_make ⟨T.mk_Code, T.d_Code___init__.M.at_, T.d_Code___init__.M.fn, T.k_Code⟩ G_Code___init__ (hr.mono (by omega)) rfl T.g_Code T.d_Code___init__.b .nil pass0 (pa_cons (pv 1) (pa_cons (pe_dget hu1 (pv 2) pe_str (fun _ _ => rfl)) (pa_cons (pe_dget hu1 (pv 2) pe_str (fun _ _ => rfl)) (pa_cons (pe_ix (r := rIx K) ix_seq (pe_lst (pa_cons (pv 3) (pa_cons (pe_callTy (r := rTupOf K) call_tupG (by rfl) T.b_tuple bt_tuple (pa_cons (pv 3) pa_nil)) pa_nil))) (pe_call G__law_take (hr.mono (by omega)) rfl T.d__law_take.g T.d__law_take.F.kp T.d__law_take.b .nil pass0 (pa_cons (pv 0) (pa_cons pe_int pa_nil))) (fun _ _ => rfl)) pa_nil))))))))), ?_⟩
    obtain ⟨l, vs, hc, hl, hv⟩ := id hC
    have hvl : vs.length = sts.length := by
      have := hv.1.length
      rwa [List.length_map] at this
    have hlb := hB.ne_sta hl hv.1
    refine ⟨Nat.zero_le _, fun r nr => ?_⟩
    have hrb : r ≠ b := hB.fneq nr
    have e1 : upd H r (.lst []) r = some (.lst []) := upd_same
    have d1 : Dr b H (upd H r (.lst [])) := .new nr
    generalize upd H r (.lst []) = H1 at e1 d1 ⊢
    have kc : ∀ {H'}, Dr b H H' → H' c = some (.dK (codeKv d l many given)) := fun m => m.getK hB hc (fun _ z => by cases z)
    have kl : ∀ {H'}, Dr b H H' → H' l = some (.lst vs) := fun m => m.get hlb hl
    refine ⟨.ref c, rfl, c, .ref l, rfl, Or.inl ⟨_, .inr "rows", .inl (kc d1), rfl, (code_rows d l many given).symm⟩, l, rfl, Or.inl ⟨⟨_, .inl (.inl (kl d1))⟩, ?_⟩⟩
    refine for_list (K := K) (a := l) (xs := vs) (fun i σ H2 => ∃ (ws : List V) (sts' : List Sta) (u4 : Option V), σ = [some (.ref b), some (.ref wx), some (.ref c), some (.ref r), u4] ∧ H2 r = some (.lst ws) ∧ Ims K H2 ws (sts'.map Sta.d) ∧ sts'.map Sta.ord = sts.take i ∧ (∀ st ∈ sts', st.ok (normW rs) many sts.length) ∧ Dr b H H2)
      ⟨[], [], none, rfl, e1, Ims.nil, by simp, by simp, d1⟩ (fun i σ H2 _ h2 => ?_) (fun i x σ H2 hx h2 => ?_) (fun σ H2 h2 => ?_)
    · obtain ⟨ws, sts', u4, rfl, _, _, _, _, d2⟩ := h2
      exact .inl (.inl (kl d2))
    · obtain ⟨ws, sts', u4, rfl, er2, i2, n2, o2, d2⟩ := h2
      obtain ⟨dd, hdd, him⟩ := hv.1.get hx
      rw [List.getElem?_map] at hdd
      obtain ⟨st, hst, rfl⟩ := Option.map_eq_some_iff.mp hdd
      have hi := (List.getElem?_eq_some_iff.mp hst).1
      obtain ⟨hok, hord⟩ := hraw st (List.mem_of_getElem? hst)
      have hB2 := d2.bag hB
      have him2 := him.mv d2.mv
      have hsl : sts'.length = i := by
        have := congrArg List.length n2
        rw [List.length_map, List.length_take] at this
        omega
      -- a set may be mixed
      refine ⟨fun σ H3 => ∃ (v : V) (st1 : Sta), σ = [some (.ref b), some (.ref wx), some (.ref c), some (.ref r), some v] ∧ Im K H3 v st1.d ∧ st1.ok rs many sts.length ∧ st1.ord = st ∧ Dr b H2 H3, ?_, ?_⟩
      · cases st with
        | set chs goal =>
          obtain ⟨a, x0, x1, x2, rfl, ha, k0, k1, k2⟩ := him2.tup3
          cases k0.strI
          cases k2.intI
          obtain ⟨a1, xs1, rfl, ha1, hxs1⟩ := k1.tupI
          have hl1 := hxs1.length
          rw [List.length_map] at hl1
          have hcl := hok.1.2.1
          refine ⟨.ref a, rfl, rd_ixT ha (by decide) (v := .str "set") rfl ?_⟩
          refine Or.inl ⟨rfl, _, rfl, ?_⟩
          rw [show decide (V.str "set" = V.str "set") = true from decide_eq_true rfl]
          refine ⟨.ref b, rfl, .ref a, rfl, rd_ixT ha (by decide) (v := .ref a1) rfl ?_⟩
          refine Or.inl ⟨a1, xs1, rfl, .inr ha1, fun p3 np3 => ?_⟩
          have hp3b : p3 ≠ b := hB2.fneq np3
          have d3 : Dr b H2 (upd H2 p3 (.lst xs1)) := .new np3
          have e3 : upd H2 p3 (.lst xs1) p3 = some (.lst xs1) := upd_same
          generalize upd H2 p3 (.lst xs1) = H3 at d3 e3 ⊢
          refine ⟨b, p3, xs1, rfl, d3.bag hB2, .inl ⟨e3, hp3b⟩, by omega, fun p4 ys H4 hpm np4 e4 d4 => ?_⟩
          walk_at "nc"
          refine rd_tupOf (.inl (.inl e4)) fun p5 H5 m5 e5 => ?_
          have d25 := d3.trans (d4.trans (Dr.of m5))
          refine ⟨.ref a, rfl, rd_ixT (d25.mv.sqT ha) (by decide) (v := .int goal) rfl ?_⟩
          refine ⟨(by decide : 3 ≤ sizeLine), fun p6 np6 => ?_⟩
          have m6 : Mv [] H5 (upd H5 p6 (.tup [.str "set", .ref p5, .int goal])) := .new np6
          obtain ⟨chs', hch, hI⟩ := hxs1.perm hpm
          refine ⟨.ref p6, .set chs' goal, rfl, ?_, ⟨ch_perm hok.1 hch, hok.2⟩, ?_, d25.trans (.of m6)⟩
          · exact .tup (.inl (.inl upd_same)) (.cons (.str _) (.cons (.tup (m6.sqT e5) ((hI.mv d25.mv).mv m6)) (.cons (.int _) .nil)))
          · rw [← hord]
            show Sta.set (srt leZ (·.1) chs') goal = .set (srt leZ (·.1) chs) goal
            rw [srt_of_perm totZ hok.1.1 hch]
        | ask act ts ways =>
          obtain ⟨a, x0, x1, x2, x3, rfl, ha, k0, k1, k2, k3⟩ := him2.tup4
          cases k0.strI
          refine ⟨.ref a, rfl, rd_ixT ha (by decide) (v := .str "ask") rfl ?_⟩
          refine Or.inl ⟨rfl, _, rfl, ?_⟩
          rw [ne_str (by decide +kernel)]
          exact ⟨.ref a, _, rfl, him2, hok, hord, .refl⟩
        | fin word ts =>
          obtain ⟨a, x0, x1, x2, rfl, ha, k0, k1, k2⟩ := him2.tup3
          cases k0.strI
          refine ⟨.ref a, rfl, rd_ixT ha (by decide) (v := .str "end") rfl ?_⟩
          refine Or.inl ⟨rfl, _, rfl, ?_⟩
          rw [ne_str (by decide +kernel)]
          exact ⟨.ref a, _, rfl, him2, hok, hord, .refl⟩
      rintro σ H3 ⟨v1, st1, rfl, hv1, hok1, hord1, d3⟩
      have hB3 := d3.bag hB2
      refine ⟨fun σ H4 => ∃ (v : V) (st2 : Sta), σ = [some (.ref b), some (.ref wx), some (.ref c), some (.ref r), some v] ∧ Im K H4 v st2.d ∧ st2.ok rs many sts.length ∧ st2.ord = st ∧ Dr b H3 H4, ?_, ?_⟩
      · cases st1 with
        | ask act ts ways =>
          obtain ⟨a, x0, x1, x2, x3, rfl, ha, k0, k1, k2, k3⟩ := hv1.tup4
          cases k0.strI
          obtain ⟨a3, xs3, rfl, ha3, hxs3⟩ := k3.tupI
          have hl3 := hxs3.length
          rw [List.length_map] at hl3
          obtain ⟨ra, hra, hnm, hak⟩ := hok1
          have hwl : ways.length ≤ 1000 := by
            have h6 := (hWo.ok ra.norm (srt_mem.mpr (List.mem_map.mpr ⟨ra, hra, rfl⟩))).o6
            have h7 : ra.norm.outs.length = ra.outs.length := srt_len _
            have h8 := hak.pm.length_eq
            rw [List.length_map, List.length_map] at h8
            omega
          have hwn : (ways.map (·.1)).Nodup := by
            have h6 := hWo.ond ra.norm (srt_mem.mpr (List.mem_map.mpr ⟨ra, hra, rfl⟩))
            exact (hak.pm.trans ((srt_perm ra.outs).map _).symm).nodup_iff.mpr h6
          refine ⟨.ref a, rfl, rd_ixT ha (by decide) (v := .str "ask") rfl ?_⟩
          refine Or.inl ⟨rfl, _, rfl, ?_⟩
          rw [show decide (V.str "ask" = V.str "ask") = true from decide_eq_true rfl]
          refine ⟨.ref a, rfl, 3, rfl, rd_sl3 ha fun p0 H0 m0 e0 => ?_⟩
          refine ⟨.ref b, rfl, .ref a, rfl, rd_ixT (m0.sqT ha) (by decide) (v := .ref a3) rfl ?_⟩
          refine Or.inl ⟨a3, xs3, rfl, .inr (m0.sqT ha3), fun p4 np4 => ?_⟩
          have dd0 : Dr b H3 H0 := .of m0
          have hB0 := dd0.bag hB3
          have hp4b : p4 ≠ b := hB0.fneq np4
          have d4 : Dr b H0 (upd H0 p4 (.lst xs3)) := .new np4
          have e4 : upd H0 p4 (.lst xs3) p4 = some (.lst xs3) := upd_same
          generalize upd H0 p4 (.lst xs3) = H4 at d4 e4 ⊢
          refine ⟨b, p4, xs3, rfl, d4.bag hB0, .inl ⟨e4, hp4b⟩, by omega, fun p5 ys H5 hpm np5 e5 d5 => ?_⟩
          walk_at "nc"
          refine rd_tupOf (.inl (.inl e5)) fun p6 H6 m6 e6 => ?_
          refine ⟨(by decide : 1 ≤ sizeLine), fun p7 np7 => ?_⟩
          have m7 : Mv [] H6 (upd H6 p7 (.tup [.ref p6])) := .new np7
          have e7 : SqT K (upd H6 p7 (.tup [.ref p6])) p7 [.ref p6] := .inl (.inl upd_same)
          generalize upd H6 p7 (.tup [.ref p6]) = H7 at m7 e7 ⊢
          have d07 : Dr b H0 H7 := d4.trans (d5.trans (.of (m6.trans m7)))
          refine rd_cat (d07.mv.sqT e0) e7 (by decide : 4 ≤ sizeLine) fun p8 H8 m8 e8 => ?_
          have d38 : Dr b H3 H8 := dd0.trans (d07.trans (.of m8))
          obtain ⟨ways', hwp, hI⟩ := hxs3.perm hpm
          refine ⟨.ref p8, .ask act ts ways', rfl, ?_, ⟨ra, hra, hnm, ask_perm hak hwp⟩, ?_, d38⟩
          · exact .tup e8 (.cons (.str _) (.cons (k1.mv d38.mv) (.cons (k2.mv d38.mv) (.cons (.tup ((m7.trans m8).sqT e6) (hI.mv d38.mv)) .nil))))
          · rw [← hord1]
            show Sta.ask act ts (srt leS (·.1) ways') = .ask act ts (srt leS (·.1) ways)
            rw [srt_of_perm totS hwn hwp]
        | set chs goal =>
          obtain ⟨a, x0, x1, x2, rfl, ha, k0, k1, k2⟩ := hv1.tup3
          cases k0.strI
          refine ⟨.ref a, rfl, rd_ixT ha (by decide) (v := .str "set") rfl ?_⟩
          refine Or.inl ⟨rfl, _, rfl, ?_⟩
          rw [ne_str (by decide +kernel)]
          exact ⟨.ref a, _, rfl, hv1, hok1, hord1, .refl⟩
        | fin word ts =>
          obtain ⟨a, x0, x1, x2, rfl, ha, k0, k1, k2⟩ := hv1.tup3
          cases k0.strI
          refine ⟨.ref a, rfl, rd_ixT ha (by decide) (v := .str "end") rfl ?_⟩
          refine Or.inl ⟨rfl, _, rfl, ?_⟩
          rw [ne_str (by decide +kernel)]
          exact ⟨.ref a, _, rfl, hv1, hok1, hord1, .refl⟩
      rintro σ H4 ⟨v2, st2, rfl, hv2, hok2, hord2, d4⟩
      have d24 := d3.trans d4
      have er4 := d24.get hrb er2
      refine ⟨.ref r, rfl, .inl ⟨rfl, _, .inl (.inl er4)⟩, v2, rfl, r, _, _, rfl, rfl, er4, ?_, ?_⟩
      · rw [i2.length, List.length_map, hsl]
        exact small1000 (by omega)
      have hw : Mv [r] H4 (upd H4 r (.lst (ws ++ [v2]))) := .set er4 (by simp)
      refine ⟨ws ++ [v2], sts' ++ [st2], _, rfl, upd_same, ?_, ?_, ?_, (d2.trans d24).wr nr⟩
      · rw [List.map_append]
        exact ((i2.mv d24.mv).append (.cons hv2 .nil)).mv hw
      · rw [List.map_append, n2, List.take_add_one, hst]
        show _ ++ [st2.ord] = _ ++ [st]
        rw [hord2]
      · intro y hy
        rcases List.mem_append.mp hy with hy | hy
        · exact o2 y hy
        · rw [List.mem_singleton.mp hy]
          exact sta_norm hok2
    · obtain ⟨ws, sts', u4, rfl, er2, i2, n2, o2, d2⟩ := h2
      rw [hvl, List.take_length] at n2
      have hsl : sts'.length = sts.length := by
        have := congrArg List.length n2
        rwa [List.length_map] at this
      have hB2 := d2.bag hB
      refine ⟨.ref wx, rfl, .ref c, rfl, c, .int many, rfl, Or.inl ⟨_, .inr "many", .inl (kc d2), rfl, (code_many d l many given).symm⟩, ?_⟩
      refine ⟨.ref c, rfl, c, .int given, rfl, Or.inl ⟨_, .inr "given", .inl (kc d2), rfl, (code_given d l many given).symm⟩, ?_⟩
      refine ⟨.ref r, rfl, .ref r, rfl, ?_⟩
      walk_at "nc"
      refine rd_tupOf (.inl (.inl er2)) fun p3 H3 m3 e3 => ?_
      refine ⟨(by decide : 2 ≤ sizeLine), fun q4 nq4 => ?_⟩
      have d3 : Dr b H2 H3 := .of m3
      have hB3 := d3.bag hB2
      have hq4b : q4 ≠ b := hB3.fneq nq4
      have e4 : upd H3 q4 (.lst [.ref r, .ref p3]) q4 = some (.lst [.ref r, .ref p3]) := upd_same
      have d4 : Dr b H2 (upd H3 q4 (.lst [.ref r, .ref p3])) := d3.trans (.new nq4)
      have e34 : SqT K (upd H3 q4 (.lst [.ref r, .ref p3])) p3 ws := (Mv.new (S := []) nq4).sqT e3
      generalize upd H3 q4 (.lst [.ref r, .ref p3]) = H4 at e4 d4 e34 ⊢
      refine ⟨.ref b, rfl, b, 2, rfl, d4.bag hB2, by decide, by decide, fun i H5 i0 i2' d5 => ?_⟩
      have d25 := d4.trans d5
      have hi : i.toNat < 2 := by omega
      have key : ∃ y, [V.ref r, .ref p3][i.toNat]? = some (.ref y) ∧ (H5 y = some (.lst ws) ∨ SqT K H5 y ws) := by
        match i.toNat, hi with
        | 0, _ => exact ⟨r, rfl, .inl (d25.get hrb er2)⟩
        | 1, _ => exact ⟨p3, rfl, .inr (d5.mv.sqT e34)⟩
      obtain ⟨y, hy, hys⟩ := key
      refine rd_ixL (.inl (.inl (d5.get hq4b e4))) i0 hy ?_
      have d05 := d2.trans d25
      refine fun x dx nx ndx hne => ⟨x, dx, wx, y, normW rs, many, given, ws, sts', H5, rfl, rfl, nx, ndx, hne, hW.dr d05 hB, hWo, by omega, hm1, hg0, hg1, hys, i2.mv d25.mv, ?_, by omega, by omega, fun l H6 m6 nl6 hCd => ⟨rfl, q l x H6 ?_ (d05.free hB nl6) (d05.trans (.of m6))⟩⟩
      · rw [hsl]
        exact o2
      · rw [n2] at hCd
        exact hCd
end
end Fm
/-! statements may be shown -/
namespace Fm
open PySem PySem.Spec PyProof.Rows L2 SlX
mutual
theorem wl_tm {P : Int → Prop} : ∀ (n : Nat) (t : Tm), t.ok P → t.dep ≤ n → n ≤ 2 → wl t.d ≤ 100 + 300 * n * n
  | n, .var i, _, _, _ => by simp only [Tm.d, wl]; omega
  | 0, .op _ _, _, h, _ => by simp only [Tm.dep] at h; omega
  | n + 1, .op x ts, k, h, hn => by
    have h1 := wl_tms n ts k.2.2 (by simp only [Tm.dep] at h; omega) (by omega)
    have h2 := k.1.2.1
    have h3 := k.2.1
    simp only [Tm.d, wl, wls]
    have h4 : ts.length * (102 + 300 * n * n) ≤ 3 * (102 + 300 * n * n) := Nat.mul_le_mul_right _ h3
    match n, hn with
    | 0, _ => omega
    | 1, _ => omega
theorem wl_tms {P : Int → Prop} : ∀ (n : Nat) (ts : List Tm), Tm.oks P ts → Tm.deps ts ≤ n → n ≤ 2 → wls (Tm.ds ts) ≤ ts.length * (102 + 300 * n * n)
  | n, [], _, _, _ => by simp [Tm.ds, wls]
  | n, t :: ts, k, h, hn => by
    simp only [Tm.deps] at h
    have h1 := wl_tm n t k.1 (by omega) hn
    have h2 := wl_tms n ts k.2 (by omega) hn
    simp only [Tm.ds, wls, List.length_cons]
    rw [Nat.add_mul]
    omega
end
theorem wls_le {n : Nat} : ∀ {ds : List PyData}, (∀ d ∈ ds, wl d ≤ n) → wls ds ≤ ds.length * (n + 2)
  | [], _ => by simp [wls]
  | d :: ds, h => by
    have h1 := h d (by simp)
    have h2 := wls_le (ds := ds) fun e he => h e (by simp [he])
    simp only [wls, List.length_cons]
    rw [Nat.add_mul]
    omega
theorem wl_ints (js : List Int) : wls (js.map PyData.int) = 43 * js.length := by
  induction js with
  | nil => rfl
  | cons j js ih =>
    simp only [List.map_cons, wls, wl, ih, List.length_cons]
    omega
theorem wl_over {many : Int} {t : Tm} (h : TmOver many t) (hd : t.dep ≤ 2) : wl t.d ≤ 1300 := wl_tm 2 t h.1 hd (Nat.le_refl _)
theorem wl_overs {many : Int} {ts : List Tm} (h : ∀ t ∈ ts, TmOver many t) (hd : ∀ t ∈ ts, t.dep ≤ 2) : wls (Tm.ds ts) ≤ ts.length * 1302 := by
  rw [Tm.ds_map]
  have := wls_le (n := 1300) (ds := ts.map Tm.d) fun d hd' => by
    obtain ⟨t, ht, rfl⟩ := List.mem_map.mp hd'
    exact wl_over (h t ht) (hd t ht)
  rwa [List.length_map] at this
theorem sta_wl {rs : List ActR} {many places : Int} (hW : ∀ r ∈ rs, r.ok) : ∀ {st : Sta}, st.ok rs many places → st.dp 2 → wl st.d ≤ 40000
  | .set chs goal, ⟨⟨_, h2, h3⟩, _⟩, hd => by
    have h1 := wls_le (n := 1400) (ds := chs.map chD) fun d hd' => by
      obtain ⟨c, hc, rfl⟩ := List.mem_map.mp hd'
      have := wl_over (h3 c hc).2.2 (hd c hc)
      simp only [chD, wl, wls]
      omega
    rw [List.length_map] at h1
    have e : (Str.ofString "set").length = 3 := by decide +kernel
    simp only [Sta.d, wl, wls]
    omega
  | .ask act ts ways, ⟨r, hr, hn, h⟩, hd => by
    have hro := hW r hr
    have h1 := wl_overs h.ts hd
    have hl : ts.length ≤ 2 := by
      have := h.len
      have := hro.ar2
      omega
    have hwl : ways.length ≤ 6 := by
      have := h.pm.length_eq
      rw [List.length_map, List.length_map] at this
      have := hro.o6
      omega
    have h2 := wls_le (n := 400) (ds := ways.map wayD) fun d hd' => by
      obtain ⟨x, hx, rfl⟩ := List.mem_map.mp hd'
      obtain ⟨i, hi, hj, _⟩ := h.ways x hx
      have := (hro.on _ hi)
      have h9 : x.1.length ≤ 9 := this.1.2
      have hi2 := this.2.2
      have hj2 : x.2.1.length ≤ 2 := by omega
      simp only [wayD, wl, wls, wl_ints]
      omega
    rw [List.length_map] at h2
    have e : (Str.ofString "ask").length = 3 := by decide +kernel
    have ha := hro.nm.2.1
    rw [hn] at ha
    simp only [Sta.d, wl, wls]
    omega
  | .fin word ts, ⟨h1, h2, h3⟩, hd => by
    have h := wl_overs h3 hd
    have e : (Str.ofString "end").length = 3 := by decide +kernel
    have ha := h1.2.1
    simp only [Sta.d, wl, wls]
    omega
theorem shw_sta {rs : List ActR} {many places : Int} (hW : WOk rs) (hm : many ≤ 1000000) (hp : places ≤ 1000000) {st : Sta} (h : st.ok rs many places) (hd : st.dp 2) : Shw st.d := by
  obtain ⟨h1, h2⟩ := sta_fine hW hm hp h
  exact ⟨h1, by omega, Nat.le_trans (sta_wl hW.ok h hd) (by decide)⟩
theorem stf_of {rs : List ActR} {many places : Int} (hW : WOk rs) (hm : many ≤ 1000000) (hp : places ≤ 1000000) {sts : List Sta} (h : ∀ st ∈ sts, st.ok rs many places) : StF sts := fun st hst => sta_fine hW hm hp (h st hst)
theorem shw_stas {rs : List ActR} {many places : Int} (hW : WOk rs) (hm : many ≤ 1000000) (hp : places ≤ 1000000) {sts : List Sta} (h : ∀ st ∈ sts, st.ok rs many places ∧ st.dp 2) (hl : sts.length ≤ 100) : Shw (.list (sts.map Sta.d)) := by
  have hF := stf_of hW hm hp fun st hst => (h st hst).1
  obtain ⟨_, hd, _⟩ := list_shaped hF
  refine ⟨fineAll_iff.mpr fun x hx => ?_, ?_, ?_⟩
  · obtain ⟨st, hst, rfl⟩ := List.mem_map.mp hx
    exact (hF st hst).1
  · simp only [PyData.depth]
    omega
  · have := wls_le (n := 40000) (ds := sts.map Sta.d) fun d hd' => by
      obtain ⟨st, hst, rfl⟩ := List.mem_map.mp hd'
      exact sta_wl hW.ok (h st hst).1 (h st hst).2
    rw [List.length_map] at this
    simp only [wl]
    have : sts.length * (40000 + 2) ≤ 100 * (40000 + 2) := Nat.mul_le_mul_right _ hl
    omega
theorem shw_first {given many : Int} (g0 : 0 ≤ given) (g1 : given ≤ many) (m1 : many ≤ 1000) : Shw (firstD given many) := by
  unfold firstD
  have hmem : ∀ d ∈ (List.range given.toNat).map (fun i => PyData.int (i : Nat)) ++ List.replicate (many - given).toNat nilD, fine d ∧ d.depth ≤ 1 ∧ wl d ≤ 50 := fun d hd => by
    rcases List.mem_append.mp hd with hd | hd
    · obtain ⟨i, hi, rfl⟩ := List.mem_map.mp hd
      have := List.mem_range.mp hi
      refine ⟨?_, by simp [PyData.depth], by simp [wl]⟩
      show ((i : Int)).natAbs < 10 ^ 40
      exact Nat.lt_of_le_of_lt (show ((i : Int)).natAbs ≤ 1000 by omega) (by decide)
    · rw [(List.mem_replicate.mp hd).2]
      have e : (Str.ofString "nil").length = 3 := by decide +kernel
      exact ⟨⟨(by decide +kernel : PyData.strOk "nil" = true), trivial⟩, by simp [nilD, PyData.depth, PyData.depthAll], by simp only [nilD, wl, wls]; omega⟩
  generalize hds : (List.range given.toNat).map (fun i => PyData.int (i : Nat)) ++ List.replicate (many - given).toNat nilD = ds at hmem
  have hl : ds.length ≤ 1000 := by
    rw [← hds, List.length_append, List.length_map, List.length_range, List.length_replicate]
    omega
  have hd := depthAll_le (n := 1) (ds := ds) fun d hd => (hmem d hd).2.1
  have hw := wls_le (n := 50) (ds := ds) fun d hd => (hmem d hd).2.2
  refine ⟨⟨?_, fineAll_iff.mpr fun d hd => (hmem d hd).1, trivial⟩, ?_, ?_⟩
  · show (0 : Int).natAbs < 10 ^ 40
    decide
  · simp only [PyData.depth, PyData.depthAll]
    omega
  · simp only [wl, wls]
    omega
theorem shw_int1 {i : Int} (h : i.natAbs < 10 ^ 40) : Shw (.tuple [.str "none", .int i]) := by
  have e : (Str.ofString "none").length = 4 := by decide +kernel
  exact ⟨⟨(by decide +kernel : PyData.strOk "none" = true), h, trivial⟩, by simp [PyData.depth, PyData.depthAll], by simp only [wl, wls]; omega⟩
theorem shw_three {i j k : Int} (hi : i.natAbs < 10 ^ 40) (hj : j.natAbs < 10 ^ 40) (hk : k.natAbs < 10 ^ 40) : Shw (.list [.int i, .int j, .int k]) :=
  ⟨⟨hi, hj, hk, trivial⟩, by simp [PyData.depth, PyData.depthAll], by simp only [wl, wls]; omega⟩
end Fm
namespace Fm
open PySem PySem.Spec PyProof.Rows L2 SlX
local macro_rules | `(tactic| walk_at "nn") => `(tactic| dsimp only [tC, tNil, tCons, tCB, tCall, gName, tSeq, tAsg, tPar, tDrop, tRet])
local macro_rules | `(tactic| walk_at "nc") => `(tactic| dsimp only [tC, tNil, tCons, tCB, tCall])
def noneD (i : Int) : PyData := .tuple [.str "none", .int i]
def sp_askedC (K : PySem.W.Frag) (C CW : Addr) : Sp := fun vs H Q _ => ∃ (x wx : Addr) (rs : List ActR) (many given : Int) (sts : List Sta) (i : Int), vs = [.ref x, .int i] ∧ CodAt K H C CW x wx rs many given sts ∧
  (0 ≤ i → i < sts.length → ∀ v st H', sts[i.toNat]? = some st → Mv [] H H' → Im K H' v st.d → Q v H') ∧
  (¬ (0 ≤ i ∧ i < sts.length) → ∀ v H', Im K H' v (noneD i) → Mv [] H H' → Q v H')
theorem xfC_of {K : PySem.W.Frag} {C : Addr} (h : ExcC K C) : XfC K C := ⟨h.hg, h.hk, h.hs, h.hd⟩
section
variable {P : Program} {w : World} {K : PySem.W.Frag} {mg : Str → Option Value} {base : Heap}
theorem ok__law_asked (T : TX K mg) (Y : TY P K mg) {k : Nat} : FnOk P w K mg base CX0 (k + 6) T.d__law_asked.f T.d__law_asked.fd P__law_asked (sp_askedC K T.C_Code T.C_World) := by
  have G_Code_statement : FnOk P w K mg base (CX P w) 4 T.d_Code_statement.f T.d_Code_statement.fd P_Code_statement (sp_stAt K T.C_Code T.C_World Y.C_NoPlace) := ok_Code_statement T Y
  refine T.d__law_asked.F.ok sc__law_asked (fun vs H Q E h => ?_) (fun cdv A outer s H vs Q E hr h => ?_)
  · obtain ⟨_, _, _, _, _, _, _, rfl, _⟩ := h
    rfl
  · obtain ⟨x, wx, rs, many, given, sts, i, rfl, hC, q1, q2⟩ := h
    have hu64 := hr.units
    refine ⟨_, (pss_one (ps_try_as (i := 2) rfl rfl sc__law_asked.nd rfl rfl ⟨rfl, by decide, Or.inl Y.x_MoveError.gC⟩ takes0 (fun W pn xe tk po => (pss_one (ps_ret (pe_methSlS (pv 0) T.c_Code T.d_Code_statement.M G_Code_statement (hr.mono (by omega)) T.d_Code_statement.b (fun σ => passAt tk σ) (pa_cons (pv 1) pa_nil))))) (fun a oe cls d pn hz hf => (pss_one (ps_ret (pe_ifExp (pt_val (pe_callB (call_isX hz hf) (by rfl) T.b_isinstance bt_isinstance (pa_cons (pv 2) (pa_cons (pe_glob rfl Y.x_NoPlace.gC (show L2.RelV (.ref Y.C_NoPlace) _ from rfl)) pa_nil)))) (pe_tup (pa_cons pe_str (pa_cons (pe_xfG hz hf (pv 2)) pa_nil))) pe_str)))))), ?_⟩
    obtain ⟨dx, l', xs, hs, hW', hl', hxs⟩ := id hC
    refine ⟨.ref x, rfl, x, dx, _, rfl, hs, .int i, rfl, ?_⟩
    refine ⟨x, wx, rs, many, given, sts, i, rfl, hC, fun p0 p1 v st H' hst m hv => q1 p0 p1 v st H' hst m hv, fun hbad d H1 m1 nd => ?_⟩
    refine ⟨true, Y.em_NoPlace_MoveError, fun _ a na => ?_, fun z => by cases z⟩
    have e2 : upd H1 d (.xd [("place", .int i)]) d = some (.xd [("place", .int i)]) := upd_same
    have m2 : Mv [] H (upd H1 d (.xd [("place", .int i)])) := m1.trans (.new nd)
    generalize upd H1 d (.xd [("place", .int i)]) = H2 at e2 m2 na ⊢
    refine ⟨.ref a, rfl, ?_⟩
    walk_at "nc"
    refine ⟨Y.C_NoPlace, .ref Y.C_NoPlace, .ref Y.C_NoPlace, true, rfl, Y.xc_NoPlace, .inr ⟨d, _, rfl, e2⟩, rfl, fun _ h => h, kitOne_self _, ?_⟩
    refine ⟨_, rfl, .ref a, rfl, rfl, Y.C_NoPlace, d, _, .int i, rfl, xfC_of Y.xc_NoPlace, Y.x_NoPlace.no, rfl, e2, rfl, ?_⟩
    refine ⟨(by decide : 2 ≤ sizeLine), fun p np => ?_⟩
    exact q2 hbad _ _ (.tup (.inl (.inl upd_same)) (.cons (.str _) (.cons (.int _) .nil))) (m2.trans (.new np))
end
end Fm
/-! this law's own first frame; codes whose terms lie within further operations -/
namespace Fm
open PySem PySem.Spec PyProof.Rows L2 SlX
local macro_rules | `(tactic| walk_at "nn") => `(tactic| dsimp only [tC, tNil, tCons, tCB, tCall, gName, tSeq, tAsg, tPar, tDrop, tRet])
local macro_rules | `(tactic| walk_at "nc") => `(tactic| dsimp only [tC, tNil, tCons, tCB, tCall])
def wrapT (t : Tm) : Tm := .op "wrap" [t, .op "c" []]
def Sta.wrap : Sta → Sta
  | .set chs g => .set (chs.map fun c => (c.1, wrapT c.2)) g
  | .ask a ts ways => .ask a (ts.map wrapT) ways
  | .fin x ts => .fin x (ts.map wrapT)
theorem wrap_over {many : Int} {t : Tm} (h : TmOver many t) (hd : t.dep ≤ 1) : TmOver many (wrapT t) ∧ (wrapT t).dep ≤ 2 := by
  have hdd : (wrapT t).dep ≤ 2 := by
    simp only [wrapT, Tm.dep, Tm.deps]
    omega
  refine ⟨over_dep ?_ (by omega), hdd⟩
  have n1 : Nm "wrap" := by decide +kernel
  have n2 : Nm "c" := by decide +kernel
  refine ⟨n1, by simp, h.1, ⟨n2, by simp, trivial⟩, trivial⟩
theorem wrap_raw {rs : List ActR} {many places : Int} : ∀ {st : Sta}, st.raw rs many places → st.wrap.rw rs many places ∧ st.wrap.dp 2
  | .set chs g, ⟨⟨⟨⟨h1, h2, h3⟩, h4⟩, h5⟩, h6⟩ => by
    have key : (chs.map fun c : Int × Tm => (c.1, wrapT c.2)).map (·.1) = chs.map (·.1) := by rw [List.map_map]; rfl
    refine ⟨⟨⟨⟨by rw [key]; exact h1, by rw [List.length_map]; exact h2, fun c hc => ?_⟩, h4⟩, ?_⟩, fun c hc => ?_⟩
    · obtain ⟨e, he, rfl⟩ := List.mem_map.mp hc
      obtain ⟨e1, e2, e3⟩ := h3 e he
      exact ⟨e1, e2, (wrap_over e3 (h6 e he)).1⟩
    · have e : srt leZ (·.1) chs = chs := by
        have : Sta.set (srt leZ (·.1) chs) g = .set chs g := h5
        injection this
      show Sta.set (srt leZ (·.1) (chs.map fun c => (c.1, wrapT c.2))) g = .set _ g
      rw [srt_map (k := fun c : Int × Tm => c.1) (l := fun c : Int × Tm => c.1) (f := fun c : Int × Tm => (c.1, wrapT c.2)) totZ (fun _ => rfl) h1, e]
    · obtain ⟨e, he, rfl⟩ := List.mem_map.mp hc
      exact (wrap_over (h3 e he).2.2 (h6 e he)).2
  | .ask a ts ways, ⟨⟨⟨r, hr, h1, h2⟩, h5⟩, h6⟩ => by
    refine ⟨⟨⟨r, hr, h1, ⟨by rw [List.length_map]; exact h2.len, fun t ht => ?_, h2.pm, h2.ways⟩⟩, ?_⟩, fun t ht => ?_⟩
    · obtain ⟨e, he, rfl⟩ := List.mem_map.mp ht
      exact (wrap_over (h2.ts e he) (h6 e he)).1
    · have e : srt leS (·.1) ways = ways := by
        have : Sta.ask a ts (srt leS (·.1) ways) = .ask a ts ways := h5
        injection this
      show Sta.ask a (ts.map wrapT) (srt leS (·.1) ways) = _
      rw [e]
      rfl
    · obtain ⟨e, he, rfl⟩ := List.mem_map.mp ht
      exact (wrap_over (h2.ts e he) (h6 e he)).2
  | .fin x ts, ⟨⟨⟨h1, h2, h3⟩, h5⟩, h6⟩ => by
    refine ⟨⟨⟨h1, by rw [List.length_map]; exact h2, fun t ht => ?_⟩, rfl⟩, fun t ht => ?_⟩
    · obtain ⟨e, he, rfl⟩ := List.mem_map.mp ht
      exact (wrap_over (h3 e he) (h6 e he)).1
    · obtain ⟨e, he, rfl⟩ := List.mem_map.mp ht
      exact (wrap_over (h3 e he) (h6 e he)).2
theorem raw_two {rs : List ActR} {many places : Int} : ∀ {st : Sta}, st.raw rs many places → st.rw rs many places ∧ st.dp 2
  | .set _ _, ⟨h, k⟩ => ⟨h, fun c hc => Nat.le_trans (k c hc) (by decide)⟩
  | .ask _ _ _, ⟨h, k⟩ => ⟨h, fun c hc => Nat.le_trans (k c hc) (by decide)⟩
  | .fin _ _, ⟨h, k⟩ => ⟨h, fun c hc => Nat.le_trans (k c hc) (by decide)⟩
def sp_lfirst (K : PySem.W.Frag) : Sp := fun vs H Q _ => ∃ (c d : Addr) (many given : Int) (sts : List Sta), vs = [.ref c] ∧ LCode K H c d many given sts ∧ 0 ≤ given ∧ given ≤ many ∧ many ≤ 1000 ∧ ∀ v H', Im K H' v (firstD given many) → Mv [] H H' → Q v H'
def sp_wrapped (K : PySem.W.Frag) : Sp := fun vs H Q _ => ∃ (a : Addr) (xs : List V) (ts : List Tm), vs = [.ref a] ∧ SqT K H a xs ∧ Ims K H xs (Tm.ds ts) ∧ ts.length ≤ 1000 ∧ ∀ p ys H', SqT K H' p ys → Ims K H' ys (Tm.ds (ts.map wrapT)) → Mv [] H H' → Q (.ref p) H'
def sp_nested (K : PySem.W.Frag) : Sp := fun vs H Q _ => ∃ (b : Addr) (v : V) (st : Sta) (rs : List ActR) (many places : Int), vs = [.ref b, v] ∧ Bag H b ∧ Im K H v st.d ∧ st.pl K H v ∧ st.raw rs many places ∧ (∀ r ∈ rs, r.ok) ∧
  ∀ v' (st' : Sta) H', st'.rw rs many places ∧ st'.dp 2 → Im K H' v' st'.d → st'.pl K H' v' → Dr b H H' → Q v' H'
def sp_deepCode (K : PySem.W.Frag) : Sp := fun vs H Q _ => ∃ (b d : Addr) (zs : List ActA) (places many : Int), vs = [.ref b, .ref d, .int places, .int many] ∧ Bag H b ∧ ActsAt K H d zs ∧ DrawnActs many (zs.map (·.r)) ∧ 0 < places ∧ places ≤ 1000 ∧ 0 ≤ many ∧ many ≤ 100 ∧
  ∀ c l given (sts : List Sta) H', LCodeL K H' c d l many given sts → H c = none → H l = none → sts.length = places.toNat → (∀ st ∈ sts, st.rw (zs.map (·.r)) many places ∧ st.dp 2) → 0 ≤ given → given ≤ many → Dr b H H' → Q (.ref c) H'
section
variable {P : Program} {w : World} {K : PySem.W.Frag} {mg : Str → Option Value} {base : Heap}
theorem ok__law_first (T : TX K mg) {k : Nat} : FnOk P w K mg base CX0 (k + 1) T.d__law_first.f T.d__law_first.fd P__law_first (sp_lfirst K) := by
  refine T.d__law_first.F.ok sc__law_first (fun vs H Q E h => ?_) (fun cdv A outer s H vs Q E hr h => ?_)
  · obtain ⟨_, _, _, _, _, rfl, _⟩ := h
    rfl
  · obtain ⟨c, d, many, given, sts, rfl, ⟨l, xs, hc, hl, hx⟩, g0, g1, m1, q⟩ := h
    have hu1 := hu1_of hr
    refine ⟨_, (pss_one (ps_ret (pe_tup (pa_cons pe_int (pa_cons (pe_op (r := rAddG K) op_addG (pe_tupRg rfl (by rfl) T.b_tuple (prg_1 (by rfl) T.b_range (pe_dget hu1 (pv 0) pe_str (fun _ _ => rfl)))) (pe_op (r := rRepTG K) op_repTG (pe_tup (pa_cons (pe_tup (pa_cons pe_str pa_nil)) pa_nil)) (pe_op op_sub (pe_dget hu1 (pv 0) pe_str (fun _ _ => rfl)) (pe_dget hu1 (pv 0) pe_str (fun _ _ => rfl))))) pa_nil))))), ?_⟩
    refine ⟨.ref c, rfl, c, .int given, rfl, Or.inl ⟨_, .inr "given", .inl hc, rfl, (code_given d l many given).symm⟩, ?_⟩
    refine ⟨given, rfl, .of_le (by decide) (by omega) (by decide) g0, fun p np => ?_⟩
    have mp : Mv [] H (upd H p (.tup (rgV 0 given))) := .new np
    have ep : SqT K (upd H p (.tup (rgV 0 given))) p (rgV 0 given) := .inl (.inl upd_same)
    generalize upd H p (.tup (rgV 0 given)) = H1 at mp ep ⊢
    refine ⟨(by decide : 1 ≤ sizeLine), fun n2 nn2 => ?_⟩
    have mn : Mv [] H1 (upd H1 n2 (.tup [.str "nil"])) := .new nn2
    have en : SqT K (upd H1 n2 (.tup [.str "nil"])) n2 [.str "nil"] := .inl (.inl upd_same)
    change 1 ≤ sizeLine ∧ _
    generalize upd H1 n2 (.tup [.str "nil"]) = Hn at mn en ⊢
    refine ⟨(by decide : 1 ≤ sizeLine), fun p2 np2 => ?_⟩
    have m2 : Mv [] Hn (upd Hn p2 (.tup [.ref n2])) := .new np2
    have e2 : SqT K (upd Hn p2 (.tup [.ref n2])) p2 [.ref n2] := .inl (.inl upd_same)
    generalize upd Hn p2 (.tup [.ref n2]) = H2 at m2 e2 ⊢
    have hc2 := (mp.trans (mn.trans m2)).same _ _ hc
    refine ⟨.ref c, rfl, c, .int many, rfl, Or.inl ⟨_, .inr "many", .inl hc2, rfl, (code_many d l many given).symm⟩, ?_⟩
    refine ⟨.ref c, rfl, c, .int given, rfl, Or.inl ⟨_, .inr "given", .inl hc2, rfl, (code_given d l many given).symm⟩, ?_⟩
    refine ⟨many, given, rfl, rfl, rd_repT e2 (by omega) (by omega) fun p3 H3 m3 e3 => ?_⟩
    refine rd_cat ((mn.trans (m2.trans m3)).sqT ep) e3 ?_ fun p4 H4 m4 e4 => ?_
    · rw [rgV_length, List.length_replicate, sizeLine_eq]
      omega
    refine ⟨(by decide : 2 ≤ sizeLine), fun p5 np5 => ?_⟩
    have m5 : Mv [] H4 (upd H4 p5 (.tup [.int 0, .ref p4])) := .new np5
    exact q _ _ (firstV (.tup ((m2.trans (m3.trans (m4.trans m5))).sqT en) (.cons (.str _) .nil)) (.inl (.inl upd_same)) (m5.sqT e4)) (mp.trans (mn.trans (m2.trans (m3.trans (m4.trans m5)))))
theorem ok__law_wrapped (T : TX K mg) {k : Nat} : FnOk P w K mg base CX0 (k + 1) T.d__law_wrapped.f T.d__law_wrapped.fd P__law_wrapped (sp_wrapped K) := by
  refine T.d__law_wrapped.F.ok sc__law_wrapped (fun vs H Q E h => ?_) (fun cdv A outer s H vs Q E hr h => ?_)
  · obtain ⟨_, _, _, rfl, _⟩ := h
    rfl
  · obtain ⟨a, xs, ts, rfl, ha, hx, hl, q⟩ := h
    refine ⟨_, (pss_one (ps_ret (pe_callTy (r := rTupOf K) call_tupG (by rfl) T.b_tuple bt_tuple (pa_cons (pe_lc (own := [("_law_term_here", 1)]) (g := gName 1) (by rfl) sc__law_wrapped.nd (pi_seq (pv 0)) (blkOk_by (own := [("_law_term_here", 1)]) (N := N__law_wrapped) (sc := defScope s__law_wrapped) (by decide +kernel)) (fun _ _ _ _ _ => pg_name (i := 1) sc__law_wrapped.nd rfl (Or.inl rfl)) (fun _ _ _ _ _ => pts_nil) (fun _ _ _ _ _ => (pe_tup (pa_cons pe_str (pa_cons (pv 1) (pa_cons (pe_tup (pa_cons pe_str pa_nil)) pa_nil)))))) pa_nil)))), ?_⟩
    have hxl := hx.length
    rw [Tm.ds_map, List.length_map] at hxl
    refine ⟨.ref a, rfl, a, rfl, ?_⟩
    refine lc_seq (xs := xs) (.inr ha) (fun i D H1 => ∃ ys, H1 D = some (.lst ys) ∧ Ims K H1 ys (Tm.ds ((ts.take i).map wrapT)) ∧ Mv [] H H1) (fun D nD => ⟨[], upd_same, .nil, .new nD⟩) (fun i D H1 nD h1 => h1.choose_spec.2.2) (fun D nD i y H1 hy h1 => ?_) (fun D H1 nD h1 => ?_)
    · obtain ⟨ys, e1, i1, m1⟩ := h1
      obtain ⟨dt, hdt, him⟩ := hx.get hy
      rw [Tm.ds_map, List.getElem?_map] at hdt
      obtain ⟨t, ht, rfl⟩ := Option.map_eq_some_iff.mp hdt
      have hi := (List.getElem?_eq_some_iff.mp ht).1
      refine ⟨rfl, y, rfl, (by decide : 1 ≤ sizeLine), fun p2 np2 => ?_⟩
      have m2 : Mv [] H1 (upd H1 p2 (.tup [.str "c"])) := .new np2
      have e2 : SqT K (upd H1 p2 (.tup [.str "c"])) p2 [.str "c"] := .inl (.inl upd_same)
      generalize upd H1 p2 (.tup [.str "c"]) = H2 at m2 e2 ⊢
      refine ⟨(by decide : 3 ≤ sizeLine), fun p3 np3 => ?_⟩
      have m3 : Mv [] H2 (upd H2 p3 (.tup [.str "wrap", y, .ref p2])) := .new np3
      have e3 : SqT K (upd H2 p3 (.tup [.str "wrap", y, .ref p2])) p3 [.str "wrap", y, .ref p2] := .inl (.inl upd_same)
      change ∃ acc, _
      generalize upd H2 p3 (.tup [.str "wrap", y, .ref p2]) = H3 at m3 e3 ⊢
      have m13 := m2.trans m3
      have e13 := m13.same _ _ e1
      refine ⟨_, e13, ?_, ys ++ [.ref p3], upd_same, ?_, (m1.trans m13).wr nD⟩
      · rw [i1.length, Tm.ds_map, List.length_map, List.length_map, List.length_take]
        exact small1000 (by omega)
      · rw [List.take_add_one, ht, List.map_append, show Tm.ds ((ts.take i).map wrapT ++ (some t).toList.map wrapT) = Tm.ds ((ts.take i).map wrapT) ++ [(wrapT t).d] by simp [Tm.ds_map]]
        refine ((i1.mv m13).append (.cons ?_ .nil)).mv (Mv.set (S := [D]) e13 (by simp))
        exact .tup e3 (.cons (.str _) (.cons (him.mv (m1.trans m13)) (.cons (.tup (m3.sqT e2) (.cons (.str _) .nil)) .nil)))
    obtain ⟨ys, e1, i1, m1⟩ := h1
    rw [hxl, List.take_length] at i1
    refine rd_tupOf (.inl (.inl e1)) fun p H2 m2 e2 => ?_
    exact q p ys H2 e2 (i1.mv m2) (m1.trans m2)
end
end Fm
/-! Worlds are equal just when their acts are -/
namespace Fm
open PySem PySem.Spec PyProof.Rows L2 SlX
theorem perm_sub {α : Type} : ∀ {a b : List α}, a.Nodup → (∀ x ∈ a, x ∈ b) → b.length ≤ a.length → a.Perm b
  | [], b, _, _, hl => by
    have : b = [] := List.length_eq_zero_iff.mp (Nat.le_zero.mp hl)
    rw [this]
  | x :: a, b, n, hs, hl => by
    rw [List.nodup_cons] at n
    obtain ⟨l1, l2, rfl⟩ := List.append_of_mem (hs x List.mem_cons_self)
    have h : a.Perm (l1 ++ l2) := by
      refine perm_sub n.2 (fun y hy => ?_) ?_
      · rcases List.mem_append.mp (hs y (List.mem_cons_of_mem _ hy)) with h | h
        · exact List.mem_append.mpr (.inl h)
        · rcases List.mem_cons.mp h with rfl | h
          · exact absurd hy n.1
          · exact List.mem_append.mpr (.inr h)
      · rw [List.length_append] at hl ⊢
        simp only [List.length_cons] at hl
        omega
    exact ((List.perm_cons x).mpr h).trans List.perm_middle.symm
theorem nd_of_map {α β : Type} {f : α → β} {xs : List α} (n : (xs.map f).Nodup) : xs.Nodup := by
  refine List.Pairwise.imp ?_ (List.pairwise_map.mp n)
  intro a b h e
  exact h (by rw [e])
theorem lk_in {b : List (Str × Int)} {x : Str} {j : Int} (h : lk b x = some j) : (x, j) ∈ b := by
  unfold lk at h
  obtain ⟨e, he, rfl⟩ := Option.map_eq_some_iff.mp h
  have h1 : e.1 = x := by simpa using List.find?_some he
  rw [← h1]
  exact List.mem_of_find?_eq_some he
theorem outsEq_iff {a b : List (Str × Int)} (na : (a.map (·.1)).Nodup) (nb : (b.map (·.1)).Nodup) : outsEq a b = true ↔ a.Perm b := by
  unfold outsEq
  rw [Bool.and_eq_true, beq_iff_eq, List.all_eq_true]
  constructor
  · rintro ⟨hl, hh⟩
    refine perm_sub (nd_of_map na) (fun e he => ?_) (by omega)
    have := hh e he
    unfold hitO at this
    cases hl : lk b e.1 with
    | none => rw [hl] at this; cases this
    | some j =>
      rw [hl] at this
      have e2 : e.2 = j := by simpa using this
      have := lk_in hl
      rw [← e2] at this
      exact this
  · intro p
    refine ⟨p.length_eq, fun e he => ?_⟩
    unfold hitO
    rw [lk_mem nb (p.mem_iff.mp he)]
    exact beq_self_eq_true _
structure WfR (rs : List ActR) : Prop where
  nd : (rs.map (·.nm)).Nodup
  ond : ∀ r ∈ rs, (r.outs.map (·.1)).Nodup
theorem actEq_iff {r q : ActR} (hn : r.nm = q.nm) (nr : (r.outs.map (·.1)).Nodup) (nq : (q.outs.map (·.1)).Nodup) : actEq r q = true ↔ r.norm = q.norm := by
  unfold actEq
  rw [Bool.and_eq_true, beq_iff_eq, outsEq_iff nr nq]
  constructor
  · rintro ⟨h1, h2⟩
    exact norm_outs hn h1 nq h2
  · intro h
    have h0 : r.norm.ar = q.norm.ar := by rw [h]
    refine ⟨h0, ?_⟩
    have h1 : srt leS (·.1) r.outs = srt leS (·.1) q.outs := congrArg ActR.outs h
    have h2 := (srt_perm (le := leS) (k := fun e : Str × Int => e.1) r.outs).symm
    rw [h1] at h2
    exact h2.trans (srt_perm _)
theorem hitA_iff {qs : List ActR} {r : ActR} (hq : WfR qs) (nr : (r.outs.map (·.1)).Nodup) : hitA qs r = true ↔ r.norm ∈ qs.map ActR.norm := by
  unfold hitA
  cases hf : qs.find? fun q => decide (q.nm = r.nm) with
  | none =>
    rw [List.find?_eq_none] at hf
    refine ⟨fun h => (by cases h), fun h => ?_⟩
    obtain ⟨q, hqm, e⟩ := List.mem_map.mp h
    have h0 : q.norm.nm = r.norm.nm := by rw [e]
    exact absurd (decide_eq_true (show q.nm = r.nm from h0)) (hf q hqm)
  | some q =>
    have hqm := List.mem_of_find?_eq_some hf
    have hqn : q.nm = r.nm := by simpa using List.find?_some hf
    show actEq r q = true ↔ _
    rw [actEq_iff hqn.symm nr (hq.ond q hqm)]
    refine ⟨fun h => List.mem_map.mpr ⟨q, hqm, h.symm⟩, fun h => ?_⟩
    obtain ⟨q', hqm', e⟩ := List.mem_map.mp h
    have h0 : q'.norm.nm = r.norm.nm := by rw [e]
    have : q' = q := nd_key hq.nd hqm' hqm ((show q'.nm = r.nm from h0).trans hqn.symm)
    rw [← e, this]
theorem rsEq_iff {rs qs : List ActR} (hr : WfR rs) (hq : WfR qs) : rsEq rs qs = true ↔ normW rs = normW qs := by
  unfold rsEq
  rw [Bool.and_eq_true, beq_iff_eq, List.all_eq_true]
  constructor
  · rintro ⟨hl, hh⟩
    refine normW_perm hq.nd (perm_sub (nd_of_map (f := ActR.nm) ?_) (fun x hx => ?_) (by rw [List.length_map, List.length_map]; omega))
    · rw [List.map_map]
      exact hr.nd
    · obtain ⟨r, hr', rfl⟩ := List.mem_map.mp hx
      exact (hitA_iff hq (hr.ond r hr')).mp (hh r hr')
  · intro h
    have p : (rs.map ActR.norm).Perm (qs.map ActR.norm) := by
      have h2 := (srt_perm (le := leS) (k := fun r : ActR => r.nm) (rs.map ActR.norm)).symm
      have h3 : srt leS (fun r : ActR => r.nm) (rs.map ActR.norm) = srt leS (fun r : ActR => r.nm) (qs.map ActR.norm) := h
      rw [h3] at h2
      exact h2.trans (srt_perm _)
    refine ⟨by have := p.length_eq; rwa [List.length_map, List.length_map] at this, fun r hr' => ?_⟩
    exact (hitA_iff hq (hr.ond r hr')).mpr (p.mem_iff.mp (List.mem_map.mpr ⟨r, hr', rfl⟩))
theorem norm_norm {r : ActR} (n : (r.outs.map (·.1)).Nodup) : r.norm.norm = r.norm := by
  unfold ActR.norm
  simp only
  rw [srt_idem totS n]
theorem wf_norm {rs : List ActR} (h : WfR rs) : WfR (normW rs) := by
  refine ⟨?_, fun r hr => ?_⟩
  · exact srt_nd (by rw [List.map_map]; exact h.nd)
  · have := srt_mem.mp hr
    obtain ⟨q, hq, rfl⟩ := List.mem_map.mp this
    exact srt_nd (h.ond q hq)
theorem normW_idem {rs : List ActR} (h : WfR rs) : normW (normW rs) = normW rs := by
  have h1 : (normW rs).map ActR.norm = normW rs := by
    conv => rhs; rw [← List.map_id (normW rs)]
    refine List.map_congr_left fun r hr => ?_
    have := srt_mem.mp hr
    obtain ⟨q, hq, rfl⟩ := List.mem_map.mp this
    exact norm_norm (h.ond q hq)
  show srt leS (fun r : ActR => r.nm) ((normW rs).map ActR.norm) = _
  rw [h1]
  exact srt_idem totS (by rw [List.map_map]; exact h.nd)
theorem rsEq_norm {rs qs : List ActR} (hr : WfR rs) (hq : WfR qs) : rsEq (normW rs) (normW qs) = rsEq rs qs := by
  rw [Bool.eq_iff_iff, rsEq_iff (wf_norm hr) (wf_norm hq), rsEq_iff hr hq, normW_idem hr, normW_idem hq]
theorem rsEq_symm {rs qs : List ActR} (hr : WfR rs) (hq : WfR qs) : rsEq rs qs = rsEq qs rs := by
  rw [Bool.eq_iff_iff, rsEq_iff hr hq, rsEq_iff hq hr]
  exact eq_comm
theorem rsEq_refl {rs : List ActR} (hr : WfR rs) : rsEq rs rs = true := (rsEq_iff hr hr).mpr rfl
theorem ActsAt.wf {K : PySem.W.Frag} {H : Hp} {d : Addr} {zs : List ActA} (h : ActsAt K H d zs) : WfR (zs.map (·.r)) := by
  refine ⟨by rw [List.map_map]; exact h.nd, fun r hr => ?_⟩
  obtain ⟨z, hz, rfl⟩ := List.mem_map.mp hr
  exact h.ond z hz
end Fm
namespace Fm
open PySem PySem.Spec PyProof.Rows L2 SlX
local macro_rules | `(tactic| walk_at "nn") => `(tactic| dsimp only [tC, tNil, tCons, tCB, tCall, gName, tSeq, tAsg, tPar, tDrop, tRet])
local macro_rules | `(tactic| walk_at "nc") => `(tactic| dsimp only [tC, tNil, tCons, tCB, tCall])
theorem WOk.wf {rs : List ActR} (h : WOk rs) : WfR rs := ⟨h.nd, h.ond⟩
def sp_rightC (K : PySem.W.Frag) (C CW : Addr) : Sp := fun vs H Q _ => ∃ (x wx c d : Addr) (rs : List ActR) (many given : Int) (sts : List Sta), vs = [.ref x, .ref wx, .ref c] ∧ CodAt K H C CW x wx rs many given sts ∧ LCode K H c d many given sts ∧ WOk rs ∧ (∀ st ∈ sts, st.ok rs many sts.length ∧ st.dp 2) ∧ 0 < sts.length ∧ sts.length ≤ 100 ∧
  0 ≤ given ∧ given ≤ many ∧ many ≤ 100 ∧ ∀ H', Mv [] H H' → Q (.bl true) H'
section
variable {P : Program} {w : World} {K : PySem.W.Frag} {mg : Str → Option Value} {base : Heap}
theorem ok__law_right (T : TX K mg) (Y : TY P K mg) {k : Nat} : FnOkG P w K mg base CX0 (k + 7) T.d__law_right.f T.d__law_right.fd P__law_right (sp_rightC K T.C_Code T.C_World) := by
  have G__law_alike : FnOkG P w K mg base CX0 1 T.d__law_alike.f T.d__law_alike.fd P__law_alike (sp_alike K) := ok__law_alike T
  have G__law_asked : FnOk P w K mg base CX0 6 T.d__law_asked.f T.d__law_asked.fd P__law_asked (sp_askedC K T.C_Code T.C_World) := ok__law_asked T Y
  have G__law_first : FnOk P w K mg base CX0 1 T.d__law_first.f T.d__law_first.fd P__law_first (sp_lfirst K) := ok__law_first T
  have G_Code_world : FnOk P w K mg base CX0 1 T.d_Code_world.f T.d_Code_world.fd P_Code_world (sp_Cworld K T.C_Code T.C_World) := ok_Code_world T
  have G_Code_variables : FnOk P w K mg base CX0 1 T.d_Code_variables.f T.d_Code_variables.fd P_Code_variables (sp_Cvars K T.C_Code T.C_World) := ok_Code_variables T
  have G_Code_given : FnOk P w K mg base CX0 1 T.d_Code_given.f T.d_Code_given.fd P_Code_given (sp_Cgiven K T.C_Code T.C_World) := ok_Code_given T
  have G_Code___len__ : FnOk P w K mg base CX0 1 T.d_Code___len__.f T.d_Code___len__.fd P_Code___len__ (sp_Codelen K T.C_Code T.C_World) := ok_Code___len__ T
  have G_Code_statements : FnOk P w K mg base CX0 1 T.d_Code_statements.f T.d_Code_statements.fd P_Code_statements (sp_Cstats K T.C_Code T.C_World) := ok_Code_statements T
  have G_Code_first : FnOk P w K mg base CX0 1 T.d_Code_first.f T.d_Code_first.fd P_Code_first (sp_Cfirst K T.C_Code T.C_World) := ok_Code_first T
  have G_World___eq__ : FnOk P w K mg base CX0 1 T.d_World___eq__.f T.d_World___eq__.fd P_World___eq__ (sp_WorldEq K T.C_World) := ok_World___eq__ T
  refine okG T.d__law_right.F sc__law_right (fun vs H Q E h => ?_) (fun cdv A outer s H vs Q E hgd hr h => ?_)
  · obtain ⟨_, _, _, _, _, _, _, _, rfl, _⟩ := h
    rfl
  · obtain ⟨x, wx, c, d, rs, many, given, sts, rfl, hC, hL, hWo, hok, hp0, hp1, g0, g1, hm, q⟩ := h
    have hu1 := hu1_of hr
    refine ⟨_, (pss_cons (ps_set (i := 3) sc__law_right.nd rfl (Or.inl rfl) (pe_callB (r := rLenG K) call_lenG (by rfl) T.b_len bt_len (pa_cons (pe_dget hu1 (pv 2) pe_str (fun _ _ => rfl)) pa_nil))) (pss_cons (ps_set (i := 4) sc__law_right.nd rfl (Or.inl rfl) (pe_lst (pa_cons (pe_propSl (pv 0) T.c_Code T.d_Code_variables.at_ T.d_Code_variables.get T.d_Code_variables.tk T.d_Code_variables.rc (fnR_of G_Code_variables T.d_Code_variables.b) (hr.mono (by omega)) no0) (pa_cons (pe_propSl (pv 0) T.c_Code T.d_Code_given.at_ T.d_Code_given.get T.d_Code_given.tk T.d_Code_given.rc (fnR_of G_Code_given T.d_Code_given.b) (hr.mono (by omega)) no0) (pa_cons (pe_callB (r := rLenOwn T.C_Code (sp_Codelen K T.C_Code T.C_World) _) (call_lenOwn T.d_Code___len__.M.at_ T.d_Code___len__.M.fn (fnR_of G_Code___len__ T.d_Code___len__.b) (hr.mono (by omega)) pass0) (by rfl) T.b_len bt_len (pa_cons (pv 0) pa_nil)) pa_nil))))) (pss_cons (ps_if (PW.pt (pw_or (pt_cmpR (r := rNeOwn K T.C_World (sp_WorldEq K T.C_World) _) (op_neOwn T.ne_World T.is_World.cm T.d_World___eq__.M.at_ T.d_World___eq__.M.fn (fnR_of G_World___eq__ T.d_World___eq__.b) (hr.mono (by omega)) pass0) (pe_propSl (pv 0) T.c_Code T.d_Code_world.at_ T.d_Code_world.get T.d_Code_world.tk T.d_Code_world.rc (fnR_of G_Code_world T.d_Code_world.b) (hr.mono (by omega)) no0) (pv 1) (nomark _)) (pw_or1 (pt_not (pt_val (pe_callG G__law_alike hgd (hr.mono (by omega)) rfl T.d__law_alike.g T.d__law_alike.F.kp T.d__law_alike.b .nil pass0 (pa_cons (pv 4) (pa_cons (pe_lst (pa_cons (pe_dget hu1 (pv 2) pe_str (fun _ _ => rfl)) (pa_cons (pe_dget hu1 (pv 2) pe_str (fun _ _ => rfl)) (pa_cons (pv 3) pa_nil)))) pa_nil)))))))) (pss_one (ps_ret pe_bl)) pss_nil) (pss_cons (ps_for PassesOwn.never rfl (pi_range1 (by rfl) T.b_range (pa_cons (pv 3) pa_nil)) (pg_name (i := 5) sc__law_right.nd rfl (Or.inl rfl)) (pss_one (ps_if (pt_not (pt_val (pe_callG G__law_alike hgd (hr.mono (by omega)) rfl T.d__law_alike.g T.d__law_alike.F.kp T.d__law_alike.b .nil pass0 (pa_cons (pe_call G__law_asked (hr.mono (by omega)) rfl T.d__law_asked.g T.d__law_asked.F.kp T.d__law_asked.b .nil pass0 (pa_cons (pv 0) (pa_cons (pv 5) pa_nil))) (pa_cons (pe_ix (r := rIx K) ix_seq (pe_dget hu1 (pv 2) pe_str (fun _ _ => rfl)) (pv 5) (fun _ _ => rfl)) pa_nil))))) (pss_one (ps_ret pe_bl)) pss_nil))) (pss_cons (ps_for PassesOwn.never rfl (pi_seq (pe_tup (pa_cons (pv 3) (pa_cons (pe_un un_neg pe_int) (pa_cons (pe_op (r := rAddG K) op_addG (pv 3) (pe_op op_pow pe_int pe_int)) pa_nil))))) (pg_name (i := 5) sc__law_right.nd rfl (Or.inl rfl)) (pss_one (ps_if (pt_not (pt_val (pe_callG G__law_alike hgd (hr.mono (by omega)) rfl T.d__law_alike.g T.d__law_alike.F.kp T.d__law_alike.b .nil pass0 (pa_cons (pe_call G__law_asked (hr.mono (by omega)) rfl T.d__law_asked.g T.d__law_asked.F.kp T.d__law_asked.b .nil pass0 (pa_cons (pv 0) (pa_cons (pv 5) pa_nil))) (pa_cons (pe_tup (pa_cons pe_str (pa_cons (pv 5) pa_nil))) pa_nil))))) (pss_one (ps_ret pe_bl)) pss_nil))) (pss_cons (ps_set (i := 6) sc__law_right.nd rfl (Or.inl rfl) (pe_methSl0 (pv 0) T.c_Code T.d_Code_statements.M (fnR_of G_Code_statements T.d_Code_statements.b) (hr.mono (by omega)) pass0)) (pss_cons (ps_if (PW.pt (pw_or (pt_not (pt_val (pe_callG G__law_alike hgd (hr.mono (by omega)) rfl T.d__law_alike.g T.d__law_alike.F.kp T.d__law_alike.b .nil pass0 (pa_cons (pv 6) (pa_cons (pe_dget hu1 (pv 2) pe_str (fun _ _ => rfl)) pa_nil))))) (pw_or1 (pt_not (pt_val (pe_callG G__law_alike hgd (hr.mono (by omega)) rfl T.d__law_alike.g T.d__law_alike.F.kp T.d__law_alike.b .nil pass0 (pa_cons (pe_methSl0 (pv 0) T.c_Code T.d_Code_first.M (fnR_of G_Code_first T.d_Code_first.b) (hr.mono (by omega)) pass0) (pa_cons (pe_call G__law_first (hr.mono (by omega)) rfl T.d__law_first.g T.d__law_first.F.kp T.d__law_first.b .nil pass0 (pa_cons (pv 2) pa_nil)) pa_nil)))))))) (pss_one (ps_ret pe_bl)) pss_nil) (pss_cons (ps_expr (pe_bm0 PySem.F.plainAttrs_list PySem.F.slot_list_reverse PySem.F.type_list_reverse mt_reverse (pv 6))) (pss_cons (ps_expr (pe_bm PySem.F.plainAttrs_list PySem.F.slot_list_append PySem.F.type_list_append mt_append (pv 6) (pa_cons pe_non pa_nil))) (pss_one (ps_ret pe_bl))))))))))), ?_⟩
    obtain ⟨dx, lc, xs, hs, hW, hlc, hxs⟩ := id hC
    obtain ⟨dw, _, _, hws, _⟩ := id hW
    obtain ⟨l, vs, hc, hl, hR⟩ := id hL
    have hvl : vs.length = sts.length := by
      have := hR.1.length
      rwa [List.length_map] at this
    have hget : ∀ {H'} (f : Str) (v : V), Mv [] H H' → valV (codeKv d l many given) (.inr f) = some v → DGet H' c (.str f) (some v) := fun {H'} f v m e => Or.inl ⟨_, .inr f, .inl (m.same _ _ hc), rfl, e.symm⟩
    have nat40 : ∀ {i : Int}, 0 ≤ i → i ≤ 1000 → i.natAbs < 10 ^ 40 := fun {i} h0 h1 => Nat.lt_of_le_of_lt (show i.natAbs ≤ 1000 by omega) (by decide)
    refine ⟨.ref c, rfl, c, .ref l, rfl, hget "rows" _ .refl (code_rows d l many given), Or.inl ⟨l, vs, rfl, .inl (.inl (.inl hl)), ?_⟩⟩
    -- numbers
    refine ⟨.ref x, rfl, x, dx, _, rfl, hs, x, wx, rs, many, given, sts, rfl, hC, ?_⟩
    refine ⟨.ref x, rfl, x, dx, _, rfl, hs, x, wx, rs, many, given, sts, rfl, hC, ?_⟩
    refine ⟨.ref x, rfl, x, dx, _, rfl, hs, x, wx, rs, many, given, sts, rfl, hC, sts.length, rfl, by omega, ?_⟩
    refine ⟨(by decide : 3 ≤ sizeLine), fun p1 np1 => ?_⟩
    have m1 : Mv [] H (upd H p1 (.lst [.int many, .int given, .int (sts.length : Nat)])) := .new np1
    have e1 : upd H p1 (.lst [.int many, .int given, .int (sts.length : Nat)]) p1 = some (.lst [.int many, .int given, .int (sts.length : Nat)]) := upd_same
    generalize upd H p1 (.lst [.int many, .int given, .int (sts.length : Nat)]) = H1 at m1 e1 ⊢
    refine ⟨.ref x, rfl, x, dx, _, rfl, Slt.mv hs m1, x, wx, rs, many, given, sts, rfl, hC.mv m1, ⟨.ref wx, rfl, ⟨wx, dw, _, rfl, Slt.mv hws m1, .inl ⟨wx, _, _, _, rfl, Slt.mv hws m1, notFirst_self⟩, wx, rs, _, rfl, hW.mv m1, .inl ⟨wx, rs, rfl, hW.mv m1, _, rfl, _, rfl, ?_⟩⟩⟩⟩
    rw [rsEq_refl hWo.wf]
    refine ⟨.ref p1, rfl, .ref c, rfl, c, .int many, rfl, hget "many" _ m1 (code_many d l many given), .ref c, rfl, c, .int given, rfl, hget "given" _ m1 (code_given d l many given), ?_⟩
    refine ⟨_, rfl, (by decide : 3 ≤ sizeLine), fun p2 np2 => ?_⟩
    have m2 : Mv [] H1 (upd H1 p2 (.lst [.int many, .int given, .int (vs.length : Nat)])) := .new np2
    have e2 : upd H1 p2 (.lst [.int many, .int given, .int (vs.length : Nat)]) p2 = some (.lst [.int many, .int given, .int (vs.length : Nat)]) := upd_same
    generalize upd H1 p2 (.lst [.int many, .int given, .int (vs.length : Nat)]) = H2 at m2 e2 ⊢
    have dp3 : DpAll K H2 [.int many, .int given, .int (sts.length : Nat)] [.int many, .int given, .int (sts.length : Nat)] := .cons (.int _) (.cons (.int _) (.cons (.int _) .nil))
    rw [hvl] at e2
    refine ⟨_, _, .list [.int many, .int given, .int (sts.length : Nat)], rfl, .lst (.inl (.inl (m2.same _ _ e1))) dp3, .lst (.inl (.inl e2)) dp3, shw_three (nat40 (by omega) (by omega)) (nat40 g0 (by omega)) (nat40 (by omega) (by omega)), ⟨_, rfl, ?_⟩⟩
    have m02 := m1.trans m2
    -- each place
    refine ⟨.int (vs.length : Nat), rfl, (vs.length : Nat), rfl, by omega, by omega, ?_⟩
    refine for_range (lo := 0) (n := ((vs.length : Nat) : Int).toNat) (fun i σ H3 => ∃ y5 : Option V, σ = [some (.ref x), some (.ref wx), some (.ref c), some (.int (vs.length : Nat)), some (.ref p1), y5, none] ∧ Mv [] H H3)
      ⟨_, rfl, m02⟩ (fun i σ H3 hi h3 => ?_) (fun σ H3 h3 => ?_)
    · obtain ⟨y5, rfl, m3⟩ := h3
      have hi' : i < vs.length := by omega
      have i0 : (0 : Int) ≤ 0 + (i : Int) := by omega
      have itn : (0 + (i : Int)).toNat = i := by omega
      obtain ⟨v, hv⟩ : ∃ v, vs[i]? = some v := ⟨_, List.getElem?_eq_getElem hi'⟩
      obtain ⟨dd, hdd, him⟩ := hR.1.get hv
      rw [List.getElem?_map] at hdd
      obtain ⟨st, hst, rfl⟩ := Option.map_eq_some_iff.mp hdd
      refine ⟨.ref x, rfl, .int (0 + (i : Int)), rfl, x, wx, rs, many, given, sts, 0 + (i : Int), rfl, hC.mv m3, fun _ _ v4 st4 H4 hst4 m4 hv4 => ?_, fun hbad => absurd ⟨i0, by omega⟩ hbad⟩
      rw [itn, hst] at hst4
      obtain rfl := Option.some.inj hst4
      have m04 := m3.trans m4
      refine ⟨.ref c, rfl, c, .ref l, rfl, hget "rows" _ m04 (code_rows d l many given), .int (0 + (i : Int)), rfl, rd_ixL (.inl (.inl (m04.same _ _ hl))) i0 (v := v) (by rw [itn]; exact hv) ?_⟩
      obtain ⟨hok1, hdp⟩ := hok st (List.mem_of_getElem? hst)
      exact ⟨_, _, st.d, rfl, hv4.dp, (him.mv m04).dp, shw_sta hWo (by omega) (by omega) hok1 hdp, ⟨_, rfl, ⟨_, rfl, m04⟩⟩⟩
    obtain ⟨y5, rfl, m3⟩ := h3
    -- beyond
    have hpow : ((10 : Int) ^ (20 : Int).toNat) = 100000000000000000000 := by decide
    refine ⟨.int (vs.length : Nat), rfl, 1, rfl, .int (vs.length : Nat), rfl, 10, 20, rfl, rfl, ⟨by decide, by decide, by decide⟩, Or.inl ⟨_, _, rfl, rfl, ?_⟩⟩
    refine ⟨(by decide : 3 ≤ sizeLine), fun tp ntp => ?_⟩
    obtain ⟨js, hjs⟩ : ∃ js : List Int, js = [((vs.length : Nat) : Int), -1, ((vs.length : Nat) : Int) + (10 : Int) ^ (20 : Int).toNat] := ⟨_, rfl⟩
    have m4 : Mv [] H3 (upd H3 tp (.tup (js.map V.int))) := .new ntp
    have e4 : SqT K (upd H3 tp (.tup (js.map V.int))) tp (js.map V.int) := .inl (.inl upd_same)
    have hjv : ([.int ((vs.length : Nat) : Int), .int (-1), .int (((vs.length : Nat) : Int) + (10 : Int) ^ (20 : Int).toNat)] : List V) = js.map V.int := by rw [hjs]; rfl
    have hjb : ∀ j ∈ js, ¬ (0 ≤ j ∧ j < sts.length) ∧ j.natAbs < 10 ^ 40 := fun j hj => by
      rw [hjs] at hj
      simp only [List.mem_cons, List.not_mem_nil, or_false] at hj
      rw [hpow] at hj
      have hb : (10 : Nat) ^ 40 = 10000000000000000000000000000000000000000 := by decide
      rw [hb]
      omega
    rw [hjv]
    generalize upd H3 tp (.tup (js.map V.int)) = H4 at m4 e4 ⊢
    have m04 := m3.trans m4
    refine ⟨tp, rfl, ?_⟩
    refine for_seq (xs := js.map V.int) (.inr e4) (fun i σ H5 => ∃ y5 : Option V, σ = [some (.ref x), some (.ref wx), some (.ref c), some (.int (vs.length : Nat)), some (.ref p1), y5, none] ∧ Mv [] H4 H5)
      ⟨_, rfl, .refl⟩ (fun i σ H5 h5 => h5.choose_spec.2) (fun i y σ H5 hy h5 => ?_) (fun σ H5 h5 => ?_)
    · obtain ⟨y5', rfl, m5⟩ := h5
      rw [List.getElem?_map] at hy
      obtain ⟨j, hj, rfl⟩ := Option.map_eq_some_iff.mp hy
      obtain ⟨hbad, hj40⟩ := hjb j (List.mem_of_getElem? hj)
      refine ⟨.ref x, rfl, .int j, rfl, x, wx, rs, many, given, sts, j, rfl, hC.mv (m04.trans m5), fun p0 p1 => absurd ⟨p0, p1⟩ hbad, fun _ v6 H6 hv6 m6 => ?_⟩
      refine ⟨.int j, rfl, (by decide : 2 ≤ sizeLine), fun p7 np7 => ?_⟩
      have m7 : Mv [] H6 (upd H6 p7 (.tup [.str "none", .int j])) := .new np7
      exact ⟨_, _, noneD j, rfl, (hv6.mv m7).dp, .tup (.inl (.inl upd_same)) (.cons (.str _) (.cons (.int _) .nil)), shw_int1 hj40, ⟨_, rfl, ⟨_, rfl, m5.trans (m6.trans m7)⟩⟩⟩
    obtain ⟨y5', rfl, m5⟩ := h5
    have m05 := m04.trans m5
    -- statements, first
    refine ⟨.ref x, rfl, x, dx, _, rfl, Slt.mv hs m05, x, wx, rs, many, given, sts, rfl, hC.mv m05, fun p6 ys np6 hys => ?_⟩
    have m6 : Mv [] H5 (upd H5 p6 (.lst ys)) := .new np6
    have e6 : upd H5 p6 (.lst ys) p6 = some (.lst ys) := upd_same
    generalize upd H5 p6 (.lst ys) = H6 at m6 e6 ⊢
    have m06 := m05.trans m6
    refine ⟨.ref p6, rfl, .ref c, rfl, c, .ref l, rfl, hget "rows" _ m06 (code_rows d l many given), ?_⟩
    refine ⟨_, _, .list (sts.map Sta.d), rfl, .lst (.inl (.inl e6)) (hys.mv m6).dp, .lst (.inl (.inl (m06.same _ _ hl))) (hR.1.mv m06).dp, shw_stas hWo (by omega) (by omega) hok hp1, ⟨_, rfl, ?_⟩⟩
    refine ⟨.ref x, rfl, x, dx, _, rfl, Slt.mv hs m06, x, wx, rs, many, given, sts, rfl, hC.mv m06, g0, g1, by omega, fun v7 H7 hv7 m7 => ?_⟩
    refine ⟨.ref c, rfl, c, d, many, given, sts, rfl, hL.mv (m06.trans m7), g0, g1, by omega, fun v8 H8 hv8 m8 => ?_⟩
    refine ⟨_, _, firstD given many, rfl, (hv7.mv m8).dp, hv8.dp, shw_first g0 g1 (by omega), ⟨_, rfl, ?_⟩⟩
    have m68 := m7.trans m8
    have e8 := m68.same _ _ e6
    refine ⟨.ref p6, rfl, .inl ⟨rfl, _, .inl (.inl e8)⟩, p6, _, rfl, rfl, e8, ?_⟩
    have m9 : Mv [] H (upd H8 p6 (.lst ys.reverse)) := (m05.trans (m6.trans m68)).wr (m05.free np6)
    have e9 : upd H8 p6 (.lst ys.reverse) p6 = some (.lst ys.reverse) := upd_same
    generalize upd H8 p6 (.lst ys.reverse) = H9 at m9 e9 ⊢
    refine ⟨.ref p6, rfl, .inl ⟨rfl, _, .inl (.inl e9)⟩, p6, _, _, rfl, rfl, e9, ?_, ?_⟩
    · rw [List.length_reverse]
      have := hys.length
      rw [List.length_map] at this
      exact small1000 (by omega)
    exact q _ (m9.wr (m05.free np6))
end
end Fm
namespace Fm
open PySem PySem.Spec PyProof.Rows L2 SlX
local macro_rules | `(tactic| walk_at "nn") => `(tactic| dsimp only [tC, tNil, tCons, tCB, tCall, gName, tSeq, tAsg, tPar, tDrop, tRet])
local macro_rules | `(tactic| walk_at "nc") => `(tactic| dsimp only [tC, tNil, tCons, tCB, tCall])
section
variable {P : Program} {w : World} {K : PySem.W.Frag} {mg : Str → Option Value} {base : Heap}
theorem ok__law_nested (T : TX K mg) {k : Nat} : FnOk P w K mg base CX0 (k + 2) T.d__law_nested.f T.d__law_nested.fd P__law_nested (sp_nested K) := by
  have G__law_take : FnOk P w K mg base CX0 1 T.d__law_take.f T.d__law_take.fd P__law_take sp_take := ok__law_take T
  have G__law_wrapped : FnOk P w K mg base CX0 1 T.d__law_wrapped.f T.d__law_wrapped.fd P__law_wrapped (sp_wrapped K) := ok__law_wrapped T
  refine T.d__law_nested.F.ok sc__law_nested (fun vs H Q E h => ?_) (fun cdv A outer s H vs Q E hr h => ?_)
  · obtain ⟨_, _, _, _, _, _, rfl, _⟩ := h
    rfl
  · obtain ⟨b, v, st, rs, many, places, rfl, hB, hv, hpl, hraw, hrok, q⟩ := h
    have hu64 := hr.units
    refine ⟨_, (pss_cons (ps_if (pt_cmpR op_gt (pe_call G__law_take (hr.mono (by omega)) rfl T.d__law_take.g T.d__law_take.F.kp T.d__law_take.b .nil pass0 (pa_cons (pv 0) (pa_cons pe_int pa_nil))) pe_int (nomark _)) (pss_one (ps_ret (pv 1))) pss_nil) (pss_cons (ps_if (pt_cmpR (r := rEqG K) (op_eqG hu64) (pe_ix (r := rIx K) ix_seq (pv 1) pe_int (fun _ _ => rfl)) pe_str (nomark _)) (pss_one (ps_ret (pe_tup (pa_cons pe_str (pa_cons (pe_callTy (r := rTupF K) call_tupF (by rfl) T.b_tuple bt_tuple (pa_cons (pe_lc (own := [("_law_one", 2), ("_law_term_here", 3)]) (g := gTup K 2 (gCons (gName 2) (gCons (gName 3) gNil))) (by rfl) sc__law_nested.nd (pi_seq (pe_ix (r := rIx K) ix_seq (pv 1) pe_int (fun _ _ => rfl))) (blkOk_by (own := [("_law_one", 2), ("_law_term_here", 3)]) (N := N__law_nested) (sc := defScope s__law_nested) (by decide +kernel)) (fun _ _ _ _ _ => (pg_tup rfl (pgs_cons (pg_name (i := 2) sc__law_nested.nd rfl (Or.inl rfl)) (pgs_cons (pg_name (i := 3) sc__law_nested.nd rfl (Or.inl rfl)) pgs_nil)))) (fun _ _ _ _ _ => pts_nil) (fun _ _ _ _ _ => (pe_tup (pa_cons (pv 2) (pa_cons (pe_tup (pa_cons pe_str (pa_cons (pv 3) (pa_cons (pe_tup (pa_cons pe_str pa_nil)) pa_nil)))) pa_nil))))) pa_nil)) (pa_cons (pe_ix (r := rIx K) ix_seq (pv 1) pe_int (fun _ _ => rfl)) pa_nil)))))) pss_nil) (pss_one (ps_ret (pe_ifExp (pt_cmpR (r := rEqG K) (op_eqG hu64) (pe_ix (r := rIx K) ix_seq (pv 1) pe_int (fun _ _ => rfl)) pe_str (nomark _)) (pe_op (r := rAddG K) op_addG (pe_slice (r := rSlG K) sl_G (pv 1) po_none (po_some pe_int)) (pe_tup (pa_cons (pe_call G__law_wrapped (hr.mono (by omega)) rfl T.d__law_wrapped.g T.d__law_wrapped.F.kp T.d__law_wrapped.b .nil pass0 (pa_cons (pe_ix (r := rIx K) ix_seq (pv 1) pe_int (fun _ _ => rfl)) pa_nil)) pa_nil))) (pe_op (r := rAddG K) op_addG (pe_op (r := rAddG K) op_addG (pe_slice (r := rSlG K) sl_G (pv 1) po_none (po_some pe_int)) (pe_tup (pa_cons (pe_call G__law_wrapped (hr.mono (by omega)) rfl T.d__law_wrapped.g T.d__law_wrapped.F.kp T.d__law_wrapped.b .nil pass0 (pa_cons (pe_ix (r := rIx K) ix_seq (pv 1) pe_int (fun _ _ => rfl)) pa_nil)) pa_nil))) (pe_slice (r := rSlG K) sl_G (pv 1) (po_some pe_int) po_none))))))), ?_⟩
    refine ⟨.ref b, rfl, b, 3, rfl, hB, by decide, by decide, fun n H1 n0 n1 d1 => ?_⟩
    have hB1 := d1.bag hB
    have hv1 := hv.mv d1.mv
    have hbl : ∀ q ∈ [b], ∀ o ys, H q ≠ some (.frz o (.tup ys)) := by
      obtain ⟨_, _, _, _, _, hb1, _⟩ := hB
      exact no_frz hb1 (fun _ _ z => by cases z)
    have hpl1 := pl_mv d1.mv hbl hpl
    refine ⟨_, _, rfl, rfl, _, rfl, ?_⟩
    refine ite2 (fun e => ⟨v, rfl, q v st H1 (raw_two hraw) hv1 hpl1 d1⟩) (fun e => ?_)
    cases st with
    | set chs goal =>
      obtain ⟨a, x0, x1, x2, rfl, ha, k0, k1, k2⟩ := hv1.tup3
      cases k0.strI
      cases k2.intI
      obtain ⟨a1, xs1, rfl, ha1, hxs1⟩ := k1.tupI
      have hl1 := hxs1.length
      rw [List.length_map] at hl1
      have hcl := hraw.1.1.1.2.1
      refine ⟨.ref a, rfl, rd_ixT ha (by decide) (v := .str "set") rfl ?_⟩
      refine Or.inl ⟨rfl, _, rfl, ?_⟩
      rw [show decide (V.str "set" = V.str "set") = true from decide_eq_true rfl]
      refine ⟨.ref a, rfl, rd_ixT ha (by decide) (v := .ref a1) rfl ?_⟩
      refine ⟨a1, rfl, ?_⟩
      refine lc_seq (xs := xs1) (.inr ha1) (fun i D H2 => ∃ ys, H2 D = some (.lst ys) ∧ Ims K H2 ys (((chs.take i).map fun c => (c.1, wrapT c.2)).map chD) ∧ Mv [] H1 H2) (fun D nD => ⟨[], upd_same, .nil, .new nD⟩) (fun i D H2 nD h2 => h2.choose_spec.2.2) (fun D nD i y H2 hy h2 => ?_) (fun D H2 nD h2 => ?_)
      · obtain ⟨ys, e2, i2, m2⟩ := h2
        obtain ⟨dt, hdt, him⟩ := hxs1.get hy
        rw [List.getElem?_map] at hdt
        obtain ⟨c, hc, rfl⟩ := Option.map_eq_some_iff.mp hdt
        have hi := (List.getElem?_eq_some_iff.mp hc).1
        obtain ⟨ac, y0, y1, rfl, hac, j0, j1⟩ := (him.mv m2).tup2
        cases j0.intI
        refine ⟨ac, _, rfl, hac, rfl, _, _, rfl, _, _, rfl, rfl, rfl, .int c.1, rfl, y1, rfl, (by decide : 1 ≤ sizeLine), fun p3 np3 => ?_⟩
        have m3 : Mv [] H2 (upd H2 p3 (.tup [.str "c"])) := .new np3
        have e3 : SqT K (upd H2 p3 (.tup [.str "c"])) p3 [.str "c"] := .inl (.inl upd_same)
        generalize upd H2 p3 (.tup [.str "c"]) = H3 at m3 e3 ⊢
        refine ⟨(by decide : 3 ≤ sizeLine), fun p4 np4 => ?_⟩
        have m4 : Mv [] H3 (upd H3 p4 (.tup [.str "wrap", y1, .ref p3])) := .new np4
        have e4 : SqT K (upd H3 p4 (.tup [.str "wrap", y1, .ref p3])) p4 [.str "wrap", y1, .ref p3] := .inl (.inl upd_same)
        generalize upd H3 p4 (.tup [.str "wrap", y1, .ref p3]) = H4 at m4 e4 ⊢
        refine ⟨(by decide : 2 ≤ sizeLine), fun p5 np5 => ?_⟩
        have m5 : Mv [] H4 (upd H4 p5 (.tup [.int c.1, .ref p4])) := .new np5
        have e5 : SqT K (upd H4 p5 (.tup [.int c.1, .ref p4])) p5 [.int c.1, .ref p4] := .inl (.inl upd_same)
        change ∃ acc, _
        generalize upd H4 p5 (.tup [.int c.1, .ref p4]) = H5 at m5 e5 ⊢
        have m25 := m3.trans (m4.trans m5)
        have e25 := m25.same _ _ e2
        refine ⟨_, e25, ?_, ys ++ [.ref p5], upd_same, ?_, (m2.trans m25).wr nD⟩
        · rw [i2.length, List.length_map, List.length_map, List.length_take]
          exact small1000 (by omega)
        · rw [List.take_add_one, hc, List.map_append, List.map_append]
          refine ((i2.mv m25).append (.cons ?_ .nil)).mv (Mv.set (S := [D]) e25 (by simp))
          exact .tup e5 (.cons (.int _) (.cons (.tup (m5.sqT e4) (.cons (.str _) (.cons (j1.mv m25) (.cons (.tup ((m4.trans m5).sqT e3) (.cons (.str _) .nil)) .nil)))) .nil))
      obtain ⟨ys, e2, i2, m2⟩ := h2
      rw [hl1, List.take_length] at i2
      refine ⟨D, ys, rfl, .inl (.inl e2), fun p3 o3 np3 ho3 => ?_⟩
      have m3 : Mv [] H2 (upd H2 p3 (.frz o3 (.tup ys))) := .new np3
      have e3 : PlT (upd H2 p3 (.frz o3 (.tup ys))) p3 ys := ⟨o3, upd_same, ho3⟩
      generalize upd H2 p3 (.frz o3 (.tup ys)) = H3 at m3 e3 ⊢
      have m13 := m2.trans m3
      refine ⟨.ref a, rfl, rd_ixT (m13.sqT ha) (by decide) (v := .int goal) rfl ?_⟩
      refine ⟨(by decide : 3 ≤ sizeLine), fun p4 np4 => ?_⟩
      have m4 : Mv [] H3 (upd H3 p4 (.tup [.str "set", .ref p3, .int goal])) := .new np4
      have e34 := e3.mv m4 (fun q hq => nomatch hq)
      have i4 := (i2.mv m3).mv m4
      exact q (.ref p4) (Sta.wrap (.set chs goal)) _ (wrap_raw hraw) (.tup (.inl (.inl upd_same)) (.cons (.str _) (.cons (.tup e34.sq i4) (.cons (.int _) .nil)))) ⟨p4, p3, ys, rfl, .inl (.inl upd_same), e34, i4⟩ (d1.trans (.of (m13.trans m4)))
    | ask act ts ways =>
      obtain ⟨a, x0, x1, x2, x3, rfl, ha, k0, k1, k2, k3⟩ := hv1.tup4
      cases k0.strI
      obtain ⟨a2, xs2, rfl, ha2, hxs2⟩ := k2.tupI
      refine ⟨.ref a, rfl, rd_ixT ha (by decide) (v := .str "ask") rfl ?_⟩
      refine Or.inl ⟨rfl, _, rfl, ?_⟩
      rw [ne_str (by decide +kernel)]
      refine ⟨.ref a, rfl, rd_ixT ha (by decide) (v := .str "ask") rfl ?_⟩
      refine Or.inl ⟨rfl, _, rfl, ?_⟩
      rw [ne_str (by decide +kernel)]
      refine ⟨.ref a, rfl, 2, rfl, rd_slT ha fun p2 H2 m2 e2 => ?_⟩
      rw [show (some 2 : Option Int) = some ((2 : Nat) : Int) from rfl, cut_hi] at e2
      have e2 : SqT K H2 p2 [.str "ask", x1] := e2
      refine ⟨.ref a, rfl, rd_ixT (m2.sqT ha) (by decide) (v := .ref a2) rfl ?_⟩
      refine ⟨a2, xs2, ts, rfl, m2.sqT ha2, hxs2.mv m2, ?_, fun p3 ys H3 h3 i3 m3 => ?_⟩
      · obtain ⟨r, hr', _, hk⟩ := hraw.1.1
        have := hk.len
        have := (hrok r hr').ar2
        omega
      refine ⟨(by decide : 1 ≤ sizeLine), fun p4 np4 => ?_⟩
      have m4 : Mv [] H3 (upd H3 p4 (.tup [.ref p3])) := .new np4
      have e4 : SqT K (upd H3 p4 (.tup [.ref p3])) p4 [.ref p3] := .inl (.inl upd_same)
      generalize upd H3 p4 (.tup [.ref p3]) = H4 at m4 e4 ⊢
      refine rd_cat ((m3.trans m4).sqT e2) e4 (by show 3 ≤ sizeLine; decide) fun p5 H5 m5 e5 => ?_
      have m15 := m2.trans (m3.trans (m4.trans m5))
      refine ⟨.ref a, rfl, 3, rfl, rd_slT (m15.sqT ha) fun p6 H6 m6 e6 => ?_⟩
      rw [show (some 3 : Option Int) = some ((3 : Nat) : Int) from rfl, cut_lo] at e6
      have e6 : SqT K H6 p6 [x3] := e6
      refine rd_cat (m6.sqT e5) e6 (by show 4 ≤ sizeLine; decide) fun p7 H7 m7 e7 => ?_
      have m47 := m4.trans (m5.trans (m6.trans m7))
      exact q (.ref p7) (Sta.wrap (.ask act ts ways)) _ (wrap_raw hraw) (.tup e7 (.cons (.str _) (.cons (k1.mv (m15.trans (m6.trans m7))) (.cons (.tup (m47.sqT h3) (i3.mv m47)) (.cons (k3.mv (m15.trans (m6.trans m7))) .nil))))) trivial (d1.trans (.of (m15.trans (m6.trans m7))))
    | fin word ts =>
      obtain ⟨a, x0, x1, x2, rfl, ha, k0, k1, k2⟩ := hv1.tup3
      cases k0.strI
      obtain ⟨a2, xs2, rfl, ha2, hxs2⟩ := k2.tupI
      refine ⟨.ref a, rfl, rd_ixT ha (by decide) (v := .str "end") rfl ?_⟩
      refine Or.inl ⟨rfl, _, rfl, ?_⟩
      rw [ne_str (by decide +kernel)]
      refine ⟨.ref a, rfl, rd_ixT ha (by decide) (v := .str "end") rfl ?_⟩
      refine Or.inl ⟨rfl, _, rfl, ?_⟩
      rw [ne_str (by decide +kernel)]
      refine ⟨.ref a, rfl, 2, rfl, rd_slT ha fun p2 H2 m2 e2 => ?_⟩
      rw [show (some 2 : Option Int) = some ((2 : Nat) : Int) from rfl, cut_hi] at e2
      have e2 : SqT K H2 p2 [.str "end", x1] := e2
      refine ⟨.ref a, rfl, rd_ixT (m2.sqT ha) (by decide) (v := .ref a2) rfl ?_⟩
      refine ⟨a2, xs2, ts, rfl, m2.sqT ha2, hxs2.mv m2, by have := hraw.1.1.2.1; omega, fun p3 ys H3 h3 i3 m3 => ?_⟩
      refine ⟨(by decide : 1 ≤ sizeLine), fun p4 np4 => ?_⟩
      have m4 : Mv [] H3 (upd H3 p4 (.tup [.ref p3])) := .new np4
      have e4 : SqT K (upd H3 p4 (.tup [.ref p3])) p4 [.ref p3] := .inl (.inl upd_same)
      generalize upd H3 p4 (.tup [.ref p3]) = H4 at m4 e4 ⊢
      refine rd_cat ((m3.trans m4).sqT e2) e4 (by show 3 ≤ sizeLine; decide) fun p5 H5 m5 e5 => ?_
      have m15 := m2.trans (m3.trans (m4.trans m5))
      refine ⟨.ref a, rfl, 3, rfl, rd_slT (m15.sqT ha) fun p6 H6 m6 e6 => ?_⟩
      rw [show (some 3 : Option Int) = some ((3 : Nat) : Int) from rfl, cut_lo] at e6
      have e6 : SqT K H6 p6 [] := e6
      refine rd_cat (m6.sqT e5) e6 (by show 3 ≤ sizeLine; decide) fun p7 H7 m7 e7 => ?_
      have m47 := m4.trans (m5.trans (m6.trans m7))
      exact q (.ref p7) (Sta.wrap (.fin word ts)) _ (wrap_raw hraw) (.tup e7 (.cons (.str _) (.cons (k1.mv (m15.trans (m6.trans m7))) (.cons (.tup (m47.sqT h3) (i3.mv m47)) .nil)))) trivial (d1.trans (.of (m15.trans (m6.trans m7))))
end
end Fm
namespace Fm
open PySem PySem.Spec PyProof.Rows L2 SlX
local macro_rules | `(tactic| walk_at "nn") => `(tactic| dsimp only [tC, tNil, tCons, tCB, tCall, gName, tSeq, tAsg, tPar, tDrop, tRet])
local macro_rules | `(tactic| walk_at "nc") => `(tactic| dsimp only [tC, tNil, tCons, tCB, tCall])
theorem put_rows (d l l' : Addr) (many given : Int) : putK (codeKv d l many given) (.inr "rows") (.ref l') = codeKv d l' many given := by
  unfold putK
  rw [if_pos (List.any_eq_true.mpr ⟨(.inr "rows", .ref l), by simp [codeKv], by simp⟩)]
  unfold codeKv
  simp only [List.map_cons, List.map_nil]
  rw [if_neg (by decide +kernel), if_neg (by decide +kernel), if_neg (by decide +kernel), if_pos trivial]
theorem put_given (d l : Addr) (many given g : Int) : putK (codeKv d l many given) (.inr "given") (.int g) = codeKv d l many g := by
  unfold putK
  rw [if_pos (List.any_eq_true.mpr ⟨(.inr "given", .int given), by simp [codeKv], by simp⟩)]
  unfold codeKv
  simp only [List.map_cons, List.map_nil]
  rw [if_neg (by decide +kernel), if_neg (by decide +kernel), if_pos trivial, if_neg (by decide +kernel)]
theorem put_many (d l : Addr) (many given m : Int) : putK (codeKv d l many given) (.inr "many") (.int m) = codeKv d l m given := by
  unfold putK
  rw [if_pos (List.any_eq_true.mpr ⟨(.inr "many", .int many), by simp [codeKv], by simp⟩)]
  unfold codeKv
  simp only [List.map_cons, List.map_nil]
  rw [if_neg (by decide +kernel), if_pos trivial, if_neg (by decide +kernel), if_neg (by decide +kernel)]
section
variable {P : Program} {w : World} {K : PySem.W.Frag} {mg : Str → Option Value} {base : Heap}
theorem ok__law_deep_code (T : TX K mg) {k : Nat} : FnOk P w K mg base CX0 (k + 8) T.d__law_deep_code.f T.d__law_deep_code.fd P__law_deep_code (sp_deepCode K) := by
  have G__law_code : FnOk P w K mg base CX0 7 T.d__law_code.f T.d__law_code.fd P__law_code (sp_code K) := ok__law_code T
  have G__law_nested : FnOk P w K mg base CX0 2 T.d__law_nested.f T.d__law_nested.fd P__law_nested (sp_nested K) := ok__law_nested T
  refine T.d__law_deep_code.F.ok sc__law_deep_code (fun vs H Q E h => ?_) (fun cdv A outer s H vs Q E hr h => ?_)
  · obtain ⟨_, _, _, _, _, rfl, _⟩ := h
    rfl
  · obtain ⟨b, d, zs, places, many, rfl, hB, hA, hD, h0, h1, hm0, hm1, q⟩ := h
    have hu1 := hu1_of hr
    refine ⟨_, (pss_cons (ps_set (i := 4) sc__law_deep_code.nd rfl (Or.inl rfl) (pe_call G__law_code (hr.mono (by omega)) rfl T.d__law_code.g T.d__law_code.F.kp T.d__law_code.b .nil pass0 (pa_cons (pv 0) (pa_cons (pv 1) (pa_cons (pv 2) (pa_cons (pv 3) pa_nil)))))) (pss_cons (ps_dput hu1 (pv 4) pe_str (pe_lc (own := [("_law_row", 5)]) (g := gName 5) (by rfl) sc__law_deep_code.nd (pi_seq (pe_dget hu1 (pv 4) pe_str (fun _ _ => rfl))) (blkOk_by (own := [("_law_row", 5)]) (N := N__law_deep_code) (sc := defScope s__law_deep_code) (by decide +kernel)) (fun _ _ _ _ _ => pg_name (i := 5) sc__law_deep_code.nd rfl (Or.inl rfl)) (fun _ _ _ _ _ => pts_nil) (fun _ _ _ _ _ => (pe_call G__law_nested (hr.mono (by omega)) rfl T.d__law_nested.g T.d__law_nested.F.kp T.d__law_nested.b .nil pass0 (pa_cons (pv 0) (pa_cons (pv 5) pa_nil))))) rfl) (pss_one (ps_ret (pv 4))))), ?_⟩
    refine ⟨.ref b, rfl, .ref d, rfl, .int places, rfl, .int many, rfl, b, d, zs, places, many, rfl, hB, hA, hD, h0, h1, hm0, hm1, fun c given sts H1 hC nc hl hraw g0 g1 d1 => ?_⟩
    obtain ⟨l, vs, hc, hlv, hR⟩ := hC
    have hB1 := d1.bag hB
    have hcb : c ≠ b := hB.fneq nc
    have hvl : vs.length = sts.length := by
      have := hR.1.length
      rwa [List.length_map] at this
    have hlb := hB1.ne_sta hlv hR.1
    refine ⟨.ref c, rfl, c, .ref l, rfl, Or.inl ⟨_, .inr "rows", .inl hc, rfl, (code_rows d l many given).symm⟩, l, rfl, Or.inl ⟨⟨_, .inl (.inl hlv)⟩, fun D nD => ?_⟩⟩
    have hDb : D ≠ b := hB1.fneq nD
    refine lc_list (K := K) (a := l) (xs := vs) (fun i H2 => ∃ (ws : List V) (sts2 : List Sta), H2 D = some (.lst ws) ∧ Rws K H2 ws sts2 ∧ sts2.length = i ∧ (∀ st ∈ sts2, st.rw (zs.map (·.r)) many places ∧ st.dp 2) ∧ Dr b H1 H2)
      ⟨[], [], upd_same, ⟨Ims.nil, fun i v st h1 => by simp at h1⟩, rfl, by simp, Dr.new nD⟩ (fun i H2 _ h2 => ?_) (fun i x H2 hx h2 => ?_) (fun H2 h2 => ?_)
    · obtain ⟨_, _, _, _, _, _, d2⟩ := h2
      exact .inl (.inl (d2.get hlb hlv))
    · obtain ⟨ws, sts2, e2, R2, l2, o2, d2⟩ := h2
      have hR2 := hR.dr d2 hB1
      obtain ⟨dd, hdd, him⟩ := hR2.1.get hx
      rw [List.getElem?_map] at hdd
      obtain ⟨st, hst, rfl⟩ := Option.map_eq_some_iff.mp hdd
      have hi := (List.getElem?_eq_some_iff.mp hst).1
      have hB2 := d2.bag hB1
      refine ⟨rfl, .ref b, rfl, x, rfl, b, x, st, zs.map (·.r), many, places, rfl, hB2, him, hR2.2 i x st hx hst, hraw st (List.mem_of_getElem? hst), hD.ok, fun v' st' H3 hok3 him3 hpl3 d3 => ?_⟩
      have e3 := d3.get hDb e2
      refine ⟨_, e3, ?_, ws ++ [v'], sts2 ++ [st'], upd_same, ?_, by simp [l2], ?_, (d2.trans d3).wr nD⟩
      · rw [R2.1.length, List.length_map, l2]
        exact small1000 (by omega)
      · exact ((R2.dr d3 hB2).snoc him3 hpl3).mv (Mv.set (S := [D]) e3 (by simp)) (no_frz e3 (fun _ _ z => by cases z))
      · intro y hy
        rcases List.mem_append.mp hy with hy | hy
        · exact o2 y hy
        · rw [List.mem_singleton.mp hy]
          exact hok3
    obtain ⟨ws, sts2, e2, R2, l2, o2, d2⟩ := h2
    have hc2 : H2 c = some (.dK (codeKv d l many given)) := d2.get hcb hc
    refine ⟨.ref c, rfl, c, _, rfl, Or.inl ⟨_, .inr "rows", hc2, rfl, (by decide : 4 < sizeLine), rfl⟩, ?_⟩
    rw [put_rows]
    have hDc : D ≠ c := by
      rintro rfl
      rw [hc] at nD
      cases nD
    refine ⟨.ref c, rfl, q c D given sts2 _ ⟨ws, upd_same, by rw [upd_ne hDc]; exact e2, ?_⟩ nc (d1.free hB nD) (by omega) o2 g0 g1 ((d1.trans d2).wr nc)⟩
    exact R2.mv (Mv.putD hc2) (no_frz hc2 (fun _ _ z => by cases z))
end
end Fm
/-! a code with something otherwise -/
namespace Fm
open PySem PySem.Spec PyProof.Rows L2 SlX
local macro_rules | `(tactic| walk_at "nn") => `(tactic| dsimp only [tC, tNil, tCons, tCB, tCall, gName, tSeq, tAsg, tPar, tDrop, tRet])
local macro_rules | `(tactic| walk_at "nc") => `(tactic| dsimp only [tC, tNil, tCons, tCB, tCall])
theorem over_mono {many many' : Int} (hm : many ≤ many') {t : Tm} (h : TmOver many t) : TmOver many' t := ⟨Tm.ok_mono (fun i hi => ⟨hi.1, by omega⟩) t h.1, h.2⟩
theorem way_mono {r : ActR} {many many' places places' : Int} (hm : many ≤ many') (hp : places ≤ places') {x : Str × List Int × Int} (h : WayOk r many places x) : WayOk r many' places' x := by
  obtain ⟨i, h1, h2, h3, h4, h5, h6⟩ := h
  exact ⟨i, h1, h2, h3, fun j hj => ⟨(h4 j hj).1, by have := (h4 j hj).2; omega⟩, h5, by omega⟩
theorem sta_mono {rs : List ActR} {many many' places places' : Int} (hm : many ≤ many') (hp : places ≤ places') : ∀ {st : Sta}, st.rw rs many places → st.rw rs many' places'
  | .set _ _, ⟨⟨⟨h1, h2, h3⟩, h4, h5⟩, h6⟩ => ⟨⟨⟨h1, h2, fun c hc => ⟨(h3 c hc).1, by have := (h3 c hc).2.1; omega, over_mono hm (h3 c hc).2.2⟩⟩, h4, by omega⟩, h6⟩
  | .ask _ _ _, ⟨⟨r, hr, h1, h2⟩, h6⟩ => ⟨⟨r, hr, h1, ⟨h2.len, fun t ht => over_mono hm (h2.ts t ht), h2.pm, fun x hx => way_mono hm hp (h2.ways x hx)⟩⟩, h6⟩
  | .fin _ _, ⟨⟨h1, h2, h3⟩, h6⟩ => ⟨⟨h1, h2, fun t ht => over_mono hm (h3 t ht)⟩, h6⟩
theorem Ims.set {K : PySem.W.Frag} {H : Hp} : ∀ {ds : List PyData} {vs : List V} {v : V} {d : PyData} (i : Nat), Ims K H vs ds → Im K H v d → Ims K H (vs.set i v) (ds.set i d)
  | [], _, _, _, _, h, _ => by rw [h.nilD]; exact .nil
  | d :: ds, _, _, _, 0, h, hv => by
    obtain ⟨v, vs', rfl, h1, h2⟩ := h.invD
    exact .cons hv h2
  | d :: ds, _, _, _, i + 1, h, hv => by
    obtain ⟨v, vs', rfl, h1, h2⟩ := h.invD
    exact .cons h1 (Ims.set i h2 hv)
theorem Rws.set {K : PySem.W.Frag} {H : Hp} {vs : List V} {sts : List Sta} {v : V} {st : Sta} (i : Nat) (h : Rws K H vs sts) (hv : Im K H v st.d) (hp : st.pl K H v) : Rws K H (vs.set i v) (sts.set i st) := by
  refine ⟨by rw [List.map_set]; exact h.1.set i hv, fun j v' st' h1 h2 => ?_⟩
  by_cases e : i = j
  · subst e
    rw [List.getElem?_set_self' ] at h1 h2
    obtain ⟨_, _, rfl⟩ := Option.map_eq_some_iff.mp h1
    obtain ⟨_, _, rfl⟩ := Option.map_eq_some_iff.mp h2
    exact hp
  · rw [List.getElem?_set_ne e] at h1 h2
    exact h.2 j v' st' h1 h2
theorem mem_set_or {α : Type} {xs : List α} {i : Nat} {a y : α} (h : y ∈ xs.set i a) : y ∈ xs ∨ y = a := List.mem_or_eq_of_mem_set h
theorem ixN_at {n : Nat} {i : Int} (h0 : 0 ≤ i) (h1 : i < n) : ixN n i = some i.toNat := by
  obtain ⟨j, rfl⟩ := Int.eq_ofNat_of_zero_le h0
  exact Evl.ixN_nat (by omega)
theorem map_set_same {α β : Type} {f : α → β} {xs : List α} {i : Nat} {x y : α} (h : xs[i]? = some x) (e : f y = f x) : (xs.set i y).map f = xs.map f := by
  rw [List.map_set, e]
  refine List.ext_getElem? fun j => ?_
  by_cases hj : i = j
  · subst hj
    rw [List.getElem?_set_self', List.getElem?_map, h]
    rfl
  · rw [List.getElem?_set_ne hj]
theorem ask_set {r : ActR} {many places g : Int} {act : Str} {ts : List Tm} {ways : List (Str × List Int × Int)} {i : Nat} {x : Str × List Int × Int} (hn : (r.outs.map (·.1)).Nodup) (h : AskOk r many places ts ways) (ho : (Sta.ask act ts ways).ord = .ask act ts ways) (hx : ways[i]? = some x) (g0 : 0 ≤ g) (g1 : g < places) :
    AskOk r many places ts (ways.set i (x.1, x.2.1, g)) ∧ (Sta.ask act ts (ways.set i (x.1, x.2.1, g))).ord = .ask act ts (ways.set i (x.1, x.2.1, g)) := by
  have key : (ways.set i (x.1, x.2.1, g)).map (·.1) = ways.map (·.1) := map_set_same hx rfl
  refine ⟨⟨h.len, h.ts, by rw [key]; exact h.pm, fun y hy => ?_⟩, ?_⟩
  · rcases mem_set_or hy with hy | rfl
    · exact h.ways y hy
    · obtain ⟨j, h1, h2, h3, h4, _, _⟩ := h.ways x (List.mem_of_getElem? hx)
      exact ⟨j, h1, h2, h3, h4, g0, g1⟩
  · have e : srt leS (·.1) ways = ways := by
      have : Sta.ask act ts (srt leS (·.1) ways) = .ask act ts ways := ho
      injection this
    show Sta.ask act ts (srt leS (·.1) _) = _
    congr 1
    refine (srt_one totS ?_ (.refl _) ?_).symm
    · rw [key]
      exact h.pm.nodup_iff.mpr hn
    · have : (ways.map (·.1)).Pairwise fun a b => leS a b = true := by
        rw [← e]
        exact List.pairwise_map.mpr (srt_pw totS ways)
      rw [← key] at this
      exact List.pairwise_map.mp this
/-- what stands between the changes -/
def CMid (K : PySem.W.Frag) (H : Hp) (b c c' d l : Addr) (rs : List ActR) (many : Int) (sts : List Sta) (n at_ : Int) (f : Nat) : L2.St → Hp → Prop := fun σ H' => ∃ (r : Addr) (vs' : List V) (sts' : List Sta) (many' given' : Int) (y6 y7 : Option V),
  σ = [some (.ref b), some (.ref c), some (.ref c'), some (.int n), some (.ref r), some (.int at_), y6, y7] ∧ H' c' = some (.dK (codeKv d l many' given')) ∧ H' r = some (.lst vs') ∧ H r = none ∧ Rws K H' vs' sts' ∧
  sts.length ≤ sts'.length ∧ sts'.length ≤ sts.length + f ∧ (∀ st ∈ sts', st.rw rs many' sts'.length ∧ st.dp 2) ∧ many ≤ many' ∧ many' ≤ many + 1 ∧ 0 ≤ given' ∧ given' ≤ many' ∧ Dr b H H'
theorem CMid.mono {K : PySem.W.Frag} {H H' : Hp} {b c c' d l : Addr} {rs : List ActR} {many : Int} {sts : List Sta} {n at_ : Int} {f g : Nat} {σ : L2.St} (h : CMid K H b c c' d l rs many sts n at_ f σ H') (hf : f ≤ g) : CMid K H b c c' d l rs many sts n at_ g σ H' := by
  obtain ⟨r, vs', sts', many', given', y6, y7, h1, h2, h3, h4, h5, h6, h7, h8⟩ := h
  exact ⟨r, vs', sts', many', given', y6, y7, h1, h2, h3, h4, h5, h6, by omega, h8⟩
def sp_nearC (K : PySem.W.Frag) : Sp := fun vs H Q _ => ∃ (b c d l : Addr) (rs : List ActR) (many given : Int) (sts : List Sta), vs = [.ref b, .ref c] ∧ Bag H b ∧ LCodeL K H c d l many given sts ∧ 0 < sts.length ∧ sts.length ≤ 900 ∧ (∀ st ∈ sts, st.rw rs many sts.length ∧ st.dp 2) ∧ (∀ r ∈ rs, r.ok ∧ (r.outs.map (·.1)).Nodup) ∧
  0 ≤ given ∧ given ≤ many ∧ 1 ≤ many ∧ many ≤ 100 ∧
  ∀ c' l' (many' given' : Int) (sts' : List Sta) H', LCodeL K H' c' d l' many' given' sts' → H c' = none → H l' = none → 0 < sts'.length → sts'.length ≤ sts.length + 1 → (∀ st ∈ sts', st.rw rs many' sts'.length ∧ st.dp 2) → many ≤ many' → many' ≤ many + 1 → 0 ≤ given' → given' ≤ many' → Dr b H H' → Q (.ref c') H'
section
variable {P : Program} {w : World} {K : PySem.W.Frag} {mg : Str → Option Value} {base : Heap}
theorem ok__law_near (T : TX K mg) {k : Nat} : FnOk P w K mg base CX0 (k + 2) T.d__law_near.f T.d__law_near.fd P__law_near (sp_nearC K) := by
  have G__law_take : FnOk P w K mg base CX0 1 T.d__law_take.f T.d__law_take.fd P__law_take sp_take := ok__law_take T
  refine T.d__law_near.F.ok sc__law_near (fun vs H Q E h => ?_) (fun cdv A outer s H vs Q E hr h => ?_)
  · obtain ⟨_, _, _, _, _, _, _, _, rfl, _⟩ := h
    rfl
  · obtain ⟨b, c, d, l, rs, many, given, sts, rfl, hB, hC, hp0, hp1, hst, hrs, g0, g1, hm0, hm1, q⟩ := h
    have hu1 := hu1_of hr
    have hu64 := hr.units
    refine ⟨_, (pss_cons (ps_par (i := 2) (j := 3) rfl sc__law_near.nd rfl rfl (by decide) rfl rfl (pa_cons (pe_callTy (r := rDictG K) (call_dictG rfl) (by rfl) T.b_dict bt_dict (pa_cons (pv 1) pa_nil)) (pa_cons (pe_call G__law_take (hr.mono (by omega)) rfl T.d__law_take.g T.d__law_take.F.kp T.d__law_take.b .nil pass0 (pa_cons (pv 0) (pa_cons pe_int pa_nil))) pa_nil)) rfl) (pss_cons (ps_set (i := 4) sc__law_near.nd rfl (Or.inl rfl) (pe_callTy (r := rListG K) (call_listA rfl) (by rfl) T.b_list bt_list (pa_cons (pe_dget hu1 (pv 1) pe_str (fun _ _ => rfl)) pa_nil))) (pss_cons (ps_set (i := 5) sc__law_near.nd rfl (Or.inl rfl) (pe_call G__law_take (hr.mono (by omega)) rfl T.d__law_take.g T.d__law_take.F.kp T.d__law_take.b .nil pass0 (pa_cons (pv 0) (pa_cons (pe_callB (r := rLenG K) call_lenG (by rfl) T.b_len bt_len (pa_cons (pv 4) pa_nil)) pa_nil)))) (Evl.pss_cut (ps_if (pt_cmpR (r := rEqG K) (op_eqG hu64) (pv 3) pe_int (nomark _)) (pss_one (ps_dput hu1 (pv 2) pe_str (pe_op op_mod (pe_callTy call_int1 (by rfl) T.b_int bt_int (pa_cons (pe_op (r := rAddG K) op_addG (pe_dget hu1 (pv 1) pe_str (fun _ _ => rfl)) pe_int) pa_nil)) (pe_op (r := rAddG K) op_addG (pe_dget hu1 (pv 1) pe_str (fun _ _ => rfl)) pe_int)) rfl)) pss_nil) (Evl.pss_cut (ps_if (pt_cmpR (r := rEqG K) (op_eqG hu64) (pv 3) pe_int (nomark _)) (pss_one (ps_dput hu1 (pv 2) pe_str (pe_op (r := rAddG K) op_addG (pe_dget hu1 (pv 1) pe_str (fun _ _ => rfl)) pe_int) rfl)) pss_nil) (Evl.pss_cut (ps_if (pt_cmpR (r := rEqG K) (op_eqG hu64) (pv 3) pe_int (nomark _)) (pss_one (ps_asg (pe_tup (pa_cons pe_str (pa_cons pe_str (pa_cons (pe_tup (pa_cons pe_int pa_nil)) pa_nil)))) (pg_sub (pv 4) (pv 5) set_list))) pss_nil) (Evl.pss_cut (ps_if (pt_cmpR (r := rEqG K) (op_eqG hu64) (pv 3) pe_int (nomark _)) (pss_one (ps_set (i := 4) sc__law_near.nd rfl (Or.inl rfl) (pe_op (r := rAddG K) op_addG (pv 4) (pe_lst (pa_cons (pe_tup (pa_cons pe_str (pa_cons pe_str (pa_cons (pe_tup pa_nil) pa_nil)))) pa_nil))))) pss_nil) (Evl.pss_cut (ps_if (PW.pt (pw_and (pt_cmpR op_gt (pv 3) pe_int (nomark _)) (pw_and1 (pt_cmpR (r := rEqG K) (op_eqG hu64) (pe_ix (r := rIx K) ix_seq (pe_ix (r := rIx K) ix_seq (pv 4) (pv 5) (fun _ _ => rfl)) pe_int (fun _ _ => rfl)) pe_str (nomark _))))) (pss_one (ps_asg (pe_op (r := rAddG K) op_addG (pe_slice (r := rSlG K) sl_G (pe_ix (r := rIx K) ix_seq (pv 4) (pv 5) (fun _ _ => rfl)) po_none (po_some pe_int)) (pe_tup (pa_cons (pe_op op_mod (pe_callTy call_int1 (by rfl) T.b_int bt_int (pa_cons (pe_op (r := rAddG K) op_addG (pe_ix (r := rIx K) ix_seq (pe_ix (r := rIx K) ix_seq (pv 4) (pv 5) (fun _ _ => rfl)) pe_int (fun _ _ => rfl)) pe_int) pa_nil)) (pe_callB (r := rLenG K) call_lenG (by rfl) T.b_len bt_len (pa_cons (pv 4) pa_nil))) pa_nil))) (pg_sub (pv 4) (pv 5) set_list))) pss_nil) (Evl.pss_cut (ps_if (PW.pt (pw_and (pt_cmpR op_gt (pv 3) pe_int (nomark _)) (pw_and1 (pt_cmpR (r := rEqG K) (op_eqG hu64) (pe_ix (r := rIx K) ix_seq (pe_ix (r := rIx K) ix_seq (pv 4) (pv 5) (fun _ _ => rfl)) pe_int (fun _ _ => rfl)) pe_str (nomark _))))) (pss_cons (ps_par (i := 6) (j := 7) rfl sc__law_near.nd rfl rfl (by decide) rfl rfl (pa_cons (pe_callTy (r := rListG K) (call_listA rfl) (by rfl) T.b_list bt_list (pa_cons (pe_ix (r := rIx K) ix_seq (pe_ix (r := rIx K) ix_seq (pv 4) (pv 5) (fun _ _ => rfl)) pe_int (fun _ _ => rfl)) pa_nil)) (pa_cons (pe_call G__law_take (hr.mono (by omega)) rfl T.d__law_take.g T.d__law_take.F.kp T.d__law_take.b .nil pass0 (pa_cons (pv 0) (pa_cons (pe_callB (r := rLenG K) call_lenG (by rfl) T.b_len bt_len (pa_cons (pe_ix (r := rIx K) ix_seq (pe_ix (r := rIx K) ix_seq (pv 4) (pv 5) (fun _ _ => rfl)) pe_int (fun _ _ => rfl)) pa_nil)) pa_nil))) pa_nil)) rfl) (pss_cons (ps_asg (pe_op (r := rAddG K) op_addG (pe_slice (r := rSlG K) sl_G (pe_ix (r := rIx K) ix_seq (pv 6) (pv 7) (fun _ _ => rfl)) po_none (po_some pe_int)) (pe_tup (pa_cons (pe_op op_mod (pe_callTy call_int1 (by rfl) T.b_int bt_int (pa_cons (pe_op (r := rAddG K) op_addG (pe_ix (r := rIx K) ix_seq (pe_ix (r := rIx K) ix_seq (pv 6) (pv 7) (fun _ _ => rfl)) pe_int (fun _ _ => rfl)) pe_int) pa_nil)) (pe_callB (r := rLenG K) call_lenG (by rfl) T.b_len bt_len (pa_cons (pv 4) pa_nil))) pa_nil))) (pg_sub (pv 6) (pv 7) set_list)) (pss_one (ps_asg (pe_op (r := rAddG K) op_addG (pe_slice (r := rSlG K) sl_G (pe_ix (r := rIx K) ix_seq (pv 4) (pv 5) (fun _ _ => rfl)) po_none (po_some pe_int)) (pe_tup (pa_cons (pe_callTy (r := rTupOf K) call_tupG (by rfl) T.b_tuple bt_tuple (pa_cons (pv 6) pa_nil)) pa_nil))) (pg_sub (pv 4) (pv 5) set_list))))) pss_nil) (pss_cons (ps_dput hu1 (pv 2) pe_str (pv 4) rfl) (pss_one (ps_ret (pv 2))))))))))))), ?_⟩
    obtain ⟨vs, hc, hl, hR⟩ := id hC
    have hvl : vs.length = sts.length := by
      have := hR.1.length
      rwa [List.length_map] at this
    have hlb := hB.ne_sta hl hR.1
    refine ⟨.ref c, rfl, Or.inr ⟨c, _, rfl, hc, fun c' nc' => ?_⟩⟩
    have d1 : Dr b H (upd H c' (.dK (codeKv d l many given))) := .new nc'
    have ec' : upd H c' (.dK (codeKv d l many given)) c' = some (.dK (codeKv d l many given)) := upd_same
    generalize upd H c' (.dK (codeKv d l many given)) = H1 at d1 ec' ⊢
    have hB1 := d1.bag hB
    have hcb' : c' ≠ b := hB.fneq nc'
    refine ⟨.ref b, rfl, b, 7, rfl, hB1, by decide, by decide, fun n H2 n0 n1 d2 => ?_⟩
    have d02 := d1.trans d2
    have hB2 := d02.bag hB
    have kc : ∀ {H'}, Dr b H H' → H' c = some (.dK (codeKv d l many given)) := fun m => m.getK hB hc (fun _ z => by cases z)
    have kl : ∀ {H'}, Dr b H H' → H' l = some (.lst vs) := fun m => m.get hlb hl
    refine ⟨_, _, rfl, ?_⟩
    refine ⟨.ref c, rfl, c, .ref l, rfl, Or.inl ⟨_, .inr "rows", .inl (kc d02), rfl, (code_rows d l many given).symm⟩, Or.inl ⟨l, vs, rfl, .inl (.inl (.inl (kl d02))), fun r nr => ?_⟩⟩
    have d3 : Dr b H (upd H2 r (.lst vs)) := d02.trans (.new nr)
    have er : upd H2 r (.lst vs) r = some (.lst vs) := upd_same
    have hrb : r ≠ b := hB2.fneq nr
    have nrH : H r = none := d02.free hB nr
    have ec2 := d2.get hcb' ec'
    have hcr : c' ≠ r := ne_of_none ec2 nr
    have ec3 : upd H2 r (.lst vs) c' = some (.dK (codeKv d l many given)) := same_new nr _ _ ec2
    generalize upd H2 r (.lst vs) = H3 at d3 er ec3 ⊢
    have hB3 := d3.bag hB
    refine ⟨.ref b, rfl, .ref r, rfl, Or.inl ⟨r, vs, rfl, .inl (.inl (.inl er)), ?_⟩⟩
    refine ⟨b, _, rfl, hB3, by omega, by omega, fun at_ H4 a0 a1 d4 => ?_⟩
    have d04 := d3.trans d4
    have start : CMid K H b c c' d l rs many sts n at_ 0 [some (.ref b), some (.ref c), some (.ref c'), some (.int n), some (.ref r), some (.int at_), none, none] H4 :=
      ⟨r, vs, sts, many, given, _, _, rfl, d4.get hcb' ec3, d4.get hrb er, nrH, hR.dr d04 hB, Nat.le_refl _, Nat.le_refl _, hst, Int.le_refl _, by omega, g0, g1, d04⟩
    have dgc : ∀ {H'} (f : Str) (v : V), Dr b H H' → valV (codeKv d l many given) (.inr f) = some v → DGet H' c (.str f) (some v) := fun {H'} f v m e => Or.inl ⟨_, .inr f, .inl (kc m), rfl, e.symm⟩
    refine ⟨CMid K H b c c' d l rs many sts n at_ 0, ?_, fun σ H5 h5 => ?_⟩
    · refine ⟨.int n, rfl, Or.inl ⟨rfl, _, rfl, ?_⟩⟩
      rw [vint_eq]
      refine ite2 (fun e => ?_) (fun e => start)
      obtain ⟨r, vs', sts', many', given', y6, y7, h1, h2, h3, h4, h5, h6, h7, h8, h9, h10, h11, h12, h13⟩ := start
      refine ⟨.ref c, rfl, c, .int given, rfl, dgc "given" _ h13 (code_given d l many given), Or.inl ⟨_, _, rfl, rfl, Or.inl ⟨_, rfl, ?_⟩⟩⟩
      refine ⟨.ref c, rfl, c, .int many, rfl, dgc "many" _ h13 (code_many d l many given), Or.inl ⟨_, _, rfl, rfl, ?_⟩⟩
      refine ⟨_, _, rfl, rfl, (by omega : (0 : Int) < many + 1), ?_⟩
      refine ⟨.ref c', rfl, c', _, rfl, Or.inl ⟨_, .inr "given", h2, rfl, (by decide : 4 < sizeLine), rfl⟩, ?_⟩
      rw [put_given]
      have hcr' : r ≠ c' := by
        rintro rfl
        rw [h3] at h2
        cases h2
      have := Int.emod_lt_of_pos (given + 1) (by omega : (0 : Int) < many + 1)
      refine ⟨r, vs', sts', many', (given + 1) % (many + 1), y6, y7, h1, upd_same, by rw [upd_ne hcr']; exact h3, h4, h5.mv (Mv.putD h2) (no_frz h2 (fun _ _ z => by cases z)), h6, h7, h8, h9, h10, Int.emod_nonneg _ (by omega), by omega, h13.wr nc'⟩
    have small : ∀ {l : Nat}, l ≤ 1000 → l < sizeLine := fun h => small1000 h
    have nOut : Nm "out" := by decide +kernel
    -- a row put otherwise
    have setR : ∀ {f : Nat} {r : Addr} {vs' : List V} {sts' : List Sta} {many' given' : Int} {y6 y7 : Option V} {H' H'' : Hp} {v : V} {st : Sta}, H' c' = some (.dK (codeKv d l many' given')) → H' r = some (.lst vs') → H r = none → Rws K H' vs' sts' → sts.length ≤ sts'.length → sts'.length ≤ sts.length + f →
        (∀ st ∈ sts', st.rw rs many' sts'.length ∧ st.dp 2) → many ≤ many' → many' ≤ many + 1 → 0 ≤ given' → given' ≤ many' → Dr b H H' → Dr b H' H'' → H'' r = some (.lst vs') → Im K H'' v st.d → st.pl K H'' v → st.rw rs many' sts'.length ∧ st.dp 2 →
        CMid K H b c c' d l rs many sts n at_ f [some (.ref b), some (.ref c), some (.ref c'), some (.int n), some (.ref r), some (.int at_), y6, y7] (upd H'' r (.lst (vs'.set at_.toNat v))) := fun {f r vs' sts' many' given' y6 y7 H' H'' v st} h2 h3 h4 h5 h6 h7 h8 h9 h10 h11 h12 h13 m e hv hp hok => by
      have hB' := h13.bag hB
      have hcr' : c' ≠ r := by
        rintro rfl
        rw [h3] at h2
        cases h2
      refine ⟨r, _, sts'.set at_.toNat st, many', given', y6, y7, rfl, by rw [upd_ne hcr']; exact m.get hcb' h2, upd_same, h4, ((h5.dr m hB').set _ hv hp).mv (Mv.set (S := [r]) e (by simp)) (no_frz e (fun _ _ z => by cases z)), by rw [List.length_set]; exact h6, by rw [List.length_set]; exact h7, fun y hy => ?_, h9, h10, h11, h12, (h13.trans m).wr h4⟩
      rw [List.length_set]
      rcases mem_set_or hy with hy | rfl
      · exact h8 y hy
      · exact hok
    refine ⟨CMid K H b c c' d l rs many sts n at_ 0, ?_, fun σ H6 h6 => ?_⟩
    · have h5' := h5
      obtain ⟨r, vs', sts', many', given', y6, y7, rfl, h2, h3, h4, h5, h6, h7, h8, h9, h10, h11, h12, h13⟩ := h5
      refine ⟨.int n, rfl, Or.inl ⟨rfl, _, rfl, ?_⟩⟩
      rw [vint_eq]
      refine ite2 (fun e => ?_) (fun e => h5')
      refine ⟨.ref c, rfl, c, .int many, rfl, dgc "many" _ h13 (code_many d l many given), Or.inl ⟨_, _, rfl, rfl, ?_⟩⟩
      refine ⟨.ref c', rfl, c', _, rfl, Or.inl ⟨_, .inr "many", h2, rfl, (by decide : 4 < sizeLine), rfl⟩, ?_⟩
      rw [put_many]
      have hcr' : r ≠ c' := by
        rintro rfl
        rw [h3] at h2
        cases h2
      exact ⟨r, vs', sts', many + 1, given', y6, y7, rfl, upd_same, by rw [upd_ne hcr']; exact h3, h4, h5.mv (Mv.putD h2) (no_frz h2 (fun _ _ z => by cases z)), h6, h7, fun st hst' => ⟨sta_mono h10 (Int.le_refl _) (h8 st hst').1, (h8 st hst').2⟩, by omega, by omega, h11, by omega, h13.wr nc'⟩
    refine ⟨CMid K H b c c' d l rs many sts n at_ 0, ?_, fun σ H7 h7 => ?_⟩
    · have h6' := h6
      obtain ⟨r, vs', sts', many', given', y6, y7, rfl, h2, h3, h4, h5, h6, h7, h8, h9, h10, h11, h12, h13⟩ := h6
      refine ⟨.int n, rfl, Or.inl ⟨rfl, _, rfl, ?_⟩⟩
      rw [vint_eq]
      refine ite2 (fun e => ?_) (fun e => h6')
      have hvl' : vs'.length = sts'.length := by
        have := h5.1.length
        rwa [List.length_map] at this
      refine ⟨(by decide : 1 ≤ sizeLine), fun p np => ?_⟩
      have m1 : Mv [] H6 (upd H6 p (.tup [.int 0])) := .new np
      have e1 : SqT K (upd H6 p (.tup [.int 0])) p [.int 0] := .inl (.inl upd_same)
      generalize upd H6 p (.tup [.int 0]) = Ha at m1 e1 ⊢
      refine ⟨(by decide : 3 ≤ sizeLine), fun p2 np2 => ?_⟩
      have m2 : Mv [] Ha (upd Ha p2 (.tup [.str "end", .str "out", .ref p])) := .new np2
      have e2 : SqT K (upd Ha p2 (.tup [.str "end", .str "out", .ref p])) p2 [.str "end", .str "out", .ref p] := .inl (.inl upd_same)
      change ∃ o, _
      generalize upd Ha p2 (.tup [.str "end", .str "out", .ref p]) = Hb at m2 e2 ⊢
      have m12 := m1.trans m2
      have er' := m12.same _ _ h3
      refine ⟨.ref r, rfl, .int at_, rfl, r, vs', at_, at_.toNat, rfl, rfl, er', ixN_at a0 (by omega), ?_⟩
      refine setR (v := .ref p2) (st := .fin "out" [.var 0]) h2 h3 h4 h5 h6 h7 h8 h9 h10 h11 h12 h13 (.of m12) er' (.tup e2 (.cons (.str _) (.cons (.str _) (.cons (.tup (m2.sqT e1) (.cons (.int _) .nil)) .nil)))) trivial ⟨⟨⟨nOut, by simp, fun t ht => ?_⟩, rfl⟩, fun t ht => ?_⟩
      · rw [List.mem_singleton] at ht
        subst ht
        exact over_dep ⟨by decide, by omega⟩ (by simp [Tm.dep])
      · rw [List.mem_singleton] at ht
        subst ht
        simp [Tm.dep]
    refine ⟨CMid K H b c c' d l rs many sts n at_ 1, ?_, fun σ H8 h8 => ?_⟩
    · have h7' := h7
      obtain ⟨r, vs', sts', many', given', y6, y7, rfl, h2, h3, h4, h5, h6, h7, h8, h9, h10, h11, h12, h13⟩ := h7
      refine ⟨.int n, rfl, Or.inl ⟨rfl, _, rfl, ?_⟩⟩
      rw [vint_eq]
      refine ite2 (fun e => ?_) (fun e => h7'.mono (by decide))
      have hvl' : vs'.length = sts'.length := by
        have := h5.1.length
        rwa [List.length_map] at this
      refine ⟨.ref r, rfl, (by decide : 0 ≤ sizeLine), fun p np => ?_⟩
      have m1 : Mv [] H7 (upd H7 p (.tup [])) := .new np
      have e1 : SqT K (upd H7 p (.tup [])) p [] := .inl (.inl upd_same)
      generalize upd H7 p (.tup []) = Ha at m1 e1 ⊢
      refine ⟨(by decide : 3 ≤ sizeLine), fun p2 np2 => ?_⟩
      have m2 : Mv [] Ha (upd Ha p2 (.tup [.str "end", .str "out", .ref p])) := .new np2
      have e2 : SqT K (upd Ha p2 (.tup [.str "end", .str "out", .ref p])) p2 [.str "end", .str "out", .ref p] := .inl (.inl upd_same)
      generalize upd Ha p2 (.tup [.str "end", .str "out", .ref p]) = Hb at m2 e2 ⊢
      refine ⟨(by decide : 1 ≤ sizeLine), fun p3 np3 => ?_⟩
      have m3 : Mv [] Hb (upd Hb p3 (.lst [.ref p2])) := .new np3
      have e3 : upd Hb p3 (.lst [.ref p2]) p3 = some (.lst [.ref p2]) := upd_same
      generalize upd Hb p3 (.lst [.ref p2]) = Hc at m3 e3 ⊢
      have m13 := m1.trans (m2.trans m3)
      refine rd_catL (m13.same _ _ h3) e3 ?_ fun p4 Hd np4 m4 e4 => ?_
      · rw [hvl', sizeLine_eq]
        show sts'.length + 1 ≤ _
        omega
      have m14 := m13.trans m4
      have hB7 := h13.bag hB
      have e24 := (m3.trans m4).sqT e2
      have e14 := (m2.trans (m3.trans m4)).sqT e1
      refine ⟨p4, vs' ++ [.ref p2], sts' ++ [.fin "out" []], many', given', y6, y7, rfl, m14.same _ _ h2, e4, (h13.trans (.of m13)).free hB np4, (h5.mv0 m14).snoc (v := .ref p2) (st := .fin "out" []) (.tup e24 (.cons (.str _) (.cons (.str _) (.cons (.tup e14 .nil) .nil)))) trivial, by rw [List.length_append]; omega, by rw [List.length_append]; show sts'.length + 1 ≤ _; omega, fun st hst' => ?_, h9, h10, h11, h12, h13.trans (.of m14)⟩
      rw [List.length_append]
      rcases List.mem_append.mp hst' with h | h
      · exact ⟨sta_mono (Int.le_refl _) (by show (sts'.length : Int) ≤ ((sts'.length + 1 : Nat) : Int); omega) (h8 st h).1, (h8 st h).2⟩
      · rw [List.mem_singleton] at h
        subst h
        exact ⟨⟨⟨nOut, by simp, by simp⟩, rfl⟩, by simp [Sta.dp]⟩
    have rowAt : ∀ {vs' : List V} {sts' : List Sta} {H'}, Rws K H' vs' sts' → sts.length ≤ sts'.length → ∃ v st, vs'[at_.toNat]? = some v ∧ sts'[at_.toNat]? = some st ∧ Im K H' v st.d ∧ st.pl K H' v := fun {vs' sts' H'} h hl => by
      have hi : at_.toNat < sts'.length := by omega
      have hvl' : vs'.length = sts'.length := by
        have := h.1.length
        rwa [List.length_map] at this
      have e1 := List.getElem?_eq_getElem (l := vs') (i := at_.toNat) (by omega)
      have e2 := List.getElem?_eq_getElem hi
      obtain ⟨dd, hdd, him⟩ := h.1.get e1
      rw [List.getElem?_map, e2] at hdd
      cases hdd
      exact ⟨_, _, e1, e2, him, h.2 _ _ _ e1 e2⟩
    refine ⟨CMid K H b c c' d l rs many sts n at_ 1, ?_, fun σ H9 h9 => ?_⟩
    · have h8' := h8
      obtain ⟨r, vs', sts', many', given', y6, y7, rfl, h2, h3, h4, h5, h6, h7, h8, h9, h10, h11, h12, h13⟩ := h8
      have hvl' : vs'.length = sts'.length := by
        have := h5.1.length
        rwa [List.length_map] at this
      refine ⟨.int n, rfl, _, _, rfl, rfl, _, rfl, ?_⟩
      cases hn4 : decide ((4 : Int) < n) with
      | false => exact h8'
      | true =>
        obtain ⟨v, st, ev, es, him, hpl⟩ := rowAt h5 h6
        cases st with
        | set chs g =>
          obtain ⟨a, e, zs, rfl, ha, hpt, hzs⟩ := hpl
          refine ⟨.ref r, rfl, .int at_, rfl, rd_ixL (.inl (.inl h3)) a0 (v := .ref a) ev (rd_ixT ha (by decide) (v := .str "set") rfl (Or.inl ⟨rfl, _, rfl, ?_⟩))⟩
          rw [show decide (V.str "set" = V.str "set") = true from decide_eq_true rfl]
          refine ⟨.ref r, rfl, .int at_, rfl, rd_ixL (.inl (.inl h3)) a0 (v := .ref a) ev ⟨2, rfl, rd_slT ha fun p Ha m1 e1 => ?_⟩⟩
          rw [show (some 2 : Option Int) = some ((2 : Nat) : Int) from rfl, cut_hi] at e1
          have e1 : SqT K Ha p [.str "set", .ref e] := e1
          have h3a := m1.same _ _ h3
          refine ⟨.ref r, rfl, .int at_, rfl, rd_ixL (.inl (.inl h3a)) a0 (v := .ref a) ev (rd_ixT (m1.sqT ha) (by decide) (v := .int g) rfl (Or.inl ⟨_, _, rfl, rfl, Or.inl ⟨_, rfl, ?_⟩⟩))⟩
          refine ⟨.ref r, rfl, Or.inl ⟨r, vs', rfl, .inl (.inl (.inl h3a)), ⟨_, _, rfl, rfl, (by omega : (0 : Int) < (vs'.length : Nat)), (by decide : 1 ≤ sizeLine), fun p2 np2 => ?_⟩⟩⟩
          have m2 : Mv [] Ha (upd Ha p2 (.tup [.int ((g + 1) % (vs'.length : Nat))])) := .new np2
          have e2 : SqT K (upd Ha p2 (.tup [.int ((g + 1) % (vs'.length : Nat))])) p2 [.int ((g + 1) % (vs'.length : Nat))] := .inl (.inl upd_same)
          generalize upd Ha p2 (.tup [.int ((g + 1) % (vs'.length : Nat))]) = Hb at m2 e2 ⊢
          refine rd_cat (m2.sqT e1) e2 (by show 3 ≤ sizeLine; decide) fun p3 Hc m3 e3 => ?_
          have e3 : SqT K Hc p3 [.str "set", .ref e, .int ((g + 1) % (vs'.length : Nat))] := e3
          have m13 := m1.trans (m2.trans m3)
          have er' := m13.same _ _ h3
          refine ⟨.ref r, rfl, .int at_, rfl, r, vs', at_, at_.toNat, rfl, rfl, er', ixN_at a0 (by omega), ?_⟩
          have hpt' := hpt.mv m13 (fun q hq => nomatch hq)
          obtain ⟨⟨⟨hch, hg⟩, hord⟩, hdp⟩ := h8 _ (List.mem_of_getElem? es)
          have hpos : (0 : Int) < (vs'.length : Nat) := by omega
          refine setR (v := .ref p3) (st := .set chs ((g + 1) % (vs'.length : Nat))) h2 h3 h4 h5 h6 h7 h8 h9 h10 h11 h12 h13 (.of m13) er' (.tup e3 (.cons (.str _) (.cons (.tup hpt'.sq (hzs.mv m13)) (.cons (.int _) .nil)))) ⟨p3, e, zs, rfl, e3, hpt', hzs.mv m13⟩ ⟨⟨⟨hch, Int.emod_nonneg _ (by omega), by rw [← hvl']; exact Int.emod_lt_of_pos _ hpos⟩, ?_⟩, hdp⟩
          have : Sta.set (srt leZ (·.1) chs) g = .set chs g := hord
          injection this with h _
          show Sta.set (srt leZ (·.1) chs) _ = _
          rw [h]
        | ask act ts ways =>
          obtain ⟨a, x0, x1, x2, x3, rfl, ha, k0, k1, k2, k3⟩ := him.tup4
          cases k0.strI
          refine ⟨.ref r, rfl, .int at_, rfl, rd_ixL (.inl (.inl h3)) a0 (v := .ref a) ev (rd_ixT ha (by decide) (v := .str "ask") rfl (Or.inl ⟨rfl, _, rfl, ?_⟩))⟩
          rw [ne_str (by decide +kernel)]
          exact h8'
        | fin word ts =>
          obtain ⟨a, x0, x1, x2, rfl, ha, k0, k1, k2⟩ := him.tup3
          cases k0.strI
          refine ⟨.ref r, rfl, .int at_, rfl, rd_ixL (.inl (.inl h3)) a0 (v := .ref a) ev (rd_ixT ha (by decide) (v := .str "end") rfl (Or.inl ⟨rfl, _, rfl, ?_⟩))⟩
          rw [ne_str (by decide +kernel)]
          exact h8'
    refine ⟨CMid K H b c c' d l rs many sts n at_ 1, ?_, fun σ H10 h10 => ?_⟩
    · have h9' := h9
      obtain ⟨r, vs', sts', many', given', y6, y7, rfl, h2, h3, h4, h5, h6, h7, h8, h9, h10, h11, h12, h13⟩ := h9
      have hvl' : vs'.length = sts'.length := by
        have := h5.1.length
        rwa [List.length_map] at this
      refine ⟨.int n, rfl, _, _, rfl, rfl, _, rfl, ?_⟩
      cases hn4 : decide ((4 : Int) < n) with
      | false => exact h9'
      | true =>
        obtain ⟨v, st, ev, es, him, hpl⟩ := rowAt h5 h6
        cases st with
        | set chs g =>
          obtain ⟨a, e, zs, rfl, ha, hpt, hzs⟩ := hpl
          refine ⟨.ref r, rfl, .int at_, rfl, rd_ixL (.inl (.inl h3)) a0 (v := .ref a) ev (rd_ixT ha (by decide) (v := .str "set") rfl (Or.inl ⟨rfl, _, rfl, ?_⟩))⟩
          rw [ne_str (by decide +kernel)]
          exact h9'
        | fin word ts =>
          obtain ⟨a, x0, x1, x2, rfl, ha, k0, k1, k2⟩ := him.tup3
          cases k0.strI
          refine ⟨.ref r, rfl, .int at_, rfl, rd_ixL (.inl (.inl h3)) a0 (v := .ref a) ev (rd_ixT ha (by decide) (v := .str "end") rfl (Or.inl ⟨rfl, _, rfl, ?_⟩))⟩
          rw [ne_str (by decide +kernel)]
          exact h9'
        | ask act ts ways =>
          obtain ⟨a, x0, x1, x2, x3, rfl, ha, k0, k1, k2, k3⟩ := him.tup4
          cases k0.strI
          obtain ⟨a3, xs3, rfl, ha3, hxs3⟩ := k3.tupI
          have hl3 := hxs3.length
          rw [List.length_map] at hl3
          obtain ⟨⟨⟨ra, hra, hnm, hask⟩, hord⟩, hdp⟩ := h8 _ (List.mem_of_getElem? es)
          have hwl : ways.length = ra.outs.length := by
            have := hask.pm.length_eq
            rwa [List.length_map, List.length_map] at this
          have o1 := (hrs ra hra).1.o1
          have o6 := (hrs ra hra).1.o6
          have hB9 := h13.bag hB
          have hrb' : r ≠ b := hB.fneq h4
          refine ⟨.ref r, rfl, .int at_, rfl, rd_ixL (.inl (.inl h3)) a0 (v := .ref a) ev (rd_ixT ha (by decide) (v := .str "ask") rfl (Or.inl ⟨rfl, _, rfl, ?_⟩))⟩
          rw [show decide (V.str "ask" = V.str "ask") = true from decide_eq_true rfl]
          refine ⟨.ref r, rfl, .int at_, rfl, rd_ixL (.inl (.inl h3)) a0 (v := .ref a) ev (rd_ixT ha (by decide) (v := .ref a3) rfl (Or.inl ⟨a3, xs3, rfl, .inr ha3, fun wl nwl => ?_⟩))⟩
          have m1 : Mv [] H9 (upd H9 wl (.lst xs3)) := .new nwl
          have e1 : upd H9 wl (.lst xs3) wl = some (.lst xs3) := upd_same
          generalize upd H9 wl (.lst xs3) = Ha at m1 e1 ⊢
          have hwb : wl ≠ b := hB9.fneq nwl
          have hrw : r ≠ wl := ne_of_none h3 nwl
          have h3a := m1.same _ _ h3
          refine ⟨.ref b, rfl, .ref r, rfl, .int at_, rfl, rd_ixL (.inl (.inl h3a)) a0 (v := .ref a) ev (rd_ixT (m1.sqT ha) (by decide) (v := .ref a3) rfl (Or.inl ⟨a3, xs3, rfl, .inr (m1.sqT ha3), ?_⟩))⟩
          refine ⟨b, _, rfl, hB9.mv m1, by omega, by omega, fun k Hb k0' k1' d2 => ?_⟩
          refine ⟨_, _, rfl, ?_⟩
          have hBb := d2.bag (hB9.mv m1)
          have dab : Dr b H9 Hb := (Dr.of m1).trans d2
          have e1b := d2.get hwb e1
          have h3b := dab.get hrb' h3
          have hi3 : k.toNat < xs3.length := by omega
          obtain ⟨wv, hwv⟩ : ∃ wv, xs3[k.toNat]? = some wv := ⟨_, List.getElem?_eq_getElem hi3⟩
          obtain ⟨dd, hdd, himw⟩ := hxs3.get hwv
          rw [List.getElem?_map] at hdd
          obtain ⟨x, hxw, rfl⟩ := Option.map_eq_some_iff.mp hdd
          obtain ⟨aw, z0, z1, z2, rfl, haw, j0, j1, j2⟩ := (himw.mv dab.mv).tup3
          cases j0.strI
          cases j2.intI
          refine ⟨.ref wl, rfl, .int k, rfl, rd_ixL (.inl (.inl e1b)) k0' (v := .ref aw) hwv ⟨2, rfl, rd_slT haw fun p Hc m3 e3 => ?_⟩⟩
          rw [show (some 2 : Option Int) = some ((2 : Nat) : Int) from rfl, cut_hi] at e3
          have e3 : SqT K Hc p [.str x.1, z1] := e3
          refine ⟨.ref wl, rfl, .int k, rfl, rd_ixL (.inl (.inl (m3.same _ _ e1b))) k0' (v := .ref aw) hwv (rd_ixT (m3.sqT haw) (by decide) (v := .int x.2.2) rfl (Or.inl ⟨_, _, rfl, rfl, Or.inl ⟨_, rfl, ?_⟩⟩))⟩
          have hpos : (0 : Int) < (vs'.length : Nat) := by omega
          refine ⟨.ref r, rfl, Or.inl ⟨r, vs', rfl, .inl (.inl (.inl (m3.same _ _ h3b))), ⟨_, _, rfl, rfl, hpos, (by decide : 1 ≤ sizeLine), fun p2 np2 => ?_⟩⟩⟩
          have m4 : Mv [] Hc (upd Hc p2 (.tup [.int ((x.2.2 + 1) % (vs'.length : Nat))])) := .new np2
          have e4 : SqT K (upd Hc p2 (.tup [.int ((x.2.2 + 1) % (vs'.length : Nat))])) p2 [.int ((x.2.2 + 1) % (vs'.length : Nat))] := .inl (.inl upd_same)
          generalize upd Hc p2 (.tup [.int ((x.2.2 + 1) % (vs'.length : Nat))]) = Hd at m4 e4 ⊢
          refine rd_cat (m4.sqT e3) e4 (by show 3 ≤ sizeLine; decide) fun p3 He m5 e5 => ?_
          have e5 : SqT K He p3 [.str x.1, z1, .int ((x.2.2 + 1) % (vs'.length : Nat))] := e5
          have m35 := m3.trans (m4.trans m5)
          have e1e := m35.same _ _ e1b
          refine ⟨.ref wl, rfl, .int k, rfl, wl, xs3, k, k.toNat, rfl, rfl, e1e, ixN_at k0' (by omega), ?_⟩
          have dae : Dr b H9 He := dab.trans (.of m35)
          have ix5 : Ims K He (xs3.set k.toNat (.ref p3)) ((ways.set k.toNat (x.1, x.2.1, (x.2.2 + 1) % (vs'.length : Nat))).map wayD) := by
            rw [List.map_set]
            exact (hxs3.mv dae.mv).set _ (.tup e5 (.cons (.str _) (.cons (j1.mv m35) (.cons (.int _) .nil))))
          have m6 : Mv [wl] He (upd He wl (.lst (xs3.set k.toNat (.ref p3)))) := .set e1e (by simp)
          have e6 : upd He wl (.lst (xs3.set k.toNat (.ref p3))) wl = some (.lst (xs3.set k.toNat (.ref p3))) := upd_same
          have da6 : Dr b H9 (upd He wl (.lst (xs3.set k.toNat (.ref p3)))) := dae.wr nwl
          have ix6 := ix5.mv m6
          generalize upd He wl (.lst (xs3.set k.toNat (.ref p3))) = Hf at m6 e6 da6 ix6 ⊢
          have h3f := da6.get hrb' h3
          have haf := da6.mv.sqT ha
          refine ⟨.ref r, rfl, .int at_, rfl, rd_ixL (.inl (.inl h3f)) a0 (v := .ref a) ev ⟨3, rfl, rd_slT haf fun p7 Hg m7 e7 => ?_⟩⟩
          rw [show (some 3 : Option Int) = some ((3 : Nat) : Int) from rfl, cut_hi] at e7
          have e7 : SqT K Hg p7 [.str "ask", x1, x2] := e7
          refine ⟨.ref wl, rfl, ?_⟩
          refine ⟨wl, _, rfl, .inl ⟨.inl (.inl (m7.same _ _ e6)), fun p8 np8 => ?_⟩⟩
          have m8 : Mv [] Hg (upd Hg p8 (.tup (xs3.set k.toNat (.ref p3)))) := .new np8
          have e8 : SqT K (upd Hg p8 (.tup (xs3.set k.toNat (.ref p3)))) p8 (xs3.set k.toNat (.ref p3)) := .inl (.inl upd_same)
          generalize upd Hg p8 (.tup (xs3.set k.toNat (.ref p3))) = Hh at m8 e8 ⊢
          refine ⟨(by decide : 1 ≤ sizeLine), fun p9 np9 => ?_⟩
          have m9 : Mv [] Hh (upd Hh p9 (.tup [.ref p8])) := .new np9
          have e9 : SqT K (upd Hh p9 (.tup [.ref p8])) p9 [.ref p8] := .inl (.inl upd_same)
          generalize upd Hh p9 (.tup [.ref p8]) = Hi at m9 e9 ⊢
          refine rd_cat ((m8.trans m9).sqT e7) e9 (by show 4 ≤ sizeLine; decide) fun p10 Hj m10 e10 => ?_
          have e10 : SqT K Hj p10 [.str "ask", x1, x2, .ref p8] := e10
          have m710 := m7.trans (m8.trans (m9.trans m10))
          have daj : Dr b H9 Hj := da6.trans (.of m710)
          have er' := daj.get hrb' h3
          refine ⟨.ref r, rfl, .int at_, rfl, r, vs', at_, at_.toNat, rfl, rfl, er', ixN_at a0 (by omega), ?_⟩
          obtain ⟨hask', hord'⟩ := ask_set (act := act) (i := k.toNat) (g := (x.2.2 + 1) % (vs'.length : Nat)) (hrs ra hra).2 hask hord hxw (Int.emod_nonneg _ (by omega)) (by rw [← hvl']; exact Int.emod_lt_of_pos _ hpos)
          exact setR (v := .ref p10) (st := .ask act ts (ways.set k.toNat (x.1, x.2.1, (x.2.2 + 1) % (vs'.length : Nat)))) h2 h3 h4 h5 h6 h7 h8 h9 h10 h11 h12 h13 daj er' (.tup e10 (.cons (.str _) (.cons (k1.mv daj.mv) (.cons (k2.mv daj.mv) (.cons (.tup ((m9.trans m10).sqT e8) (ix6.mv m710)) .nil))))) trivial ⟨⟨⟨ra, hra, hnm, hask'⟩, hord'⟩, hdp⟩
    obtain ⟨r, vs', sts', many', given', y6, y7, rfl, h2, h3, h4, h5, h6, h7, h8, h9, h10, h11, h12, h13⟩ := h10
    refine ⟨.ref r, rfl, .ref c', rfl, c', _, rfl, Or.inl ⟨_, .inr "rows", h2, rfl, (by decide : 4 < sizeLine), rfl⟩, ?_⟩
    rw [put_rows]
    have hcr' : r ≠ c' := by
      rintro rfl
      rw [h3] at h2
      cases h2
    refine ⟨.ref c', rfl, q c' r many' given' sts' _ ⟨vs', upd_same, by rw [upd_ne hcr']; exact h3, h5.mv (Mv.putD h2) (no_frz h2 (fun _ _ z => by cases z))⟩ nc' h4 (by omega) h7 h8 h9 h10 h11 h12 (h13.wr nc')⟩
end
end Fm
namespace Fm
open PySem PySem.Spec PyProof.Rows L2 SlX
/-- more names than keys: one is new -/
theorem pigeonD {α : Type} [DecidableEq α] : ∀ {xs ys : List α}, xs.Nodup → ys.length < xs.length → ∃ x ∈ xs, x ∉ ys
  | [], ys, _, h => absurd h (Nat.not_lt_zero _)
  | x :: xs, ys, n, h => by
    rw [List.nodup_cons] at n
    by_cases hx : x ∈ ys
    · obtain ⟨l1, l2, rfl⟩ := List.append_of_mem hx
      have h2 : (l1 ++ l2).length < xs.length := by
        rw [List.length_append] at h ⊢
        simp only [List.length_cons] at h
        omega
      obtain ⟨y, hy, ny⟩ := pigeonD n.2 h2
      refine ⟨y, List.mem_cons_of_mem _ hy, fun hm => ?_⟩
      rcases List.mem_append.mp hm with hm | hm
      · exact ny (List.mem_append.mpr (.inl hm))
      · rcases List.mem_cons.mp hm with rfl | hm
        · exact n.1 hy
        · exact ny (List.mem_append.mpr (.inr hm))
    · exact ⟨x, List.mem_cons_self, hx⟩
theorem first_new {xs ys : List Str} (n : xs.Nodup) (h : ys.length < xs.length) : ∃ x r, (xs.filter fun x => decide (x ∉ ys)) = x :: r ∧ x ∈ xs ∧ x ∉ ys := by
  obtain ⟨y, hy, ny⟩ := pigeonD n h
  cases e : xs.filter fun x => decide (x ∉ ys) with
  | nil =>
    have : y ∈ xs.filter fun x => decide (x ∉ ys) := List.mem_filter.mpr ⟨hy, by simpa using ny⟩
    rw [e] at this
    cases this
  | cons x r =>
    have : x ∈ xs.filter fun x => decide (x ∉ ys) := by rw [e]; exact List.mem_cons_self
    obtain ⟨h1, h2⟩ := List.mem_filter.mp this
    exact ⟨x, r, rfl, h1, by simpa using h2⟩
theorem ActsAt.has {K : PySem.W.Frag} {H : Hp} {d : Addr} {zs : List ActA} (h : ActsAt K H d zs) (x : Str) : DGet H d (.str x) (valV (zs.map ActA.kv) (.inr x)) := Or.inl ⟨_, .inr x, .inl h.at_, rfl, rfl⟩
theorem act_some (zs : List ActA) (x : Str) : (valV (zs.map ActA.kv) (.inr x)).isSome = decide (x ∈ zs.map (·.r.nm)) := by
  rw [val_act]
  cases e : zs.find? fun z => decide (z.r.nm = x) with
  | none =>
    rw [List.find?_eq_none] at e
    symm
    refine decide_eq_false fun hm => ?_
    obtain ⟨z, hz, rfl⟩ := List.mem_map.mp hm
    exact e z hz (by simp)
  | some z =>
    symm
    refine decide_eq_true (List.mem_map.mpr ⟨z, List.mem_of_find?_eq_some e, ?_⟩)
    simpa using List.find?_some e
/-- a value that is known behind an expression -/
theorem asg_mid {te : TE} {g : TG} {D : Ends} {σ : L2.St} {H : Hp} (R : V → Hp → Prop) (h1 : ∀ Q : VK, (∀ v H', R v H' → Q v H') → te σ H Q) (h2 : ∀ v H', R v H' → g v σ H' D.nx) : tAsg te g D σ H := h1 _ h2
end Fm
namespace Fm
open PySem PySem.Spec PyProof.Rows L2 SlX
local macro_rules | `(tactic| walk_at "nn") => `(tactic| dsimp only [tC, tNil, tCons, tCB, tCall, gName, tSeq, tAsg, tPar, tDrop, tRet])
local macro_rules | `(tactic| walk_at "nc") => `(tactic| dsimp only [tC, tNil, tCons, tCB, tCall])
def sp_law (K : PySem.W.Frag) : Sp := fun vs H Q _ => ∃ (a : Addr) (ns : List Int), vs = [.ref a] ∧ SqL K H a (ns.map V.int) ∧ ns.length ≤ 63 ∧ ∀ H', Q (.bl true) H'
theorem sta_sub {rs rs' : List ActR} {many places : Int} (h : ∀ r ∈ rs, r ∈ rs') : ∀ {st : Sta}, st.ok rs many places → st.ok rs' many places
  | .set _ _, k => k
  | .ask _ _ _, ⟨r, hr, k⟩ => ⟨r, h r hr, k⟩
  | .fin _ _, k => k
theorem rsEq_len {rs qs : List ActR} (h : rs.length ≠ qs.length) : rsEq rs qs = false := by
  unfold rsEq
  rw [show (rs.length == qs.length) = false by simpa using h]
  rfl
theorem normW_len (rs : List ActR) : (normW rs).length = rs.length := by
  unfold normW
  rw [srt_len, List.length_map]
theorem codeEq_w {rs rs2 : List ActR} {many many2 given given2 : Int} {sts sts2 : List Sta} (h : rsEq rs rs2 = false) : codeEq rs rs2 many many2 given given2 sts sts2 = false := by
  unfold codeEq
  rw [h]
  rfl
theorem notFirst_dif {K : PySem.W.Frag} {C D : Addr} (h : PySem.W.subIn K (.ref D) (.ref C) = some false) : PySem.W.notFirst K C (.ref D) = true := by
  unfold PySem.W.notFirst
  rw [h]
  simp
theorem stsEq_refl {sts : List Sta} (h : StF sts) : stsEq sts sts = true := by
  unfold stsEq
  exact SeqAt.eqv_refl _ (shaped_lay (list_shaped h).1)
theorem stsEq_comm (a b : List Sta) : stsEq a b = stsEq b a := eqv_comm _ _
/-- one side as this law has it -/
structure SideC where
  c : Addr
  l : Addr
  many : Int
  given : Int
  sts : List Sta
structure SideC.ok (rs : List ActR) (z : SideC) : Prop where
  l0 : 0 < z.sts.length
  l1 : z.sts.length ≤ 11
  raw : ∀ st ∈ z.sts, st.rw rs z.many z.sts.length ∧ st.dp 2
  g0 : 0 ≤ z.given
  g1 : z.given ≤ z.many
  m1 : z.many ≤ 10
/-- all that stands when the codes are made -/
structure Mid22 (K : PySem.W.Frag) (C CW b d wx sl tl x0 x1 x2 : Addr) (zs : List ActA) (rs : List ActR) (s0 s1 : SideC) (H : Hp) : Prop where
  bag : Bag H b
  acts : ActsAt K H d zs
  wld : WldAt K H CW wx (normW rs)
  c0 : LCode K H s0.c d s0.many s0.given s0.sts
  c1 : LCode K H s1.c d s1.many s1.given s1.sts
  t0 : CodAt K H C CW x0 wx (normW rs) s0.many s0.given s0.sts
  t1 : CodAt K H C CW x1 wx (normW rs) s1.many s1.given s1.sts
  t2 : CodAt K H C CW x2 wx (normW rs) s0.many s0.given s0.sts
  esl : H sl = some (.lst [.ref s0.c, .ref s1.c])
  etl : H tl = some (.lst [.ref x0, .ref x1, .ref x2])
section
variable {K : PySem.W.Frag} {C CW b d wx sl tl x0 x1 x2 : Addr} {zs : List ActA} {rs : List ActR} {s0 s1 : SideC} {H H' : Hp}
theorem Mid22.mv (h : Mid22 K C CW b d wx sl tl x0 x1 x2 zs rs s0 s1 H) (m : Mv [] H H') : Mid22 K C CW b d wx sl tl x0 x1 x2 zs rs s0 s1 H' :=
  ⟨h.bag.mv m, h.acts.mv m, h.wld.mv m, h.c0.mv m, h.c1.mv m, h.t0.mv m, h.t1.mv m, h.t2.mv m, m.same _ _ h.esl, m.same _ _ h.etl⟩
theorem Mid22.dr (h : Mid22 K C CW b d wx sl tl x0 x1 x2 zs rs s0 s1 H) (m : Dr b H H') (hs : sl ≠ b) (ht : tl ≠ b) : Mid22 K C CW b d wx sl tl x0 x1 x2 zs rs s0 s1 H' :=
  ⟨m.bag h.bag, h.acts.dr m h.bag, h.wld.dr m h.bag, h.c0.dr m h.bag, h.c1.dr m h.bag, h.t0.dr m h.bag, h.t1.dr m h.bag, h.t2.dr m h.bag, m.get hs h.esl, m.get ht h.etl⟩
end
theorem CodAt.slt {K : PySem.W.Frag} {H : Hp} {C CW x wx : Addr} {rs : List ActR} {many given : Int} {sts : List Sta} (h : CodAt K H C CW x wx rs many given sts) : ∃ dx ws, Slt H x C dx ws := by
  obtain ⟨dx, l, xs, hs, _⟩ := h
  exact ⟨dx, _, hs⟩
/-- two Codes compared -/
theorem rd_eqC {K : PySem.W.Frag} {H : Hp} {C CW x wx x2 wx2 : Addr} {rs rs2 : List ActR} {many many2 given given2 : Int} {sts sts2 : List Sta} {Q : VK} {E : XK} (h : CodAt K H C CW x wx rs many given sts) (h2 : CodAt K H C CW x2 wx2 rs2 many2 given2 sts2) (hF : StF sts) (hF2 : StF sts2)
    (q : ∀ H', Mv [] H H' → Q (.bl (codeEq rs rs2 many many2 given given2 sts sts2)) H') : rOwnG K C (sp_CodeEq K C CW) E (.ref x) (.ref x2) H Q := by
  obtain ⟨dx, ws, hs⟩ := h.slt
  obtain ⟨dx2, ws2, hs2⟩ := h2.slt
  exact ⟨x, dx, ws, rfl, hs, .inl ⟨x2, C, dx2, ws2, rfl, hs2, notFirst_self⟩, x, wx, rs, many, given, sts, _, rfl, h, hF, .inl ⟨x2, wx2, rs2, many2, given2, sts2, rfl, h2, hF2, q⟩⟩
theorem rd_neC {K : PySem.W.Frag} {H : Hp} {C CW x wx x2 wx2 : Addr} {rs rs2 : List ActR} {many many2 given given2 : Int} {sts sts2 : List Sta} {Q : VK} {E : XK} (h : CodAt K H C CW x wx rs many given sts) (h2 : CodAt K H C CW x2 wx2 rs2 many2 given2 sts2) (hF : StF sts) (hF2 : StF sts2)
    (q : ∀ H', Mv [] H H' → Q (.bl (!codeEq rs rs2 many many2 given given2 sts sts2)) H') : rNeOwn K C (sp_CodeEq K C CW) E (.ref x) (.ref x2) H Q := by
  obtain ⟨dx, ws, hs⟩ := h.slt
  obtain ⟨dx2, ws2, hs2⟩ := h2.slt
  exact ⟨x, dx, ws, rfl, hs, .inl ⟨x2, C, dx2, ws2, rfl, hs2, notFirst_self⟩, x, wx, rs, many, given, sts, _, rfl, h, hF, .inl ⟨x2, wx2, rs2, many2, given2, sts2, rfl, h2, hF2, fun H' m => ⟨_, rfl, q H' m⟩⟩⟩
theorem codeEq_due {rs : List ActR} (hr : WfR rs) (many many2 given given2 : Int) (sts sts2 : List Sta) : codeEq rs rs many many2 given given2 sts sts2 = (decide (many = many2) && (decide (given = given2) && stsEq sts sts2)) := by
  unfold codeEq
  rw [rsEq_refl hr, Bool.true_and]
theorem shw_bls {bs : List Bool} (h : bs.length ≤ 100) : Shw (.list (bs.map .bool)) := by
  have h1 : fineAll (bs.map .bool) := fineAll_iff.mpr fun d hd => by
    obtain ⟨b, _, rfl⟩ := List.mem_map.mp hd
    trivial
  have h2 : PyData.depthAll (bs.map .bool) ≤ 0 := depthAll_le fun d hd => by
    obtain ⟨b, _, rfl⟩ := List.mem_map.mp hd
    simp [PyData.depth]
  have h3 : wls (bs.map .bool) ≤ (bs.map PyData.bool).length * (50 + 2) := wls_le fun d hd => by
    obtain ⟨b, _, rfl⟩ := List.mem_map.mp hd
    simp [wl]
  rw [List.length_map] at h3
  refine ⟨h1, by simp only [PyData.depth]; omega, ?_⟩
  simp only [wl]
  omega
theorem dp_bls {K : PySem.W.Frag} {H : Hp} : ∀ bs : List Bool, DpAll K H (bs.map V.bl) (bs.map .bool)
  | [] => .nil
  | b :: bs => .cons (.bl b) (dp_bls bs)
section
variable {P : Program} {w : World} {K : PySem.W.Frag} {mg : Str → Option Value} {base : Heap}
theorem ok_law (T : TX K mg) (Y : TY P K mg) : FnOkG P w K mg base CX0 60 T.d_law.f T.d_law.fd P_law (sp_law K) := by
  have G__law_bag : FnOk P w K mg base CX0 1 T.d__law_bag.f T.d__law_bag.fd P__law_bag (sp_bag K) := ok__law_bag T
  have G__law_take : FnOk P w K mg base CX0 1 T.d__law_take.f T.d__law_take.fd P__law_take sp_take := ok__law_take T
  have G__law_acts : FnOk P w K mg base CX0 3 T.d__law_acts.f T.d__law_acts.fd P__law_acts (sp_acts K) := ok__law_acts T
  have G__law_world_of : FnOk P w K mg base CX0 7 T.d__law_world_of.f T.d__law_world_of.fd P__law_world_of (sp_worldOf K T.C_World) := ok__law_world_of T
  have G__law_deep_code : FnOk P w K mg base CX0 8 T.d__law_deep_code.f T.d__law_deep_code.fd P__law_deep_code (sp_deepCode K) := ok__law_deep_code T
  have G__law_near : FnOk P w K mg base CX0 2 T.d__law_near.f T.d__law_near.fd P__law_near (sp_nearC K) := ok__law_near T
  have G__law_code_of : FnOk P w K mg base CX0 9 T.d__law_code_of.f T.d__law_code_of.fd P__law_code_of (sp_codeOf K T.C_Code T.C_World) := ok__law_code_of T
  have G_Code___init__ : FnOk P w K mg base CX0 7 T.d_Code___init__.f T.d_Code___init__.fd P_Code___init__ (sp_Code K T.C_Code T.C_World) := ok_Code___init__ T
  have G_World___init__ : FnOk P w K mg base CX0 5 T.d_World___init__.f T.d_World___init__.fd P_World___init__ (sp_World K T.C_World) := ok_World___init__ T
  have G_Code___eq__ : FnOk P w K mg base CX0 3 T.d_Code___eq__.f T.d_Code___eq__.fd P_Code___eq__ (sp_CodeEq K T.C_Code T.C_World) := ok_Code___eq__ T
  have G__law_right : FnOkG P w K mg base CX0 7 T.d__law_right.f T.d__law_right.fd P__law_right (sp_rightC K T.C_Code T.C_World) := ok__law_right T Y
  have G__law_alike : FnOkG P w K mg base CX0 1 T.d__law_alike.f T.d__law_alike.fd P__law_alike (sp_alike K) := ok__law_alike T
  refine okG T.d_law.F sc_law (fun vs H Q E h => ?_) (fun cdv A outer s H vs Q E hgd hr h => ?_)
  · obtain ⟨_, _, rfl, _⟩ := h
    rfl
  · obtain ⟨a, sns, rfl, hS, hl63, q⟩ := h
    have hu1 := hu1_of hr
    have hu64 := hr.units
    have hu65 := hu65_of hr
    refine ⟨_, (pss_cons (ps_set (i := 1) sc_law.nd rfl (Or.inr rfl) (pe_call G__law_bag (hr.mono (by omega)) rfl T.d__law_bag.g T.d__law_bag.F.kp T.d__law_bag.b .nil pass0 (pa_cons (pv 0) pa_nil))) (pss_cons (ps_for PassesOwn.never rfl (pi_range1 (by rfl) T.b_range (pa_cons pe_int pa_nil)) (pg_name (i := 2) sc_law.nd rfl (Or.inl rfl)) (pss_cons (ps_set (i := 3) sc_law.nd rfl (Or.inl rfl) (pe_op (r := rAddG K) op_addG pe_int (pe_call G__law_take (hr.mono (by omega)) rfl T.d__law_take.g T.d__law_take.F.kp T.d__law_take.b .nil pass0 (pa_cons (pv 1) (pa_cons pe_int pa_nil))))) (pss_cons (ps_set (i := 4) sc_law.nd rfl (Or.inr rfl) (pe_call G__law_acts (hr.mono (by omega)) rfl T.d__law_acts.g T.d__law_acts.F.kp T.d__law_acts.b .nil pass0 (pa_cons (pv 1) (pa_cons pe_int pa_nil)))) (pss_cons (ps_set (i := 5) sc_law.nd rfl (Or.inr rfl) (pe_call G__law_world_of (hr.mono (by omega)) rfl T.d__law_world_of.g T.d__law_world_of.F.kp T.d__law_world_of.b .nil pass0 (pa_cons (pv 1) (pa_cons (pv 4) pa_nil)))) (pss_cons (ps_set (i := 6) sc_law.nd rfl (Or.inl rfl) (pe_call G__law_deep_code (hr.mono (by omega)) rfl T.d__law_deep_code.g T.d__law_deep_code.F.kp T.d__law_deep_code.b .nil pass0 (pa_cons (pv 1) (pa_cons (pv 4) (pa_cons (pe_op (r := rAddG K) op_addG pe_int (pe_call G__law_take (hr.mono (by omega)) rfl T.d__law_take.g T.d__law_take.F.kp T.d__law_take.b .nil pass0 (pa_cons (pv 1) (pa_cons pe_int pa_nil)))) (pa_cons (pv 3) pa_nil)))))) (pss_cons (ps_set (i := 7) sc_law.nd rfl (Or.inr rfl) (pe_lst (pa_cons (pv 6) (pa_cons (pe_call G__law_near (hr.mono (by omega)) rfl T.d__law_near.g T.d__law_near.F.kp T.d__law_near.b .nil pass0 (pa_cons (pv 1) (pa_cons (pv 6) pa_nil))) pa_nil)))) (pss_cons (ps_set (i := 8) sc_law.nd rfl (Or.inr rfl) (pe_lc (own := [("_law_side", 17)]) (g := gName 17) (by rfl) sc_law.nd (pi_seq (pv 7)) (blkOk_by (own := [("_law_side", 17)]) (N := N_law) (sc := defScope s_law) (by decide +kernel)) (fun _ _ _ _ _ => pg_name (i := 17) sc_law.nd rfl (Or.inl rfl)) (fun _ _ _ _ _ => pts_nil) (fun _ _ _ _ _ => (pe_call G__law_code_of (hr.mono (by omega)) rfl T.d__law_code_of.g T.d__law_code_of.F.kp T.d__law_code_of.b .nil pass0 (pa_cons (pv 1) (pa_cons (pv 5) (pa_cons (pv 17) pa_nil))))))) (pss_cons (ps_set (i := 9) sc_law.nd rfl (Or.inl rfl) (pe_callTy (r := rListG K) (call_listA rfl) (by rfl) T.b_list bt_list (pa_cons (pe_dget hu1 (pv 6) pe_str (fun _ _ => rfl)) pa_nil))) (pss_cons (ps_expr (pe_bm PySem.F.plainAttrs_list PySem.F.slot_list_append PySem.F.type_list_append mt_append (pv 8) (pa_cons (pe_make ⟨T.mk_Code, T.d_Code___init__.M.at_, T.d_Code___init__.M.fn, T.k_Code⟩ G_Code___init__ (hr.mono (by omega)) rfl T.g_Code T.d_Code___init__.b .nil pass0 (pa_cons (pv 5) (pa_cons (pv 3) (pa_cons (pe_dget hu1 (pv 6) pe_str (fun _ _ => rfl)) (pa_cons (pv 9) pa_nil))))) pa_nil))) (pss_cons (ps_expr (pe_bm0 PySem.F.plainAttrs_list PySem.F.slot_list_clear PySem.F.type_list_clear mt_clear (pv 9))) (pss_cons (ps_for PassesOwn.never rfl (pi_seq (pe_tup (pa_cons pe_int (pa_cons pe_int (pa_cons pe_int (pa_cons pe_int (pa_cons pe_int (pa_cons pe_int pa_nil)))))))) (pg_name (i := 10) sc_law.nd rfl (Or.inl rfl)) (pss_one (ps_if (pt_not (pt_val (pe_callG G__law_right hgd (hr.mono (by omega)) rfl T.d__law_right.g T.d__law_right.F.kp T.d__law_right.b .nil pass0 (pa_cons (pe_ix (r := rIx K) ix_seq (pv 8) (pv 10) (fun _ _ => rfl)) (pa_cons (pv 5) (pa_cons (pe_ix (r := rIx K) ix_seq (pv 7) (pe_op op_mod (pe_callTy call_int1 (by rfl) T.b_int bt_int (pa_cons (pv 10) pa_nil)) pe_int) (fun _ _ => rfl)) pa_nil)))))) (pss_one (ps_ret pe_bl)) pss_nil))) (pss_cons (ps_set (i := 11) sc_law.nd rfl (Or.inl rfl) (pe_cmpR (r := rEqNil K) (op_eqNil (Nat.lt_of_le_of_lt (Nat.le_add_right _ 65) hu65)) (pe_lc (own := [("_law_key", 18)]) (g := gName 18) (by rfl) sc_law.nd (pi_seq (pe_tup (pa_cons pe_str (pa_cons pe_str (pa_cons pe_str pa_nil))))) (blkOk_by (own := [("_law_key", 18)]) (N := N_law) (sc := defScope s_law) (by decide +kernel)) (fun _ _ _ _ _ => pg_name (i := 18) sc_law.nd rfl (Or.inl rfl)) (fun _ _ _ _ _ => (pts_one (pt_cmpR (r := rNeG K) (op_neG hu64) (pe_dget hu1 (pe_ix (r := rIx K) ix_seq (pv 7) pe_int (fun _ _ => rfl)) (pv 18) (fun _ _ => rfl)) (pe_dget hu1 (pe_ix (r := rIx K) ix_seq (pv 7) pe_int (fun _ _ => rfl)) (pv 18) (fun _ _ => rfl)) (nomark _)))) (fun _ _ _ _ _ => (pv 18))) (pe_lst pa_nil) (nomark _))) (pss_cons (ps_set (i := 12) sc_law.nd rfl (Or.inl rfl) (pe_lst (pa_cons (pe_cmpR (r := rOwnG K T.C_Code (sp_CodeEq K T.C_Code T.C_World) _) (op_ownG T.d_Code___eq__.M.at_ T.d_Code___eq__.M.fn (fnR_of G_Code___eq__ T.d_Code___eq__.b) (hr.mono (by omega)) pass0) (pe_ix (r := rIx K) ix_seq (pv 8) pe_int (fun _ _ => rfl)) (pe_ix (r := rIx K) ix_seq (pv 8) pe_int (fun _ _ => rfl)) (nomark _)) (pa_cons (pe_cmpR (r := rOwnG K T.C_Code (sp_CodeEq K T.C_Code T.C_World) _) (op_ownG T.d_Code___eq__.M.at_ T.d_Code___eq__.M.fn (fnR_of G_Code___eq__ T.d_Code___eq__.b) (hr.mono (by omega)) pass0) (pe_ix (r := rIx K) ix_seq (pv 8) pe_int (fun _ _ => rfl)) (pe_ix (r := rIx K) ix_seq (pv 8) pe_int (fun _ _ => rfl)) (nomark _)) (pa_cons (pe_cmpR (r := rOwnG K T.C_Code (sp_CodeEq K T.C_Code T.C_World) _) (op_ownG T.d_Code___eq__.M.at_ T.d_Code___eq__.M.fn (fnR_of G_Code___eq__ T.d_Code___eq__.b) (hr.mono (by omega)) pass0) (pe_ix (r := rIx K) ix_seq (pv 8) pe_int (fun _ _ => rfl)) (pe_ix (r := rIx K) ix_seq (pv 8) pe_int (fun _ _ => rfl)) (nomark _)) (pa_cons (pe_cmpR (r := rNeOwn K T.C_Code (sp_CodeEq K T.C_Code T.C_World) _) (op_neOwn T.ne_Code T.is_Code.cm T.d_Code___eq__.M.at_ T.d_Code___eq__.M.fn (fnR_of G_Code___eq__ T.d_Code___eq__.b) (hr.mono (by omega)) pass0) (pe_ix (r := rIx K) ix_seq (pv 8) pe_int (fun _ _ => rfl)) (pe_ix (r := rIx K) ix_seq (pv 8) pe_int (fun _ _ => rfl)) (nomark _)) pa_nil)))))) (pss_cons (ps_if (pt_not (pt_val (pe_callG G__law_alike hgd (hr.mono (by omega)) rfl T.d__law_alike.g T.d__law_alike.F.kp T.d__law_alike.b .nil pass0 (pa_cons (pv 12) (pa_cons (pe_lst (pa_cons (pv 11) (pa_cons (pv 11) (pa_cons pe_bl (pa_cons (pe_not (pv 11)) pa_nil))))) pa_nil))))) (pss_one (ps_ret pe_bl)) pss_nil) (pss_cons (ps_set (i := 13) sc_law.nd rfl (Or.inl rfl) (pe_callTy (r := rDictG K) (call_dictG rfl) (by rfl) T.b_dict bt_dict (pa_cons (pv 4) pa_nil))) (pss_cons (ps_dput hu1 (pv 13) (pe_ix (r := rIx K) ix_seq (pe_lc (own := [("_law_one", 19)]) (g := gName 19) (by rfl) sc_law.nd (pi_seq (pe_tup (pa_cons pe_str (pa_cons pe_str (pa_cons pe_str (pa_cons pe_str pa_nil)))))) (blkOk_by (own := [("_law_one", 19)]) (N := N_law) (sc := defScope s_law) (by decide +kernel)) (fun _ _ _ _ _ => pg_name (i := 19) sc_law.nd rfl (Or.inl rfl)) (fun _ _ _ _ _ => (pts_one (pt_cmp (pc_dnotin hu1 (pv 19) (pv 4))))) (fun _ _ _ _ _ => (pv 19))) pe_int (fun _ _ => rfl)) (pe_tup (pa_cons pe_int (pa_cons (pe_disp (pps_cons pe_str pe_int pps_nil) (by rfl) (by rfl) (fun z => by cases z) (by decide)) pa_nil))) rfl) (pss_cons (ps_set (i := 14) sc_law.nd rfl (Or.inl rfl) (pe_make ⟨T.mk_Code, T.d_Code___init__.M.at_, T.d_Code___init__.M.fn, T.k_Code⟩ G_Code___init__ (hr.mono (by omega)) rfl T.g_Code T.d_Code___init__.b .nil pass0 (pa_cons (pe_make ⟨T.mk_World, T.d_World___init__.M.at_, T.d_World___init__.M.fn, T.k_World⟩ G_World___init__ (hr.mono (by omega)) rfl T.g_World T.d_World___init__.b .nil pass0 (pa_cons (pv 13) pa_nil)) (pa_cons (pv 3) (pa_cons (pe_dget hu1 (pv 6) pe_str (fun _ _ => rfl)) (pa_cons (pe_dget hu1 (pv 6) pe_str (fun _ _ => rfl)) pa_nil)))))) (pss_cons (ps_set (i := 15) sc_law.nd rfl (Or.inl rfl) (pe_make ⟨T.mk_Code, T.d_Code___init__.M.at_, T.d_Code___init__.M.fn, T.k_Code⟩ G_Code___init__ (hr.mono (by omega)) rfl T.g_Code T.d_Code___init__.b .nil pass0 (pa_cons (pe_call G__law_world_of (hr.mono (by omega)) rfl T.d__law_world_of.g T.d__law_world_of.F.kp T.d__law_world_of.b .nil pass0 (pa_cons (pv 1) (pa_cons (pv 4) pa_nil))) (pa_cons (pv 3) (pa_cons (pe_dget hu1 (pv 6) pe_str (fun _ _ => rfl)) (pa_cons (pe_dget hu1 (pv 6) pe_str (fun _ _ => rfl)) pa_nil)))))) (pss_cons (ps_if (pt_not (pt_val (pe_callG G__law_alike hgd (hr.mono (by omega)) rfl T.d__law_alike.g T.d__law_alike.F.kp T.d__law_alike.b .nil pass0 (pa_cons (pe_lst (pa_cons (pe_cmpR (r := rOwnG K T.C_Code (sp_CodeEq K T.C_Code T.C_World) _) (op_ownG T.d_Code___eq__.M.at_ T.d_Code___eq__.M.fn (fnR_of G_Code___eq__ T.d_Code___eq__.b) (hr.mono (by omega)) pass0) (pe_ix (r := rIx K) ix_seq (pv 8) pe_int (fun _ _ => rfl)) (pv 14) (nomark _)) (pa_cons (pe_cmpR (r := rOwnG K T.C_Code (sp_CodeEq K T.C_Code T.C_World) _) (op_ownG T.d_Code___eq__.M.at_ T.d_Code___eq__.M.fn (fnR_of G_Code___eq__ T.d_Code___eq__.b) (hr.mono (by omega)) pass0) (pv 14) (pe_ix (r := rIx K) ix_seq (pv 8) pe_int (fun _ _ => rfl)) (nomark _)) (pa_cons (pe_cmpR (r := rOwnG K T.C_Code (sp_CodeEq K T.C_Code T.C_World) _) (op_ownG T.d_Code___eq__.M.at_ T.d_Code___eq__.M.fn (fnR_of G_Code___eq__ T.d_Code___eq__.b) (hr.mono (by omega)) pass0) (pe_ix (r := rIx K) ix_seq (pv 8) pe_int (fun _ _ => rfl)) (pv 15) (nomark _)) pa_nil)))) (pa_cons (pe_lst (pa_cons pe_bl (pa_cons pe_bl (pa_cons pe_bl pa_nil)))) pa_nil))))) (pss_one (ps_ret pe_bl)) pss_nil) (pss_cons (ps_set (i := 16) sc_law.nd rfl (Or.inl rfl) (pe_make ⟨T.mk_Code, T.d_Code___init__.M.at_, T.d_Code___init__.M.fn, T.k_Code⟩ G_Code___init__ (hr.mono (by omega)) rfl T.g_Code T.d_Code___init__.b .nil pass0 (pa_cons (pe_make ⟨T.mk_World, T.d_World___init__.M.at_, T.d_World___init__.M.fn, T.k_World⟩ G_World___init__ (hr.mono (by omega)) rfl T.g_World T.d_World___init__.b .nil pass0 (pa_cons pe_dnewK pa_nil)) (pa_cons (pv 3) (pa_cons (pe_dget hu1 (pv 6) pe_str (fun _ _ => rfl)) (pa_cons (pe_lst (pa_cons (pe_tup (pa_cons pe_str (pa_cons pe_str (pa_cons (pe_tup pa_nil) pa_nil)))) pa_nil)) pa_nil)))))) (pss_one (ps_if (pt_cmpR (r := rNeNil K) (op_neNil (Nat.lt_of_le_of_lt (Nat.le_add_right _ 65) hu65)) (pe_lc (own := [("_law_one", 19)]) (g := gName 19) (by rfl) sc_law.nd (pi_seq (pe_tup (pa_cons pe_non (pa_cons (pv 5) (pa_cons (pv 6) (pa_cons (pe_tup pa_nil) (pa_cons pe_str (pa_cons (pv 16) pa_nil)))))))) (blkOk_by (own := [("_law_one", 19)]) (N := N_law) (sc := defScope s_law) (by decide +kernel)) (fun _ _ _ _ _ => pg_name (i := 19) sc_law.nd rfl (Or.inl rfl)) (fun _ _ _ _ _ => (pts_one (pt_cmpR (r := rOwnG K T.C_Code (sp_CodeEq K T.C_Code T.C_World) _) (op_ownG T.d_Code___eq__.M.at_ T.d_Code___eq__.M.fn (fnR_of G_Code___eq__ T.d_Code___eq__.b) (hr.mono (by omega)) pass0) (pe_ix (r := rIx K) ix_seq (pv 8) pe_int (fun _ _ => rfl)) (pv 19) (nomark _)))) (fun _ _ _ _ _ => pe_int)) (pe_lst pa_nil) (nomark _)) (pss_one (ps_ret pe_bl)) pss_nil)))))))))))))))))))))) (pss_one (ps_ret pe_bl)))), ?_⟩
    refine ⟨.ref a, rfl, a, sns, rfl, hS, hl63, fun H1 b m1 nb hB1 => ?_⟩
    refine ⟨3, rfl, by decide, by decide, ?_⟩
    refine for_range (lo := 0) (n := (3 : Int).toNat) (fun i σ H3 => ∃ (y2 y3 y4 y5 y6 y7 y8 y9 y10 y11 y12 y13 y14 y15 y16 : Option V), σ = [some (.ref a), some (.ref b), y2, y3, y4, y5, y6, y7, y8, y9, y10, y11, y12, y13, y14, y15, y16, none, none, none] ∧ Bag H3 b)
      ⟨_, _, _, _, _, _, _, _, _, _, _, _, _, _, _, rfl, hB1⟩ (fun i σ H3 hi h3 => ?_) (fun σ H3 h3 => q H3)
    obtain ⟨y2, y3, y4, y5, y6, y7, y8, y9, y10, y11, y12, y13, y14, y15, y16, rfl, hB3⟩ := h3
    -- many, acts, world
    refine asg_mid (fun v H4 => ∃ many : Int, v = .int many ∧ 2 ≤ many ∧ many ≤ 5 ∧ Dr b H3 H4) (fun Q' qq => ⟨.ref b, rfl, b, 4, rfl, hB3, by decide, by decide, fun n H4 n0 n1 d4 => Or.inl ⟨2, n, rfl, rfl, qq _ _ ⟨2 + n, rfl, by omega, by omega, d4⟩⟩⟩) (fun v H4 h4 => ?_)
    obtain ⟨many, rfl, hm0, hm1, d4⟩ := h4
    have hB4 := d4.bag hB3
    refine ⟨.ref b, rfl, b, 2, rfl, hB4, by decide, by decide, fun d zs H5 nd hA5 hD hz1 _ hz3 d5 => ?_⟩
    have hB5 := d5.bag hB4
    refine ⟨.ref b, rfl, .ref d, rfl, b, d, zs, rfl, hB5, hA5, fun z hz => hD.ok _ (List.mem_map.mpr ⟨z, hz, rfl⟩), by omega, fun wx H6 hW6 d6 => ?_⟩
    have hB6 := d6.bag hB5
    have hA6 := hA5.dr d6 hB5
    have hwf := hA5.wf
    obtain ⟨rs, hrs⟩ : ∃ rs, rs = zs.map (·.r) := ⟨_, rfl⟩
    rw [← hrs] at hD hW6 hwf
    have hWo : WOk (normW rs) := wok_norm hD.ok hwf.nd (by have := hD.few; omega) hwf.ond
    have hwfn := wf_norm hwf
    have hrl : rs.length = zs.length := by rw [hrs, List.length_map]
    have hD' : DrawnActs many rs := ⟨hD.ok, fun r hr' e he => by have := hD.le r hr' e he; omega, hD.few⟩
    -- the code
    refine ⟨.ref b, rfl, .ref d, rfl, .ref b, rfl, b, 9, rfl, hB6, by decide, by decide, fun n7 H7 p0 p1 d7 => Or.inl ⟨1, n7, rfl, rfl, ?_⟩⟩
    have hB7 := d7.bag hB6
    refine ⟨.int many, rfl, b, d, zs, 1 + n7, many, rfl, hB7, hA6.dr d7 hB6, by rw [← hrs]; exact hD', by omega, by omega, by omega, by omega, fun c l given sts H8 hC8 nc8 nl8 hl8 hr8 g0 g1 d8 => ?_⟩
    rw [← hrs] at hr8
    have hB8 := d8.bag hB7
    have hpl : (1 + n7 : Int) = sts.length := by omega
    rw [hpl] at hr8
    have hrsn : ∀ r ∈ rs, r.ok ∧ (r.outs.map (·.1)).Nodup := fun r hr' => ⟨hD.ok r hr', hwf.ond r hr'⟩
    -- the sides
    refine ⟨.ref c, rfl, .ref b, rfl, .ref c, rfl, b, c, d, l, rs, many, given, sts, rfl, hB8, hC8, by omega, by omega, hr8, hrsn, g0, g1, by omega, by omega, fun c1 l1 many1 given1 sts1 H9 hC9 nc9 nl9 hp0 hp1 hr9 hmm hmm1 g10 g11 d9 => ?_⟩
    have hB9 := d9.bag hB8
    have d69 := d7.trans (d8.trans d9)
    have hW9 := hW6.dr d69 hB6
    have hA9 := hA6.dr d69 hB6
    have hC89 := hC8.dr d9 hB8
    refine ⟨(by decide : 2 ≤ sizeLine), fun sl nsl => ?_⟩
    have esl : upd H9 sl (.lst [.ref c, .ref c1]) sl = some (.lst [.ref c, .ref c1]) := upd_same
    have msl : Mv [] H9 (upd H9 sl (.lst [.ref c, .ref c1])) := .new nsl
    have dsl : Dr b H9 (upd H9 sl (.lst [.ref c, .ref c1])) := .of msl
    have hsb : sl ≠ b := hB9.fneq nsl
    have lsl : ∀ {q : Addr} {o : HO}, H9 q = some o → q ≠ sl := fun e => ne_of_none e nsl
    generalize upd H9 sl (.lst [.ref c, .ref c1]) = H10 at esl msl dsl ⊢
    have hB10 := dsl.bag hB9
    obtain ⟨s0, es0⟩ : ∃ s0 : SideC, s0 = ⟨c, l, many, given, sts⟩ := ⟨_, rfl⟩
    obtain ⟨s1, es1⟩ : ∃ s1 : SideC, s1 = ⟨c1, l1, many1, given1, sts1⟩ := ⟨_, rfl⟩
    have hs0 : s0.ok rs := by
      rw [es0]
      exact ⟨by show 0 < sts.length; omega, by show sts.length ≤ 11; omega, hr8, g0, g1, by show many ≤ 10; omega⟩
    have hs1 : s1.ok rs := by
      rw [es1]
      exact ⟨hp0, by show sts1.length ≤ 11; omega, hr9, g10, g11, by show many1 ≤ 10; omega⟩
    have hL0 : LCodeL K H10 s0.c d s0.l s0.many s0.given s0.sts := by rw [es0]; exact hC89.dr dsl hB9
    have hL1 : LCodeL K H10 s1.c d s1.l s1.many s1.given s1.sts := by rw [es1]; exact hC9.dr dsl hB9
    have ec0 : c = s0.c := by rw [es0]
    have ec1 : c1 = s1.c := by rw [es1]
    have em0 : many = s0.many := by rw [es0]
    have eg0 : given = s0.given := by rw [es0]
    have el0 : l = s0.l := by rw [es0]
    clear es0 es1
    have hm24 : s0.many ≤ 24 := by have := hs0.m1; omega
    subst ec0 ec1 em0 eg0 el0
    obtain ⟨ss, hss⟩ : ∃ ss : List SideC, ss = [s0, s1] := ⟨_, rfl⟩
    have hsv : ([.ref s0.c, .ref s1.c] : List V) = ss.map fun z => V.ref z.c := by rw [hss]; rfl
    have hsso : ∀ z ∈ ss, LCodeL K H10 z.c d z.l z.many z.given z.sts ∧ z.ok rs := fun z hz => by
      rw [hss] at hz
      rcases List.mem_cons.mp hz with rfl | hz
      · exact ⟨hL0, hs0⟩
      · rw [List.mem_singleton] at hz
        subst hz
        exact ⟨hL1, hs1⟩
    have hW10 := hW9.dr dsl hB9
    have hA10 := hA9.dr dsl hB9
    rw [hsv] at esl
    -- told
    refine ⟨.ref sl, rfl, sl, rfl, Or.inl ⟨⟨_, .inl (.inl esl)⟩, fun tl ntl => ?_⟩⟩
    have htb : tl ≠ b := hB10.fneq ntl
    refine lc_list (K := K) (a := sl) (xs := ss.map fun z => V.ref z.c) (fun i H7 => ∃ ts : List (Addr × Addr), H7 tl = some (.lst (ts.map fun z => V.ref z.1)) ∧ ts.length = i ∧ (∀ (j : Nat) (z : Addr × Addr) (s : SideC), ts[j]? = some z → ss[j]? = some s → CodL K H7 T.C_Code T.C_World z.2 z.1 wx (normW rs) s.many s.given s.sts ∧ z.2 ≠ tl) ∧ Dr b H10 H7)
      ⟨[], upd_same, rfl, (fun j z s hz => by simp at hz), Dr.new ntl⟩ (fun i H7 _ h7 => ?_) (fun i x H7 hx h7 => ?_) (fun H7 h7 => ?_)
    · obtain ⟨_, _, _, _, d7⟩ := h7
      exact .inl (.inl (d7.get hsb esl))
    · obtain ⟨ts, e7, l7, o7, d7⟩ := h7
      rw [List.getElem?_map] at hx
      obtain ⟨sz, hsz, rfl⟩ := Option.map_eq_some_iff.mp hx
      obtain ⟨hs, hso⟩ := hsso sz (List.mem_of_getElem? hsz)
      have hi := (List.getElem?_eq_some_iff.mp hsz).1
      have hi2 : ss.length = 2 := by rw [hss]; rfl
      have hB7 := d7.bag hB10
      have hl1 := hso.l1
      have hm1' := hso.m1
      refine ⟨rfl, .ref b, rfl, .ref wx, rfl, .ref sz.c, rfl, b, wx, sz.c, d, rs, sz.many, sz.given, sz.sts, rfl, hB7, hW10.dr d7 hB10, hWo, (hs.dr d7 hB10).at_, hso.l0, by omega, fun st hst => (hso.raw st hst).1, hso.g0, hso.g1, by omega, fun l x H8 hC8 nl8 d8 => ?_⟩
      have e8 := d8.get htb e7
      have hne : l ≠ tl := by
        rintro rfl
        rw [nl8] at e7
        cases e7
      have d68 : Dr b H10 (upd H8 tl (.lst (ts.map (fun z => V.ref z.1) ++ [.ref x]))) := (d7.trans d8).wr ntl
      have hW8 := hW10.dr d68 hB10
      refine ⟨_, e8, ?_, ts ++ [(x, l)], ?_, ?_, fun j z s hz hs' => ?_, d68⟩
      · rw [List.length_map, l7]
        exact small1000 (by omega)
      · rw [upd_same, List.map_append]
        rfl
      · rw [List.length_append, l7]
        rfl
      · by_cases hj : j < ts.length
        · rw [List.getElem?_append_left hj] at hz
          obtain ⟨h1, h2⟩ := o7 j z s hz hs'
          exact ⟨(h1.dr d8 hB7).put e8 h2 hW8, h2⟩
        · have hjl : j = ts.length := by
            have := (List.getElem?_eq_some_iff.mp hz).1
            rw [List.length_append, List.length_singleton] at this
            omega
          subst hjl
          rw [List.getElem?_append_right (Nat.le_refl _), Nat.sub_self] at hz
          cases hz
          rw [l7, hsz] at hs'
          cases hs'
          exact ⟨hC8.put e8 hne hW8, hne⟩
    obtain ⟨ts, e7, l7, o7, d7⟩ := h7
    rw [List.length_map, hss] at l7
    obtain ⟨⟨x0, k0⟩, ⟨x1, k1⟩, rfl⟩ : ∃ t0 t1, ts = [t0, t1] := by
      match ts, l7 with
      | [t0, t1], _ => exact ⟨t0, t1, rfl⟩
    obtain ⟨hT0, nk0⟩ := o7 0 (x0, k0) s0 rfl (by rw [hss]; rfl)
    obtain ⟨hT1, nk1⟩ := o7 1 (x1, k1) s1 rfl (by rw [hss]; rfl)
    have hB7 := d7.bag hB10
    have esl7 := d7.get hsb esl
    rw [← hsv] at esl7
    have hL07 := hL0.dr d7 hB10
    have hL17 := hL1.dr d7 hB10
    have hW7 := hW10.dr d7 hB10
    have hA7 := hA10.dr d7 hB10
    have e7 : H7 tl = some (.lst [.ref x0, .ref x1]) := e7
    have nst : sl ≠ tl := ne_of_none esl ntl
    clear o7 hsso
    -- the handed list
    obtain ⟨vs, hc, hl, hR⟩ := id hL07
    have hvl : vs.length = s0.sts.length := by
      have := hR.1.length
      rwa [List.length_map] at this
    have hget : ∀ {H'} (f : Str) (v : V), Mv [] H7 H' → valV (codeKv d s0.l s0.many s0.given) (.inr f) = some v → DGet H' s0.c (.str f) (some v) := fun {H'} f v m e => Or.inl ⟨_, .inr f, .inl (m.same _ _ hc), rfl, e.symm⟩
    refine ⟨.ref s0.c, rfl, s0.c, .ref s0.l, rfl, hget "rows" _ .refl (code_rows _ _ _ _), Or.inl ⟨s0.l, vs, rfl, .inl (.inl (.inl hl)), fun hd nhd => ?_⟩⟩
    have m8 : Mv [] H7 (upd H7 hd (.lst vs)) := .new nhd
    have e8 : upd H7 hd (.lst vs) hd = some (.lst vs) := upd_same
    generalize upd H7 hd (.lst vs) = H8 at m8 e8 ⊢
    have hB8 := hB7.mv m8
    have hdb : hd ≠ b := hB7.fneq nhd
    have etl8 := m8.same _ _ e7
    have okN : ∀ st ∈ s0.sts, st.ok (normW rs) s0.many s0.sts.length := fun st hst => sta_norm (hs0.raw st hst).1.1
    have okN1 : ∀ st ∈ s1.sts, st.ok (normW rs) s1.many s1.sts.length := fun st hst => sta_norm (hs1.raw st hst).1.1
    have ordN : s0.sts.map Sta.ord = s0.sts := by
      conv => rhs; rw [← List.map_id s0.sts]
      exact List.map_congr_left fun st hst => (hs0.raw st hst).1.2
    have hl10 := hs0.l1
    refine ⟨.ref tl, rfl, .inl ⟨rfl, _, .inl (.inl etl8)⟩, .ref wx, rfl, .int s0.many, rfl, .ref s0.c, rfl, s0.c, .int s0.given, rfl, hget "given" _ m8 (code_given _ _ _ _), .ref hd, rfl, fun x2 dx2 nx2 ndx2 hne2 => ⟨x2, dx2, wx, hd, normW rs, s0.many, s0.given, vs, s0.sts, H8, rfl, rfl, nx2, ndx2, hne2, hW7.mv m8, hWo, by omega, hm24, hs0.g0, hs0.g1, .inl e8, hR.1.mv m8, okN, hs0.l0, by omega, fun k2 H9' m9 nk2 hT2 => ⟨rfl, ?_⟩⟩⟩
    rw [ordN] at hT2
    have m79 := m8.trans m9
    have etl9 := m79.same _ _ e7
    refine ⟨tl, _, _, rfl, rfl, etl9, (by decide : 2 < sizeLine), ?_⟩
    have mtl : Mv [tl] H9' (upd H9' tl (.lst ([.ref x0, .ref x1] ++ [.ref x2]))) := .set etl9 (by simp)
    have etlA : upd H9' tl (.lst ([.ref x0, .ref x1] ++ [.ref x2])) tl = some (.lst [.ref x0, .ref x1, .ref x2]) := upd_same
    have hk2 : k2 ≠ tl := by
      rintro rfl
      rw [etl8] at nk2
      cases nk2
    have hk2h : k2 ≠ hd := by
      rintro rfl
      rw [e8] at nk2
      cases nk2
    have d79 : Dr b H7 H9' := .of m79
    have d7A : Dr b H10 (upd H9' tl (.lst ([.ref x0, .ref x1] ++ [.ref x2]))) := (d7.trans d79).wr ntl
    have hWA := hW10.dr d7A hB10
    have hAA := hA10.dr d7A hB10
    have hBA := d7A.bag hB10
    have eslA : upd H9' tl (.lst ([.ref x0, .ref x1] ++ [.ref x2])) sl = some (.lst [.ref s0.c, .ref s1.c]) := by
      rw [hsv]
      exact d7A.get hsb esl
    have hL0A := hL0.dr d7A hB10
    have hL1A := hL1.dr d7A hB10
    have hT0A := (hT0.dr d79 hB7).put (o := .lst ([.ref x0, .ref x1] ++ [.ref x2])) etl9 nk0 hWA
    have hT1A := (hT1.dr d79 hB7).put (o := .lst ([.ref x0, .ref x1] ++ [.ref x2])) etl9 nk1 hWA
    have hT2A := hT2.put (o := .lst ([.ref x0, .ref x1] ++ [.ref x2])) etl9 hk2 hWA
    have hhd : hd ≠ tl := by
      rintro rfl
      rw [e7] at nhd
      cases nhd
    have ehdA : upd H9' tl (.lst ([.ref x0, .ref x1] ++ [.ref x2])) hd = some (.lst vs) := by
      rw [upd_ne hhd]
      exact m9.same _ _ e8
    generalize upd H9' tl (.lst ([.ref x0, .ref x1] ++ [.ref x2])) = HA at mtl etlA d7A hWA hAA hBA eslA hL0A hL1A hT0A hT1A hT2A ehdA ⊢
    refine ⟨.ref hd, rfl, .inl ⟨rfl, _, .inl (.inl ehdA)⟩, hd, _, rfl, rfl, ehdA, ?_⟩
    -- what is known of the lists
    have n10 : H10 hd = none := d7.free hB10 nhd
    have dB : Dr b H10 (upd HA hd (.lst [])) := d7A.wr n10
    have nl : ∀ {q : Addr} {zs' : List V}, H7 q = some (.lst zs') → q ≠ hd := fun e => ne_of_none e nhd
    obtain ⟨_, xs0, _, _, ek0, _⟩ := id hT0
    obtain ⟨_, xs1, _, _, ek1, _⟩ := id hT1
    have hWB := hW10.dr dB hB10
    have M : Mid22 K T.C_Code T.C_World b d wx sl tl x0 x1 x2 zs rs s0 s1 (upd HA hd (.lst [])) :=
      ⟨dB.bag hB10, hA10.dr dB hB10, hWB, (hL0.dr dB hB10).at_, (hL1.dr dB hB10).at_, (hT0A.put ehdA (nl ek0) hWB).at_, (hT1A.put ehdA (nl ek1) hWB).at_, (hT2A.put ehdA hk2h hWB).at_, by rw [hsv]; exact dB.get hsb esl, by rw [upd_ne hhd.symm]; exact etlA⟩
    generalize upd HA hd (.lst []) = HB at M ⊢
    clear dB hWB ek0 ek1 nl n10 ehdA hhd hT2A hT1A hT0A hL1A hL0A eslA hBA hAA hWA d7A d79 hk2 hk2h etlA mtl etl9 m79 m9 hT2 nk2 etl8 hdb hB8 e8 m8 hget hl hc hR hvl nst e7 hA7 hW7 hL17 hL07 esl7 hB7 nk1 hT1 nk0 hT0 d7 ntl
    have hF0 : StF s0.sts := stf_of hWo (by have := hs0.m1; omega) (by omega) okN
    have hF1 : StF s1.sts := stf_of hWo (by have := hs1.m1; omega) (by have := hs1.l1; omega) okN1
    -- six looks
    refine ⟨(by decide : 6 ≤ sizeLine), fun tp ntp => ?_⟩
    obtain ⟨js, hjs⟩ : ∃ js : List Int, js = [0, 1, 2, 0, 1, 0] := ⟨_, rfl⟩
    have mt : Mv [] HB (upd HB tp (.tup (js.map V.int))) := .new ntp
    have et : SqT K (upd HB tp (.tup (js.map V.int))) tp (js.map V.int) := .inl (.inl upd_same)
    rw [show ([.int 0, .int 1, .int 2, .int 0, .int 1, .int 0] : List V) = js.map V.int by rw [hjs]; rfl]
    generalize upd HB tp (.tup (js.map V.int)) = HC at mt et ⊢
    have MC := M.mv mt
    refine ⟨tp, rfl, ?_⟩
    refine for_seq (xs := js.map V.int) (.inr et) (fun i σ HD => ∃ (y2 y10 : Option V), σ = [some (.ref a), some (.ref b), y2, some (.int s0.many), some (.ref d), some (.ref wx), some (.ref s0.c), some (.ref sl), some (.ref tl), some (.ref hd), y10, y11, y12, y13, y14, y15, y16, none, none, none] ∧ Mv [] HC HD)
      ⟨_, _, rfl, .refl⟩ (fun i σ HD hD => hD.choose_spec.choose_spec.2) (fun i x σ HD hx hD => ?_) (fun σ HD hD => ?_)
    · obtain ⟨y2', y10', rfl, mD⟩ := hD
      rw [List.getElem?_map] at hx
      obtain ⟨k, hk, rfl⟩ := Option.map_eq_some_iff.mp hx
      have MD := MC.mv mD
      have hk3 : k = 0 ∨ k = 1 ∨ k = 2 := by
        have := List.mem_of_getElem? hk
        rw [hjs] at this
        simp only [List.mem_cons, List.not_mem_nil, or_false] at this
        omega
      obtain ⟨x, sd, hso, hCd, hLd, e1, e2⟩ : ∃ (x : Addr) (sd : SideC), sd.ok rs ∧ CodAt K HD T.C_Code T.C_World x wx (normW rs) sd.many sd.given sd.sts ∧ LCode K HD sd.c d sd.many sd.given sd.sts ∧ ([.ref x0, .ref x1, .ref x2] : List V)[k.toNat]? = some (.ref x) ∧ ([.ref s0.c, .ref s1.c] : List V)[(k % 2).toNat]? = some (.ref sd.c) := by
        rcases hk3 with rfl | rfl | rfl
        · exact ⟨x0, s0, hs0, MD.t0, MD.c0, rfl, rfl⟩
        · exact ⟨x1, s1, hs1, MD.t1, MD.c1, rfl, rfl⟩
        · exact ⟨x2, s0, hs0, MD.t2, MD.c0, rfl, rfl⟩
      have hl1' := hso.l1
      have hm1' := hso.m1
      refine ⟨.ref tl, rfl, .int k, rfl, rd_ixL (.inl (.inl MD.etl)) (by omega) (v := .ref x) e1 ?_⟩
      refine ⟨.ref wx, rfl, .ref sl, rfl, .int k, rfl, Or.inl ⟨_, rfl, ⟨_, _, rfl, rfl, (by decide : (0 : Int) < 2), ?_⟩⟩⟩
      refine rd_ixL (.inl (.inl MD.esl)) (Int.emod_nonneg _ (by decide)) (v := .ref sd.c) e2 ?_
      exact ⟨x, wx, sd.c, d, normW rs, sd.many, sd.given, sd.sts, rfl, hCd, hLd, hWo, fun st hst => ⟨sta_norm (hso.raw st hst).1.1, (hso.raw st hst).2⟩, hso.l0, by omega, hso.g0, hso.g1, by omega, fun HE mE => ⟨_, rfl, ⟨_, _, rfl, mD.trans mE⟩⟩⟩
    obtain ⟨y2', y10', rfl, mD⟩ := hD
    have MD := MC.mv mD
    clear MC M mt et
    -- due
    refine ⟨(by decide : 3 ≤ sizeLine), fun tq ntq => ?_⟩
    obtain ⟨kb, hkb⟩ : ∃ kb : List (Str × Bool), kb = [(Str.ofString "many", !decide (s0.many = s1.many)), (Str.ofString "given", !decide (s0.given = s1.given)), (Str.ofString "rows", !stsEq s0.sts s1.sts)] := ⟨_, rfl⟩
    have mq : Mv [] HD (upd HD tq (.tup (kb.map fun e => V.str e.1))) := .new ntq
    have eq : SqT K (upd HD tq (.tup (kb.map fun e => V.str e.1))) tq (kb.map fun e => V.str e.1) := .inl (.inl upd_same)
    rw [show ([.str (Str.ofString "many"), .str (Str.ofString "given"), .str (Str.ofString "rows")] : List V) = kb.map fun e => V.str e.1 by rw [hkb]; rfl]
    generalize upd HD tq (.tup (kb.map fun e => V.str e.1)) = HE at mq eq ⊢
    have ME := MD.mv mq
    have kb3 : kb.length = 3 := by rw [hkb]; rfl
    refine ⟨tq, rfl, ?_⟩
    refine lc_seq (.inr eq) (fun i D HF => HF D = some (.lst (((kb.take i).filter (·.2)).map fun e => V.str e.1)) ∧ Mv [] HE HF) (fun D nD => ⟨upd_same, .new nD⟩) (fun i D HF nD hF => hF.2) (fun D nD i x HF hx hF => ?_) (fun D HF nD hF => ?_)
    · obtain ⟨eF, mF⟩ := hF
      rw [List.getElem?_map] at hx
      obtain ⟨⟨key, bb⟩, hkey, rfl⟩ := Option.map_eq_some_iff.mp hx
      have MF := ME.mv mF
      have hil := (List.getElem?_eq_some_iff.mp hkey).1
      obtain ⟨l0, vs0, hc0, hl0, hR0⟩ := id MF.c0
      obtain ⟨l1, vs1, hc1, hl1, hR1⟩ := id MF.c1
      have g0 : ∀ (f : Str) (v : V), valV (codeKv d l0 s0.many s0.given) (.inr f) = some v → DGet HF s0.c (.str f) (some v) := fun f v e => Or.inl ⟨_, .inr f, .inl hc0, rfl, e.symm⟩
      have g1 : ∀ (f : Str) (v : V), valV (codeKv d l1 s1.many s1.given) (.inr f) = some v → DGet HF s1.c (.str f) (some v) := fun f v e => Or.inl ⟨_, .inr f, .inl hc1, rfl, e.symm⟩
      obtain ⟨v0, v1, hv0, hv1, hv⟩ : ∃ v0 v1, DGet HF s0.c (.str key) (some v0) ∧ DGet HF s1.c (.str key) (some v1) ∧ ∀ Q : VK, Q (.bl bb) HF → rNeG K v0 v1 HF Q := by
        have hm := List.mem_of_getElem? hkey
        rw [hkb] at hm
        simp only [List.mem_cons, List.not_mem_nil, or_false, Prod.mk.injEq] at hm
        rcases hm with ⟨rfl, rfl⟩ | ⟨rfl, rfl⟩ | ⟨rfl, rfl⟩
        · refine ⟨_, _, g0 "many" _ (code_many _ _ _ _), g1 "many" _ (code_many _ _ _ _), fun Q q => Or.inl ⟨rfl, ?_⟩⟩
          rw [vint_eq]
          exact q
        · refine ⟨_, _, g0 "given" _ (code_given _ _ _ _), g1 "given" _ (code_given _ _ _ _), fun Q q => Or.inl ⟨rfl, ?_⟩⟩
          rw [vint_eq]
          exact q
        · exact ⟨_, _, g0 "rows" _ (code_rows _ _ _ _), g1 "rows" _ (code_rows _ _ _ _), fun Q q => Or.inr ⟨_, _, .lst (.inl (.inl hl0)) hR0.1.dp, .lst (.inl (.inl hl1)) hR1.1.dp, (list_shaped hF0).1, (list_shaped hF1).1, q⟩⟩
      refine ⟨rfl, ?_⟩
      refine ⟨.ref sl, rfl, rd_ixL (.inl (.inl MF.esl)) (by decide) (v := .ref s0.c) rfl ?_⟩
      refine ⟨.str key, rfl, s0.c, v0, rfl, hv0, ?_⟩
      refine ⟨.ref sl, rfl, rd_ixL (.inl (.inl MF.esl)) (by decide) (v := .ref s1.c) rfl ?_⟩
      refine ⟨.str key, rfl, s1.c, v1, rfl, hv1, hv _ ⟨_, rfl, ?_⟩⟩
      cases bb with
      | true =>
        refine ⟨.str key, rfl, _, eF, ?_, ?_, mF.wr nD⟩
        · rw [List.length_map]
          have h1 := List.length_filter_le (fun e : Str × Bool => e.2) (kb.take i)
          rw [List.length_take] at h1
          exact small1000 (by omega)
        · rw [upd_same, List.take_add_one, hkey, List.filter_append]
          simp only [Option.toList, List.filter_cons, List.filter_nil]
          rw [if_pos trivial, List.map_append]
          rfl
      | false =>
        refine ⟨?_, mF⟩
        rw [eF, List.take_add_one, hkey, List.filter_append]
        simp only [Option.toList, List.filter_cons, List.filter_nil]
        rw [if_neg (by simp), List.append_nil]
    obtain ⟨eF, mF⟩ := hF
    rw [List.length_map, List.take_length] at eF
    refine ⟨(by decide : 0 ≤ sizeLine), fun pn npn => ?_⟩
    refine ⟨D, pn, _, rfl, rfl, .inl (.inl (same_new npn _ _ eF)), .inl (.inl upd_same), ?_⟩
    have hdue : (((kb.filter (·.2)).map fun e => V.str e.1)).isEmpty = (decide (s0.many = s1.many) && (decide (s0.given = s1.given) && stsEq s0.sts s1.sts)) := by
      rw [hkb]
      cases decide (s0.many = s1.many) <;> cases decide (s0.given = s1.given) <;> cases stsEq s0.sts s1.sts <;> rfl
    rw [hdue]
    have MG := (ME.mv mF).mv (Mv.new (S := []) (o := .lst []) npn)
    generalize upd HF pn (.lst []) = HG at MG ⊢
    have ev : codeEq (normW rs) (normW rs) s0.many s1.many s0.given s1.given s0.sts s1.sts = (decide (s0.many = s1.many) && (decide (s0.given = s1.given) && stsEq s0.sts s1.sts)) := codeEq_due hwfn _ _ _ _ _ _
    have ev' : codeEq (normW rs) (normW rs) s1.many s0.many s1.given s0.given s1.sts s0.sts = (decide (s0.many = s1.many) && (decide (s0.given = s1.given) && stsEq s0.sts s1.sts)) := by
      rw [codeEq_due hwfn, stsEq_comm, show decide (s1.many = s0.many) = decide (s0.many = s1.many) from decide_eq_decide.mpr eq_comm, show decide (s1.given = s0.given) = decide (s0.given = s1.given) from decide_eq_decide.mpr eq_comm]
    have evs : codeEq (normW rs) (normW rs) s0.many s0.many s0.given s0.given s0.sts s0.sts = true := by
      rw [codeEq_due hwfn, stsEq_refl hF0, decide_eq_true rfl, decide_eq_true rfl]
      rfl
    generalize (decide (s0.many = s1.many) && (decide (s0.given = s1.given) && stsEq s0.sts s1.sts)) = due at ev ev' ⊢
    clear hdue eF mF ME mq eq hkb kb3 MD mD hF0 hF1
    have hF0 : StF s0.sts := stf_of hWo (by have := hs0.m1; omega) (by omega) okN
    have hF1 : StF s1.sts := stf_of hWo (by have := hs1.m1; omega) (by have := hs1.l1; omega) okN1
    -- the truths
    refine ⟨.ref tl, rfl, rd_ixL (.inl (.inl MG.etl)) (by decide) (v := .ref x0) rfl ⟨.ref tl, rfl, rd_ixL (.inl (.inl MG.etl)) (by decide) (v := .ref x1) rfl (rd_eqC MG.t0 MG.t1 hF0 hF1 fun H11 m11 => ?_)⟩⟩
    have M11 := MG.mv m11
    refine ⟨.ref tl, rfl, rd_ixL (.inl (.inl M11.etl)) (by decide) (v := .ref x1) rfl ⟨.ref tl, rfl, rd_ixL (.inl (.inl M11.etl)) (by decide) (v := .ref x0) rfl (rd_eqC M11.t1 M11.t0 hF1 hF0 fun H12 m12 => ?_)⟩⟩
    have M12 := M11.mv m12
    refine ⟨.ref tl, rfl, rd_ixL (.inl (.inl M12.etl)) (by decide) (v := .ref x0) rfl ⟨.ref tl, rfl, rd_ixL (.inl (.inl M12.etl)) (by decide) (v := .ref x2) rfl (rd_eqC M12.t0 M12.t2 hF0 hF0 fun H13 m13 => ?_)⟩⟩
    have M13 := M12.mv m13
    refine ⟨.ref tl, rfl, rd_ixL (.inl (.inl M13.etl)) (by decide) (v := .ref x0) rfl ⟨.ref tl, rfl, rd_ixL (.inl (.inl M13.etl)) (by decide) (v := .ref x1) rfl (rd_neC M13.t0 M13.t1 hF0 hF1 fun H14 m14 => ?_)⟩⟩
    have M14 := M13.mv m14
    rw [ev, ev', evs]
    refine ⟨(by decide : 4 ≤ sizeLine), fun ul nul => ?_⟩
    have m15 : Mv [] H14 (upd H14 ul (.lst [.bl due, .bl due, .bl true, .bl (!due)])) := .new nul
    have e15 : upd H14 ul (.lst [.bl due, .bl due, .bl true, .bl (!due)]) ul = some (.lst [.bl due, .bl due, .bl true, .bl (!due)]) := upd_same
    change (tSeq _ _) _ _ _
    generalize upd H14 ul (.lst [.bl due, .bl due, .bl true, .bl (!due)]) = H15 at m15 e15 ⊢
    refine ⟨.ref ul, rfl, .bl due, rfl, .bl due, rfl, .bl due, rfl, due, rfl, (by decide : 4 ≤ sizeLine), fun ul2 nul2 => ?_⟩
    have m16 : Mv [] H15 (upd H15 ul2 (.lst [.bl due, .bl due, .bl true, .bl (!due)])) := .new nul2
    have e16 : upd H15 ul2 (.lst [.bl due, .bl due, .bl true, .bl (!due)]) ul2 = some (.lst [.bl due, .bl due, .bl true, .bl (!due)]) := upd_same
    refine ⟨_, _, .list ([due, due, true, !due].map .bool), rfl, .lst (.inl (.inl (m16.same _ _ e15))) (dp_bls [due, due, true, !due]), .lst (.inl (.inl e16)) (dp_bls [due, due, true, !due]), shw_bls (by simp), ⟨_, rfl, ?_⟩⟩
    have M16 := (M14.mv m15).mv m16
    generalize upd H15 ul2 (.lst [.bl due, .bl due, .bl true, .bl (!due)]) = H16 at M16 ⊢
    clear e15 m15 m16 M14 M13 M12 M11 MG
    -- more
    refine ⟨.ref d, rfl, Or.inr ⟨d, _, rfl, M16.acts.at_, fun d2 nd2 => ?_⟩⟩
    have e17 : upd H16 d2 (.dK (zs.map ActA.kv)) d2 = some (.dK (zs.map ActA.kv)) := upd_same
    have m17 : Mv [] H16 (upd H16 d2 (.dK (zs.map ActA.kv))) := .new nd2
    generalize upd H16 d2 (.dK (zs.map ActA.kv)) = H17 at e17 m17 ⊢
    refine fun o6 no6 => ⟨upd_same, [(.inr (Str.ofString "ok"), .int 0)], rfl, by decide, ?_⟩
    rw [mergeK_nd _ _ (by decide +kernel), List.nil_append, upd_upd]
    generalize hrows : [(Str.ofString "ok", (0 : Int))] = rows
    have hrw : ([(.inr (Str.ofString "ok"), .int 0)] : List (L2.Key × V)) = rows.map rowK := by rw [← hrows]; rfl
    rw [hrw]
    have m18 : Mv [] H17 (upd H17 o6 (.dK (rows.map rowK))) := .new no6
    have e18 : upd H17 o6 (.dK (rows.map rowK)) o6 = some (.dK (rows.map rowK)) := upd_same
    generalize upd H17 o6 (.dK (rows.map rowK)) = H18 at m18 e18 ⊢
    refine ⟨(by decide : 2 ≤ sizeLine), fun a7 na7 => ?_⟩
    have m19 : Mv [] H18 (upd H18 a7 (.tup [.int 0, .ref o6])) := .new na7
    have e19 : SqT K (upd H18 a7 (.tup [.int 0, .ref o6])) a7 [.int 0, .ref o6] := .inl (.inl upd_same)
    change ∃ o, _
    generalize upd H18 a7 (.tup [.int 0, .ref o6]) = H19 at m19 e19 ⊢
    refine ⟨.ref d2, rfl, (by decide : 4 ≤ sizeLine), fun tr ntr => ?_⟩
    generalize hnames : [Str.ofString "zz", Str.ofString "yy", Str.ofString "xx", Str.ofString "ww"] = names
    have names5 : names.length = 4 := by rw [← hnames]; rfl
    have namesN : names.Nodup := by rw [← hnames]; decide +kernel
    have namesO : ∀ x ∈ names, Nm x := by rw [← hnames]; decide +kernel
    have e20 : SqT K (upd H19 tr (.tup (names.map V.str))) tr (names.map V.str) := .inl (.inl upd_same)
    have m20 : Mv [] H19 (upd H19 tr (.tup (names.map V.str))) := .new ntr
    rw [show ([.str (Str.ofString "zz"), .str (Str.ofString "yy"), .str (Str.ofString "xx"), .str (Str.ofString "ww")] : List V) = names.map V.str by rw [← hnames]; rfl]
    generalize upd H19 tr (.tup (names.map V.str)) = H20 at e20 m20 ⊢
    have m1620 := m17.trans (m18.trans (m19.trans m20))
    have hA20 := M16.acts.mv m1620
    refine ⟨tr, rfl, ?_⟩
    refine lc_seq (.inr e20) (fun i D H4 => H4 D = some (.lst (((names.take i).filter fun x => decide (x ∉ zs.map (·.r.nm))).map V.str)) ∧ Mv [] H20 H4) (fun D nD => ⟨upd_same, .new nD⟩) (fun i D H4 nD h4 => h4.2) (fun D nD i x H4 hx h4 => ?_) (fun D H21 nD h4 => ?_)
    · obtain ⟨e4, m4⟩ := h4
      rw [List.getElem?_map] at hx
      obtain ⟨x, hxx, rfl⟩ := Option.map_eq_some_iff.mp hx
      have hA4 := hA20.mv m4
      refine ⟨rfl, .str x, rfl, .ref d, rfl, d, _, rfl, hA4.has x, _, rfl, ?_⟩
      rw [act_some, ← decide_not]
      have hil := (List.getElem?_eq_some_iff.mp hxx).1
      refine ite2 (fun e => ?_) (fun e => ?_)
      · refine ⟨.str x, rfl, _, e4, ?_, ?_, m4.wr nD⟩
        · rw [List.length_map]
          have h1 := List.length_filter_le (fun x => decide (x ∉ zs.map (·.r.nm))) (names.take i)
          rw [List.length_take] at h1
          exact Nat.lt_of_le_of_lt (show _ ≤ 100 by omega) (by decide)
        · rw [upd_same, List.take_add_one, hxx, List.filter_append]
          simp only [Option.toList, List.filter_cons, List.filter_nil]
          rw [if_pos (by simpa using e), List.map_append]
          rfl
      · refine ⟨?_, m4⟩
        rw [e4, List.take_add_one, hxx, List.filter_append]
        simp only [Option.toList, List.filter_cons, List.filter_nil]
        rw [if_neg (by simpa using e), List.append_nil]
    obtain ⟨e21, m21⟩ := h4
    rw [List.length_map, List.take_length] at e21
    obtain ⟨x, r, hxr, hxm, hxn⟩ := first_new (ys := zs.map (·.r.nm)) namesN (by rw [List.length_map, names5]; omega)
    rw [hxr] at e21
    have m1621 := m1620.trans m21
    have hA21 := M16.acts.mv m1621
    have m1721 := m18.trans (m19.trans (m20.trans m21))
    have e1721 := m1721.same _ _ e17
    refine rd_ixL (.inl (.inl e21)) (by decide) (v := .str x) rfl ?_
    refine ⟨d2, _, rfl, Or.inl ⟨_, .inr x, e1721, rfl, ?_, rfl⟩, ?_⟩
    · rw [List.length_map]
      exact Nat.lt_of_le_of_lt (show zs.length ≤ 100 by omega) (by decide)
    obtain ⟨zn, hzn⟩ : ∃ zn : ActA, zn = ⟨⟨x, 0, rows⟩, a7, o6⟩ := ⟨_, rfl⟩
    have hput : putK (zs.map ActA.kv) (.inr x) (.ref a7) = (zs ++ [zn]).map ActA.kv := by
      rw [putK_new (by rw [kv_keys]; intro h; obtain ⟨y, hy, e⟩ := List.mem_map.mp h; cases e; exact hxn hy), List.map_append, hzn]
      rfl
    rw [hput]
    have hw : Mv [d2] H21 (upd H21 d2 (.dK ((zs ++ [zn]).map ActA.kv))) := .putD e1721
    have ho2 : o6 ≠ d2 := by
      rintro rfl
      rw [e17] at no6
      cases no6
    have hnR : ∀ e ∈ rows, Nm e.1 ∧ 0 ≤ e.2 ∧ e.2 ≤ 2 := by rw [← hrows]; decide +kernel
    have hlR : rows.length = 1 := by rw [← hrows]; rfl
    have hAM : ActsAt K (upd H21 d2 (.dK ((zs ++ [zn]).map ActA.kv))) d2 (zs ++ [zn]) := by
      refine ⟨upd_same, ?_, fun z hz => ?_, fun z hz => ?_, fun z hz => ?_⟩
      · rw [List.map_append, hzn]
        exact nd_snoc hA21.nd hxn
      · rcases List.mem_append.mp hz with hz | hz
        · exact hw.sqT (hA21.tup z hz)
        · rw [List.mem_singleton, hzn] at hz
          subst hz
          exact hw.sqT ((m20.trans m21).sqT e19)
      · rcases List.mem_append.mp hz with hz | hz
        · refine hw.keep _ _ ?_ (hA21.out z hz)
          intro e
          rw [List.mem_singleton] at e
          have h1 := M16.acts.out z hz
          rw [e, nd2] at h1
          cases h1
        · rw [List.mem_singleton, hzn] at hz
          subst hz
          exact hw.keep _ _ (by simpa using ho2) ((m19.trans (m20.trans m21)).same _ _ e18)
      · rcases List.mem_append.mp hz with hz | hz
        · exact hA21.ond z hz
        · rw [List.mem_singleton, hzn] at hz
          subst hz
          show (rows.map (·.1)).Nodup
          rw [← hrows]
          decide +kernel
    have hokM : ∀ z ∈ zs ++ [zn], z.r.ok := fun z hz => by
      rcases List.mem_append.mp hz with hz | hz
      · exact hD.ok _ (by rw [hrs]; exact List.mem_map.mpr ⟨z, hz, rfl⟩)
      · rw [List.mem_singleton, hzn] at hz
        subst hz
        exact ⟨namesO x hxm, (by decide : (0 : Int) ≤ 0), (by decide : (0 : Int) ≤ 2), by show 1 ≤ rows.length; omega, by show rows.length ≤ 6; omega, fun e he => ⟨on_nm (hnR e he).1, (hnR e he).2⟩⟩
    have mM : Mv [] H16 (upd H21 d2 (.dK ((zs ++ [zn]).map ActA.kv))) := m1621.wr nd2
    have MM := M16.mv mM
    generalize upd H21 d2 (.dK ((zs ++ [zn]).map ActA.kv)) = HM at hAM MM ⊢
    clear mM hw hput ho2 e1721 m1721 hA21 m1621 m21 e21 hA20 m1620 m20 e20 m19 e19 m18 e18 m17 e17 M16 nD
    obtain ⟨rsM, hrsM⟩ : ∃ rsM, rsM = (zs ++ [zn]).map (·.r) := ⟨_, rfl⟩
    have hrM1 : rsM = rs ++ [zn.r] := by rw [hrsM, hrs, List.map_append]; rfl
    have hwfM : WfR rsM := by rw [hrsM]; exact hAM.wf
    have hWoM : WOk (normW rsM) := wok_norm (fun r hr' => by rw [hrsM] at hr'; obtain ⟨z, hz, rfl⟩ := List.mem_map.mp hr'; exact hokM z hz) hwfM.nd (by rw [hrM1, List.length_append]; show rs.length + 1 < 60; omega) hwfM.ond
    -- wider
    refine ⟨.ref d2, rfl, fun x4 dx4 nx4 ndx4 hne4 => ⟨x4, dx4, d2, zs ++ [zn], HM, rfl, rfl, nx4, ndx4, hne4, hAM, hokM, by rw [List.length_append]; show zs.length + 1 < 60; omega, fun H22 m22 hW22 => ⟨rfl, ?_⟩⟩⟩
    have M22 := MM.mv m22
    have hW22 := hW22.at_
    rw [← hrsM] at hW22
    obtain ⟨l22, vs22, hc22, hl22, hR22⟩ := id M22.c0
    have hget22 : ∀ (f : Str) (v : V), valV (codeKv d l22 s0.many s0.given) (.inr f) = some v → DGet H22 s0.c (.str f) (some v) := fun f v e => Or.inl ⟨_, .inr f, .inl hc22, rfl, e.symm⟩
    have okM : ∀ st ∈ s0.sts, st.ok (normW rsM) s0.many s0.sts.length := fun st hst => sta_norm (sta_sub (fun r hr' => by rw [hrM1]; exact List.mem_append_left _ hr') (hs0.raw st hst).1.1)
    refine ⟨.int s0.many, rfl, .ref s0.c, rfl, s0.c, .int s0.given, rfl, hget22 "given" _ (code_given _ _ _ _), .ref s0.c, rfl, s0.c, .ref l22, rfl, hget22 "rows" _ (code_rows _ _ _ _), ?_⟩
    refine fun x5 dx5 nx5 ndx5 hne5 => ⟨x5, dx5, x4, l22, normW rsM, s0.many, s0.given, vs22, s0.sts, H22, rfl, rfl, nx5, ndx5, hne5, hW22, hWoM, by omega, hm24, hs0.g0, hs0.g1, .inl hl22, hR22.1, okM, hs0.l0, by omega, fun k5 H23 m23 nk5 hT5 => ⟨rfl, ?_⟩⟩
    rw [ordN] at hT5
    have hT5 := hT5.at_
    have M23 := M22.mv m23
    -- the same
    refine ⟨.ref b, rfl, .ref d, rfl, b, d, zs, rfl, M23.bag, M23.acts, fun z hz => hD.ok _ (by rw [hrs]; exact List.mem_map.mpr ⟨z, hz, rfl⟩), by omega, fun w6 H24 hW24 d24 => ?_⟩
    rw [← hrs] at hW24
    have M24 := M23.dr d24 hsb htb
    have hT524 := hT5.dr d24 M23.bag
    obtain ⟨l24, vs24, hc24, hl24, hR24⟩ := id M24.c0
    have hget24 : ∀ (f : Str) (v : V), valV (codeKv d l24 s0.many s0.given) (.inr f) = some v → DGet H24 s0.c (.str f) (some v) := fun f v e => Or.inl ⟨_, .inr f, .inl hc24, rfl, e.symm⟩
    refine ⟨.int s0.many, rfl, .ref s0.c, rfl, s0.c, .int s0.given, rfl, hget24 "given" _ (code_given _ _ _ _), .ref s0.c, rfl, s0.c, .ref l24, rfl, hget24 "rows" _ (code_rows _ _ _ _), ?_⟩
    refine fun x6 dx6 nx6 ndx6 hne6 => ⟨x6, dx6, w6, l24, normW rs, s0.many, s0.given, vs24, s0.sts, H24, rfl, rfl, nx6, ndx6, hne6, hW24, hWo, by omega, hm24, hs0.g0, hs0.g1, .inl hl24, hR24.1, okN, hs0.l0, by omega, fun k6 H25 m25 nk6 hT6 => ⟨rfl, ?_⟩⟩
    rw [ordN] at hT6
    have hT6 := hT6.at_
    have M25 := M24.mv m25
    have hT525 := hT524.mv m25
    have neM : rsEq (normW rs) (normW rsM) = false := rsEq_len (by rw [normW_len, normW_len, hrM1, List.length_append]; show rs.length ≠ rs.length + 1; omega)
    have neM' : rsEq (normW rsM) (normW rs) = false := rsEq_len (by rw [normW_len, normW_len, hrM1, List.length_append]; show rs.length + 1 ≠ rs.length; omega)
    refine ⟨.ref tl, rfl, rd_ixL (.inl (.inl M25.etl)) (by decide) (v := .ref x0) rfl ⟨.ref x5, rfl, rd_eqC M25.t0 hT525 hF0 hF0 fun H26 m26 => ?_⟩⟩
    have M26 := M25.mv m26
    refine ⟨.ref x5, rfl, .ref tl, rfl, rd_ixL (.inl (.inl M26.etl)) (by decide) (v := .ref x0) rfl (rd_eqC (hT525.mv m26) M26.t0 hF0 hF0 fun H27 m27 => ?_)⟩
    have M27 := M26.mv m27
    refine ⟨.ref tl, rfl, rd_ixL (.inl (.inl M27.etl)) (by decide) (v := .ref x0) rfl ⟨.ref x6, rfl, rd_eqC M27.t0 (hT6.mv (m26.trans m27)) hF0 hF0 fun H28 m28 => ?_⟩⟩
    have M28 := M27.mv m28
    rw [codeEq_w neM, codeEq_w neM', evs]
    refine ⟨(by decide : 3 ≤ sizeLine), fun ul3 nul3 => ?_⟩
    have m29 : Mv [] H28 (upd H28 ul3 (.lst [.bl false, .bl false, .bl true])) := .new nul3
    have e29 : upd H28 ul3 (.lst [.bl false, .bl false, .bl true]) ul3 = some (.lst [.bl false, .bl false, .bl true]) := upd_same
    change _ ∧ _
    refine ⟨(by decide : 3 ≤ sizeLine), fun ul4 nul4 => ?_⟩
    have m30 : Mv [] (upd H28 ul3 (.lst [.bl false, .bl false, .bl true])) (upd (upd H28 ul3 (.lst [.bl false, .bl false, .bl true])) ul4 (.lst [.bl false, .bl false, .bl true])) := .new nul4
    have e30 : upd (upd H28 ul3 (.lst [.bl false, .bl false, .bl true])) ul4 (.lst [.bl false, .bl false, .bl true]) ul4 = some (.lst [.bl false, .bl false, .bl true]) := upd_same
    refine ⟨_, _, .list ([false, false, true].map .bool), rfl, .lst (.inl (.inl (m30.same _ _ e29))) (dp_bls [false, false, true]), .lst (.inl (.inl e30)) (dp_bls [false, false, true]), shw_bls (by simp), ⟨_, rfl, ?_⟩⟩
    have M30 := (M28.mv m29).mv m30
    generalize upd (upd H28 ul3 (.lst [.bl false, .bl false, .bl true])) ul4 (.lst [.bl false, .bl false, .bl true]) = H30 at M30 ⊢
    clear m30 e30 e29 m29 M28 M27 M26 M25 M24 M23 M22 MM
    -- another code
    refine fun d31 nd31 => fun x7 dx7 nx7 ndx7 hne7 => ⟨x7, dx7, d31, [], _, rfl, rfl, nx7, ndx7, hne7, ⟨upd_same, by simp, by simp, by simp, by simp⟩, by simp, by decide, fun H32 m32 hW32 => ⟨rfl, ?_⟩⟩
    have M32 := (M30.mv (Mv.new (S := []) nd31)).mv m32
    have hW32 := hW32.at_
    obtain ⟨l32, vs32, hc32, hl32, hR32⟩ := id M32.c0
    refine ⟨.int s0.many, rfl, .ref s0.c, rfl, s0.c, .int s0.given, rfl, Or.inl ⟨_, .inr "given", .inl hc32, rfl, (code_given _ _ _ _).symm⟩, (by decide : 0 ≤ sizeLine), fun p33 np33 => ?_⟩
    have m33 : Mv [] H32 (upd H32 p33 (.tup [])) := .new np33
    have e33 : SqT K (upd H32 p33 (.tup [])) p33 [] := .inl (.inl upd_same)
    change _ ∧ _
    generalize upd H32 p33 (.tup []) = H33 at m33 e33 ⊢
    refine ⟨(by decide : 3 ≤ sizeLine), fun p34 np34 => ?_⟩
    have m34 : Mv [] H33 (upd H33 p34 (.tup [.str "end", .str "out", .ref p33])) := .new np34
    have e34 : SqT K (upd H33 p34 (.tup [.str "end", .str "out", .ref p33])) p34 [.str "end", .str "out", .ref p33] := .inl (.inl upd_same)
    change _ ∧ _
    generalize upd H33 p34 (.tup [.str "end", .str "out", .ref p33]) = H34 at m34 e34 ⊢
    refine ⟨(by decide : 1 ≤ sizeLine), fun p35 np35 => ?_⟩
    have m35 : Mv [] H34 (upd H34 p35 (.lst [.ref p34])) := .new np35
    have e35 : upd H34 p35 (.lst [.ref p34]) p35 = some (.lst [.ref p34]) := upd_same
    generalize upd H34 p35 (.lst [.ref p34]) = H35 at m35 e35 ⊢
    have m3235 := m33.trans (m34.trans m35)
    have nOut : Nm "out" := by decide +kernel
    have hIe : Ims K H35 [.ref p34] ([Sta.fin "out" []].map Sta.d) := .cons (.tup (m35.sqT e34) (.cons (.str _) (.cons (.str _) (.cons (.tup ((m34.trans m35).sqT e33) .nil) .nil)))) .nil
    have hW0 : WOk (normW []) := wok_norm (by simp) (by simp) (by decide) (by simp)
    have okE : ∀ st ∈ [Sta.fin "out" []], st.ok (normW []) s0.many ([Sta.fin "out" []].length : Nat) := fun st hst => by
      rw [List.mem_singleton] at hst
      subst hst
      exact ⟨nOut, by simp, by simp⟩
    refine fun x8 dx8 nx8 ndx8 hne8 => ⟨x8, dx8, x7, p35, normW [], s0.many, s0.given, [.ref p34], [Sta.fin "out" []], H35, rfl, rfl, nx8, ndx8, hne8, hW32.mv m3235, hW0, by omega, hm24, hs0.g0, hs0.g1, .inl e35, hIe, okE, by decide, by decide, fun k8 H36 m36 nk8 hT8 => ⟨rfl, ?_⟩⟩
    have hT8 := hT8.at_
    have M36 := (M32.mv m3235).mv m36
    have hFE : StF ([Sta.fin "out" []].map Sta.ord) := stf_of hW0 (many := s0.many) (places := 1) (by omega) (by decide) okE
    have neE : rsEq (normW rs) (normW []) = false := rsEq_len (by rw [normW_len, normW_len]; show rs.length ≠ 0; omega)
    -- other things
    refine ⟨.ref wx, rfl, .ref s0.c, rfl, (by decide : 0 ≤ sizeLine), fun ep nep => ?_⟩
    have m37 : Mv [] H36 (upd H36 ep (.tup [])) := .new nep
    have e37 : SqT K (upd H36 ep (.tup [])) ep [] := .inl (.inl upd_same)
    change ∃ o, _
    generalize upd H36 ep (.tup []) = H37 at m37 e37 ⊢
    refine ⟨.ref x8, rfl, (by decide : 6 ≤ sizeLine), fun op nop => ?_⟩
    have m38 : Mv [] H37 (upd H37 op (.tup [.non, .ref wx, .ref s0.c, .ref ep, .str (Str.ofString "code"), .ref x8])) := .new nop
    have e38 : SqT K (upd H37 op (.tup [.non, .ref wx, .ref s0.c, .ref ep, .str (Str.ofString "code"), .ref x8])) op [.non, .ref wx, .ref s0.c, .ref ep, .str (Str.ofString "code"), .ref x8] := .inl (.inl upd_same)
    generalize upd H37 op (.tup [.non, .ref wx, .ref s0.c, .ref ep, .str (Str.ofString "code"), .ref x8]) = H38 at m38 e38 ⊢
    have M38 := (M36.mv m37).mv m38
    have hT838 := hT8.mv (m37.trans m38)
    have m0 := m38.sqT e37
    have cmp : ∀ x ∈ ([.non, .ref wx, .ref s0.c, .ref ep, .str (Str.ofString "code"), .ref x8] : List V), ∀ H', Mv [] H38 H' → ∀ (Q : VK) (E : XK), (∀ H'', Mv [] H' H'' → Q (.bl false) H'') → rOwnG K T.C_Code (sp_CodeEq K T.C_Code T.C_World) E (.ref x0) x H' Q := fun x hx H' m Q E q => by
      have MX := M38.mv m
      obtain ⟨dx0, ws0, hsl0⟩ := MX.t0.slt
      have pl : ∀ {ty : String} {x : V}, TyX K H' x (.type ty) → plainTy ty = true → rOwnG K T.C_Code (sp_CodeEq K T.C_Code T.C_World) E (.ref x0) x H' Q := fun {ty x} ht hp => ⟨x0, dx0, ws0, rfl, hsl0, .inr ⟨_, ht, notFirst_plain hp⟩, x0, wx, _, _, _, _, x, rfl, MX.t0, hF0, .inr (.inl ⟨ty, ht, hp, q H' .refl⟩)⟩
      simp only [List.mem_cons, List.not_mem_nil, or_false] at hx
      rcases hx with rfl | rfl | rfl | rfl | rfl | rfl
      · exact pl (ty := "NoneType") (.base .non) (by decide +kernel)
      · obtain ⟨dw, _, _, hws, _⟩ := id MX.wld
        exact ⟨x0, dx0, ws0, rfl, hsl0, .inl ⟨wx, _, _, _, rfl, hws, notFirst_dif T.df_World_Code⟩, x0, wx, _, _, _, _, .ref wx, rfl, MX.t0, hF0, .inr (.inr ⟨wx, _, rfl, MX.wld, q H' .refl⟩)⟩
      · obtain ⟨_, _, hcX, _⟩ := id MX.c0
        exact pl (ty := "dict") (.base (.dK hcX)) (by decide +kernel)
      · exact pl (ty := "tuple") (tyx_sqT (m.sqT m0)) (by decide +kernel)
      · exact pl (ty := "str") (.base (.str _)) (by decide +kernel)
      · refine rd_eqC MX.t0 (hT838.mv m) hF0 hFE fun H'' m'' => ?_
        rw [codeEq_w neE]
        exact q H'' m''
    refine ⟨op, rfl, ?_⟩
    refine lc_seq (.inr e38) (fun i D H17 => H17 D = some (.lst []) ∧ Mv [] H38 H17) (fun D nD => ⟨upd_same, .new nD⟩) (fun i D H17 nD h17 => h17.2) (fun D nD i x H17 hx h17 => ?_) (fun D H17 nD h17 => ?_)
    · obtain ⟨e17, m17⟩ := h17
      have MX := M38.mv m17
      refine ⟨rfl, ?_⟩
      refine ⟨.ref tl, rfl, rd_ixL (.inl (.inl MX.etl)) (by decide) (v := .ref x0) rfl ⟨x, rfl, cmp x (List.mem_of_getElem? hx) H17 m17 _ _ fun H18 m18 => ⟨_, rfl, ?_⟩⟩⟩
      exact ⟨m18.same _ _ e17, m17.trans m18⟩
    obtain ⟨e17, m17⟩ := h17
    refine ⟨(by decide : 0 ≤ sizeLine), fun p18 np18 => ?_⟩
    refine ⟨D, p18, [], rfl, rfl, .inl (.inl (same_new np18 _ _ e17)), .inl (.inl upd_same), ⟨_, rfl, ?_⟩⟩
    exact ⟨_, _, _, _, _, _, _, _, _, _, _, _, _, _, _, rfl, M38.bag.mv (m17.trans (.new np18))⟩
end
end Fm
namespace Fm
open PySem PySem.Spec PyProof.Rows L2 SlX
section
variable {l : PySem.W.OpenLaw} {w : World} {K : PySem.W.Frag} {mg : Str → Option Value} {fa : Addr}
theorem all_mk {h : Heap} (X : K.In h) (G : h.Ns mainGlobals mg) (hfa : mg "law" = some (.ref fa))
    {f0 : Addr} {od0 an0 : Option Addr} {sl0 : Array (Option Value)} {oc0 kV0 dc0 pm0 cd0 ct0 : Value}
    (a0 : PySem.W.nsIn K mainGlobals "_wall" = some (some (.ref f0))) (l0 : K.lookup f0 = some ⟨oc0, od0, .func (PySem.W.fnOf "_wall" "_wall" (defArgs s__wall) (defBody s__wall) (defScope s__wall) .none kV0 dc0 pm0 an0 cd0 ct0), sl0⟩) (c0 : PySem.W.codeIn K cd0 "_wall" = true) (k0 : PySem.W.keepIn K (.ref f0) = true)
    {f1 : Addr} {od1 an1 : Option Addr} {sl1 : Array (Option Value)} {oc1 kV1 dc1 pm1 cd1 ct1 : Value}
    (a1 : PySem.W.nsIn K mainGlobals "is_integer" = some (some (.ref f1))) (l1 : K.lookup f1 = some ⟨oc1, od1, .func (PySem.W.fnOf "is_integer" "is_integer" (defArgs s_is_integer) (defBody s_is_integer) (defScope s_is_integer) .none kV1 dc1 pm1 an1 cd1 ct1), sl1⟩) (c1 : PySem.W.codeIn K cd1 "is_integer" = true) (k1 : PySem.W.keepIn K (.ref f1) = true)
    {f2 : Addr} {od2 an2 : Option Addr} {sl2 : Array (Option Value)} {oc2 kV2 dc2 pm2 cd2 ct2 : Value}
    (a2 : PySem.W.nsIn K mainGlobals "is_name" = some (some (.ref f2))) (l2 : K.lookup f2 = some ⟨oc2, od2, .func (PySem.W.fnOf "is_name" "is_name" (defArgs s_is_name) (defBody s_is_name) (defScope s_is_name) .none kV2 dc2 pm2 an2 cd2 ct2), sl2⟩) (c2 : PySem.W.codeIn K cd2 "is_name" = true) (k2 : PySem.W.keepIn K (.ref f2) = true)
    {f3 : Addr} {od3 an3 : Option Addr} {sl3 : Array (Option Value)} {oc3 kV3 dc3 pm3 cd3 ct3 : Value}
    (a3 : PySem.W.nsIn K mainGlobals "is_outcome" = some (some (.ref f3))) (l3 : K.lookup f3 = some ⟨oc3, od3, .func (PySem.W.fnOf "is_outcome" "is_outcome" (defArgs s_is_outcome) (defBody s_is_outcome) (defScope s_is_outcome) .none kV3 dc3 pm3 an3 cd3 ct3), sl3⟩) (c3 : PySem.W.codeIn K cd3 "is_outcome" = true) (k3 : PySem.W.keepIn K (.ref f3) = true)
    {f4 : Addr} {od4 an4 : Option Addr} {sl4 : Array (Option Value)} {oc4 kV4 dc4 pm4 cd4 ct4 : Value}
    (a4 : PySem.W.nsIn K mainGlobals "is_term" = some (some (.ref f4))) (l4 : K.lookup f4 = some ⟨oc4, od4, .func (PySem.W.fnOf "is_term" "is_term" (defArgs s_is_term) (defBody s_is_term) (defScope s_is_term) .none kV4 dc4 pm4 an4 cd4 ct4), sl4⟩) (c4 : PySem.W.codeIn K cd4 "is_term" = true) (k4 : PySem.W.keepIn K (.ref f4) = true)
    {f5 : Addr} {od5 an5 : Option Addr} {sl5 : Array (Option Value)} {oc5 kV5 dc5 pm5 cd5 ct5 : Value}
    (a5 : PySem.W.nsIn K mainGlobals "is_term_over" = some (some (.ref f5))) (l5 : K.lookup f5 = some ⟨oc5, od5, .func (PySem.W.fnOf "is_term_over" "is_term_over" (defArgs s_is_term_over) (defBody s_is_term_over) (defScope s_is_term_over) .none kV5 dc5 pm5 an5 cd5 ct5), sl5⟩) (c5 : PySem.W.codeIn K cd5 "is_term_over" = true) (k5 : PySem.W.keepIn K (.ref f5) = true)
    {f6 : Addr} {od6 an6 : Option Addr} {sl6 : Array (Option Value)} {oc6 kV6 dc6 pm6 cd6 ct6 : Value}
    (a6 : PySem.W.nsIn K mainGlobals "is_within" = some (some (.ref f6))) (l6 : K.lookup f6 = some ⟨oc6, od6, .func (PySem.W.fnOf "is_within" "is_within" (defArgs s_is_within) (defBody s_is_within) (defScope s_is_within) .none kV6 dc6 pm6 an6 cd6 ct6), sl6⟩) (c6 : PySem.W.codeIn K cd6 "is_within" = true) (k6 : PySem.W.keepIn K (.ref f6) = true)
    {f7 : Addr} {od7 an7 : Option Addr} {sl7 : Array (Option Value)} {oc7 kV7 dc7 pm7 cd7 ct7 : Value}
    (a7 : PySem.W.nsIn K mainGlobals "are_outcomes" = some (some (.ref f7))) (l7 : K.lookup f7 = some ⟨oc7, od7, .func (PySem.W.fnOf "are_outcomes" "are_outcomes" (defArgs s_are_outcomes) (defBody s_are_outcomes) (defScope s_are_outcomes) .none kV7 dc7 pm7 an7 cd7 ct7), sl7⟩) (c7 : PySem.W.codeIn K cd7 "are_outcomes" = true) (k7 : PySem.W.keepIn K (.ref f7) = true)
    {f8 : Addr} {od8 an8 : Option Addr} {sl8 : Array (Option Value)} {oc8 kV8 dc8 pm8 cd8 ct8 : Value}
    (a8 : PySem.W.nsIn K mainGlobals "is_act" = some (some (.ref f8))) (l8 : K.lookup f8 = some ⟨oc8, od8, .func (PySem.W.fnOf "is_act" "is_act" (defArgs s_is_act) (defBody s_is_act) (defScope s_is_act) .none kV8 dc8 pm8 an8 cd8 ct8), sl8⟩) (c8 : PySem.W.codeIn K cd8 "is_act" = true) (k8 : PySem.W.keepIn K (.ref f8) = true)
    {f9 : Addr} {od9 an9 : Option Addr} {sl9 : Array (Option Value)} {oc9 kV9 dc9 pm9 cd9 ct9 : Value}
    (a9 : PySem.W.nsIn K mainGlobals "are_different" = some (some (.ref f9))) (l9 : K.lookup f9 = some ⟨oc9, od9, .func (PySem.W.fnOf "are_different" "are_different" (defArgs s_are_different) (defBody s_are_different) (defScope s_are_different) .none kV9 dc9 pm9 an9 cd9 ct9), sl9⟩) (c9 : PySem.W.codeIn K cd9 "are_different" = true) (k9 : PySem.W.keepIn K (.ref f9) = true)
    {f10 : Addr} {od10 an10 : Option Addr} {sl10 : Array (Option Value)} {oc10 kV10 dc10 pm10 cd10 ct10 : Value}
    (a10 : PySem.W.nsIn K mainGlobals "are_terms_over" = some (some (.ref f10))) (l10 : K.lookup f10 = some ⟨oc10, od10, .func (PySem.W.fnOf "are_terms_over" "are_terms_over" (defArgs s_are_terms_over) (defBody s_are_terms_over) (defScope s_are_terms_over) .none kV10 dc10 pm10 an10 cd10 ct10), sl10⟩) (c10 : PySem.W.codeIn K cd10 "are_terms_over" = true) (k10 : PySem.W.keepIn K (.ref f10) = true)
    {f11 : Addr} {od11 an11 : Option Addr} {sl11 : Array (Option Value)} {oc11 kV11 dc11 pm11 cd11 ct11 : Value}
    (a11 : PySem.W.nsIn K mainGlobals "is_place" = some (some (.ref f11))) (l11 : K.lookup f11 = some ⟨oc11, od11, .func (PySem.W.fnOf "is_place" "is_place" (defArgs s_is_place) (defBody s_is_place) (defScope s_is_place) .none kV11 dc11 pm11 an11 cd11 ct11), sl11⟩) (c11 : PySem.W.codeIn K cd11 "is_place" = true) (k11 : PySem.W.keepIn K (.ref f11) = true)
    {f12 : Addr} {od12 an12 : Option Addr} {sl12 : Array (Option Value)} {oc12 kV12 dc12 pm12 cd12 ct12 : Value}
    (a12 : PySem.W.nsIn K mainGlobals "is_pair" = some (some (.ref f12))) (l12 : K.lookup f12 = some ⟨oc12, od12, .func (PySem.W.fnOf "is_pair" "is_pair" (defArgs s_is_pair) (defBody s_is_pair) (defScope s_is_pair) .none kV12 dc12 pm12 an12 cd12 ct12), sl12⟩) (c12 : PySem.W.codeIn K cd12 "is_pair" = true) (k12 : PySem.W.keepIn K (.ref f12) = true)
    {f13 : Addr} {od13 an13 : Option Addr} {sl13 : Array (Option Value)} {oc13 kV13 dc13 pm13 cd13 ct13 : Value}
    (a13 : PySem.W.nsIn K mainGlobals "is_set" = some (some (.ref f13))) (l13 : K.lookup f13 = some ⟨oc13, od13, .func (PySem.W.fnOf "is_set" "is_set" (defArgs s_is_set) (defBody s_is_set) (defScope s_is_set) .none kV13 dc13 pm13 an13 cd13 ct13), sl13⟩) (c13 : PySem.W.codeIn K cd13 "is_set" = true) (k13 : PySem.W.keepIn K (.ref f13) = true)
    {f14 : Addr} {od14 an14 : Option Addr} {sl14 : Array (Option Value)} {oc14 kV14 dc14 pm14 cd14 ct14 : Value}
    (a14 : PySem.W.nsIn K mainGlobals "is_way" = some (some (.ref f14))) (l14 : K.lookup f14 = some ⟨oc14, od14, .func (PySem.W.fnOf "is_way" "is_way" (defArgs s_is_way) (defBody s_is_way) (defScope s_is_way) .none kV14 dc14 pm14 an14 cd14 ct14), sl14⟩) (c14 : PySem.W.codeIn K cd14 "is_way" = true) (k14 : PySem.W.keepIn K (.ref f14) = true)
    {f15 : Addr} {od15 an15 : Option Addr} {sl15 : Array (Option Value)} {oc15 kV15 dc15 pm15 cd15 ct15 : Value}
    (a15 : PySem.W.nsIn K mainGlobals "is_ask" = some (some (.ref f15))) (l15 : K.lookup f15 = some ⟨oc15, od15, .func (PySem.W.fnOf "is_ask" "is_ask" (defArgs s_is_ask) (defBody s_is_ask) (defScope s_is_ask) .none kV15 dc15 pm15 an15 cd15 ct15), sl15⟩) (c15 : PySem.W.codeIn K cd15 "is_ask" = true) (k15 : PySem.W.keepIn K (.ref f15) = true)
    {f16 : Addr} {od16 an16 : Option Addr} {sl16 : Array (Option Value)} {oc16 kV16 dc16 pm16 cd16 ct16 : Value}
    (a16 : PySem.W.nsIn K mainGlobals "is_end" = some (some (.ref f16))) (l16 : K.lookup f16 = some ⟨oc16, od16, .func (PySem.W.fnOf "is_end" "is_end" (defArgs s_is_end) (defBody s_is_end) (defScope s_is_end) .none kV16 dc16 pm16 an16 cd16 ct16), sl16⟩) (c16 : PySem.W.codeIn K cd16 "is_end" = true) (k16 : PySem.W.keepIn K (.ref f16) = true)
    {f17 : Addr} {od17 an17 : Option Addr} {sl17 : Array (Option Value)} {oc17 kV17 dc17 pm17 cd17 ct17 : Value}
    (a17 : PySem.W.nsIn K mainGlobals "is_statement" = some (some (.ref f17))) (l17 : K.lookup f17 = some ⟨oc17, od17, .func (PySem.W.fnOf "is_statement" "is_statement" (defArgs s_is_statement) (defBody s_is_statement) (defScope s_is_statement) .none kV17 dc17 pm17 an17 cd17 ct17), sl17⟩) (c17 : PySem.W.codeIn K cd17 "is_statement" = true) (k17 : PySem.W.keepIn K (.ref f17) = true)
    {f18 : Addr} {od18 an18 : Option Addr} {sl18 : Array (Option Value)} {oc18 kV18 dc18 pm18 cd18 ct18 : Value}
    (a18 : PySem.W.nsIn K mainGlobals "ordered" = some (some (.ref f18))) (l18 : K.lookup f18 = some ⟨oc18, od18, .func (PySem.W.fnOf "ordered" "ordered" (defArgs s_ordered) (defBody s_ordered) (defScope s_ordered) .none kV18 dc18 pm18 an18 cd18 ct18), sl18⟩) (c18 : PySem.W.codeIn K cd18 "ordered" = true) (k18 : PySem.W.keepIn K (.ref f18) = true)
    {f19 : Addr} {od19 an19 : Option Addr} {sl19 : Array (Option Value)} {oc19 kV19 dc19 pm19 cd19 ct19 : Value}
    (a19 : PySem.W.nsIn K mainGlobals "first_of" = some (some (.ref f19))) (l19 : K.lookup f19 = some ⟨oc19, od19, .func (PySem.W.fnOf "first_of" "first_of" (defArgs s_first_of) (defBody s_first_of) (defScope s_first_of) .none kV19 dc19 pm19 an19 cd19 ct19), sl19⟩) (c19 : PySem.W.codeIn K cd19 "first_of" = true) (k19 : PySem.W.keepIn K (.ref f19) = true)
    {f20 : Addr} {od20 an20 : Option Addr} {sl20 : Array (Option Value)} {oc20 kV20 dc20 pm20 cd20 ct20 : Value}
    (a20 : PySem.W.nsIn K mainGlobals "_law_bag" = some (some (.ref f20))) (l20 : K.lookup f20 = some ⟨oc20, od20, .func (PySem.W.fnOf "_law_bag" "_law_bag" (defArgs s__law_bag) (defBody s__law_bag) (defScope s__law_bag) .none kV20 dc20 pm20 an20 cd20 ct20), sl20⟩) (c20 : PySem.W.codeIn K cd20 "_law_bag" = true) (k20 : PySem.W.keepIn K (.ref f20) = true)
    {f21 : Addr} {od21 an21 : Option Addr} {sl21 : Array (Option Value)} {oc21 kV21 dc21 pm21 cd21 ct21 : Value}
    (a21 : PySem.W.nsIn K mainGlobals "_law_take" = some (some (.ref f21))) (l21 : K.lookup f21 = some ⟨oc21, od21, .func (PySem.W.fnOf "_law_take" "_law_take" (defArgs s__law_take) (defBody s__law_take) (defScope s__law_take) .none kV21 dc21 pm21 an21 cd21 ct21), sl21⟩) (c21 : PySem.W.codeIn K cd21 "_law_take" = true) (k21 : PySem.W.keepIn K (.ref f21) = true)
    {f22 : Addr} {od22 an22 : Option Addr} {sl22 : Array (Option Value)} {oc22 kV22 dc22 pm22 cd22 ct22 : Value}
    (a22 : PySem.W.nsIn K mainGlobals "_law_alike" = some (some (.ref f22))) (l22 : K.lookup f22 = some ⟨oc22, od22, .func (PySem.W.fnOf "_law_alike" "_law_alike" (defArgs s__law_alike) (defBody s__law_alike) (defScope s__law_alike) .none kV22 dc22 pm22 an22 cd22 ct22), sl22⟩) (c22 : PySem.W.codeIn K cd22 "_law_alike" = true) (k22 : PySem.W.keepIn K (.ref f22) = true)
    {f23 : Addr} {od23 an23 : Option Addr} {sl23 : Array (Option Value)} {oc23 kV23 dc23 pm23 cd23 ct23 : Value}
    (a23 : PySem.W.nsIn K mainGlobals "_law_mixed" = some (some (.ref f23))) (l23 : K.lookup f23 = some ⟨oc23, od23, .func (PySem.W.fnOf "_law_mixed" "_law_mixed" (defArgs s__law_mixed) (defBody s__law_mixed) (defScope s__law_mixed) .none kV23 dc23 pm23 an23 cd23 ct23), sl23⟩) (c23 : PySem.W.codeIn K cd23 "_law_mixed" = true) (k23 : PySem.W.keepIn K (.ref f23) = true)
    {f24 : Addr} {od24 an24 : Option Addr} {sl24 : Array (Option Value)} {oc24 kV24 dc24 pm24 cd24 ct24 : Value}
    (a24 : PySem.W.nsIn K mainGlobals "_law_names" = some (some (.ref f24))) (l24 : K.lookup f24 = some ⟨oc24, od24, .func (PySem.W.fnOf "_law_names" "_law_names" (defArgs s__law_names) (defBody s__law_names) (defScope s__law_names) .none kV24 dc24 pm24 an24 cd24 ct24), sl24⟩) (c24 : PySem.W.codeIn K cd24 "_law_names" = true) (k24 : PySem.W.keepIn K (.ref f24) = true)
    {f25 : Addr} {od25 an25 : Option Addr} {sl25 : Array (Option Value)} {oc25 kV25 dc25 pm25 cd25 ct25 : Value}
    (a25 : PySem.W.nsIn K mainGlobals "_law_term" = some (some (.ref f25))) (l25 : K.lookup f25 = some ⟨oc25, od25, .func (PySem.W.fnOf "_law_term" "_law_term" (defArgs s__law_term) (defBody s__law_term) (defScope s__law_term) .none kV25 dc25 pm25 an25 cd25 ct25), sl25⟩) (c25 : PySem.W.codeIn K cd25 "_law_term" = true) (k25 : PySem.W.keepIn K (.ref f25) = true)
    {f26 : Addr} {od26 an26 : Option Addr} {sl26 : Array (Option Value)} {oc26 kV26 dc26 pm26 cd26 ct26 : Value}
    (a26 : PySem.W.nsIn K mainGlobals "_law_acts" = some (some (.ref f26))) (l26 : K.lookup f26 = some ⟨oc26, od26, .func (PySem.W.fnOf "_law_acts" "_law_acts" (defArgs s__law_acts) (defBody s__law_acts) (defScope s__law_acts) .none kV26 dc26 pm26 an26 cd26 ct26), sl26⟩) (c26 : PySem.W.codeIn K cd26 "_law_acts" = true) (k26 : PySem.W.keepIn K (.ref f26) = true)
    {f27 : Addr} {od27 an27 : Option Addr} {sl27 : Array (Option Value)} {oc27 kV27 dc27 pm27 cd27 ct27 : Value}
    (a27 : PySem.W.nsIn K mainGlobals "_law_world_of" = some (some (.ref f27))) (l27 : K.lookup f27 = some ⟨oc27, od27, .func (PySem.W.fnOf "_law_world_of" "_law_world_of" (defArgs s__law_world_of) (defBody s__law_world_of) (defScope s__law_world_of) .none kV27 dc27 pm27 an27 cd27 ct27), sl27⟩) (c27 : PySem.W.codeIn K cd27 "_law_world_of" = true) (k27 : PySem.W.keepIn K (.ref f27) = true)
    {f28 : Addr} {od28 an28 : Option Addr} {sl28 : Array (Option Value)} {oc28 kV28 dc28 pm28 cd28 ct28 : Value}
    (a28 : PySem.W.nsIn K mainGlobals "_law_goal" = some (some (.ref f28))) (l28 : K.lookup f28 = some ⟨oc28, od28, .func (PySem.W.fnOf "_law_goal" "_law_goal" (defArgs s__law_goal) (defBody s__law_goal) (defScope s__law_goal) .none kV28 dc28 pm28 an28 cd28 ct28), sl28⟩) (c28 : PySem.W.codeIn K cd28 "_law_goal" = true) (k28 : PySem.W.keepIn K (.ref f28) = true)
    {f29 : Addr} {od29 an29 : Option Addr} {sl29 : Array (Option Value)} {oc29 kV29 dc29 pm29 cd29 ct29 : Value}
    (a29 : PySem.W.nsIn K mainGlobals "_law_ask" = some (some (.ref f29))) (l29 : K.lookup f29 = some ⟨oc29, od29, .func (PySem.W.fnOf "_law_ask" "_law_ask" (defArgs s__law_ask) (defBody s__law_ask) (defScope s__law_ask) .none kV29 dc29 pm29 an29 cd29 ct29), sl29⟩) (c29 : PySem.W.codeIn K cd29 "_law_ask" = true) (k29 : PySem.W.keepIn K (.ref f29) = true)
    {f30 : Addr} {od30 an30 : Option Addr} {sl30 : Array (Option Value)} {oc30 kV30 dc30 pm30 cd30 ct30 : Value}
    (a30 : PySem.W.nsIn K mainGlobals "_law_line" = some (some (.ref f30))) (l30 : K.lookup f30 = some ⟨oc30, od30, .func (PySem.W.fnOf "_law_line" "_law_line" (defArgs s__law_line) (defBody s__law_line) (defScope s__law_line) .none kV30 dc30 pm30 an30 cd30 ct30), sl30⟩) (c30 : PySem.W.codeIn K cd30 "_law_line" = true) (k30 : PySem.W.keepIn K (.ref f30) = true)
    {f31 : Addr} {od31 an31 : Option Addr} {sl31 : Array (Option Value)} {oc31 kV31 dc31 pm31 cd31 ct31 : Value}
    (a31 : PySem.W.nsIn K mainGlobals "_law_code" = some (some (.ref f31))) (l31 : K.lookup f31 = some ⟨oc31, od31, .func (PySem.W.fnOf "_law_code" "_law_code" (defArgs s__law_code) (defBody s__law_code) (defScope s__law_code) .none kV31 dc31 pm31 an31 cd31 ct31), sl31⟩) (c31 : PySem.W.codeIn K cd31 "_law_code" = true) (k31 : PySem.W.keepIn K (.ref f31) = true)
    {f32 : Addr} {od32 an32 : Option Addr} {sl32 : Array (Option Value)} {oc32 kV32 dc32 pm32 cd32 ct32 : Value}
    (a32 : PySem.W.nsIn K mainGlobals "_law_code_of" = some (some (.ref f32))) (l32 : K.lookup f32 = some ⟨oc32, od32, .func (PySem.W.fnOf "_law_code_of" "_law_code_of" (defArgs s__law_code_of) (defBody s__law_code_of) (defScope s__law_code_of) .none kV32 dc32 pm32 an32 cd32 ct32), sl32⟩) (c32 : PySem.W.codeIn K cd32 "_law_code_of" = true) (k32 : PySem.W.keepIn K (.ref f32) = true)
    {f33 : Addr} {od33 an33 : Option Addr} {sl33 : Array (Option Value)} {oc33 kV33 dc33 pm33 cd33 ct33 : Value}
    (a33 : PySem.W.nsIn K mainGlobals "_law_first" = some (some (.ref f33))) (l33 : K.lookup f33 = some ⟨oc33, od33, .func (PySem.W.fnOf "_law_first" "_law_first" (defArgs s__law_first) (defBody s__law_first) (defScope s__law_first) .none kV33 dc33 pm33 an33 cd33 ct33), sl33⟩) (c33 : PySem.W.codeIn K cd33 "_law_first" = true) (k33 : PySem.W.keepIn K (.ref f33) = true)
    {f34 : Addr} {od34 an34 : Option Addr} {sl34 : Array (Option Value)} {oc34 kV34 dc34 pm34 cd34 ct34 : Value}
    (a34 : PySem.W.nsIn K mainGlobals "_law_wrapped" = some (some (.ref f34))) (l34 : K.lookup f34 = some ⟨oc34, od34, .func (PySem.W.fnOf "_law_wrapped" "_law_wrapped" (defArgs s__law_wrapped) (defBody s__law_wrapped) (defScope s__law_wrapped) .none kV34 dc34 pm34 an34 cd34 ct34), sl34⟩) (c34 : PySem.W.codeIn K cd34 "_law_wrapped" = true) (k34 : PySem.W.keepIn K (.ref f34) = true)
    {f35 : Addr} {od35 an35 : Option Addr} {sl35 : Array (Option Value)} {oc35 kV35 dc35 pm35 cd35 ct35 : Value}
    (a35 : PySem.W.nsIn K mainGlobals "_law_nested" = some (some (.ref f35))) (l35 : K.lookup f35 = some ⟨oc35, od35, .func (PySem.W.fnOf "_law_nested" "_law_nested" (defArgs s__law_nested) (defBody s__law_nested) (defScope s__law_nested) .none kV35 dc35 pm35 an35 cd35 ct35), sl35⟩) (c35 : PySem.W.codeIn K cd35 "_law_nested" = true) (k35 : PySem.W.keepIn K (.ref f35) = true)
    {f36 : Addr} {od36 an36 : Option Addr} {sl36 : Array (Option Value)} {oc36 kV36 dc36 pm36 cd36 ct36 : Value}
    (a36 : PySem.W.nsIn K mainGlobals "_law_deep_code" = some (some (.ref f36))) (l36 : K.lookup f36 = some ⟨oc36, od36, .func (PySem.W.fnOf "_law_deep_code" "_law_deep_code" (defArgs s__law_deep_code) (defBody s__law_deep_code) (defScope s__law_deep_code) .none kV36 dc36 pm36 an36 cd36 ct36), sl36⟩) (c36 : PySem.W.codeIn K cd36 "_law_deep_code" = true) (k36 : PySem.W.keepIn K (.ref f36) = true)
    {f37 : Addr} {od37 an37 : Option Addr} {sl37 : Array (Option Value)} {oc37 kV37 dc37 pm37 cd37 ct37 : Value}
    (a37 : PySem.W.nsIn K mainGlobals "_law_near" = some (some (.ref f37))) (l37 : K.lookup f37 = some ⟨oc37, od37, .func (PySem.W.fnOf "_law_near" "_law_near" (defArgs s__law_near) (defBody s__law_near) (defScope s__law_near) .none kV37 dc37 pm37 an37 cd37 ct37), sl37⟩) (c37 : PySem.W.codeIn K cd37 "_law_near" = true) (k37 : PySem.W.keepIn K (.ref f37) = true)
    {f38 : Addr} {od38 an38 : Option Addr} {sl38 : Array (Option Value)} {oc38 kV38 dc38 pm38 cd38 ct38 : Value}
    (a38 : PySem.W.nsIn K mainGlobals "_law_asked" = some (some (.ref f38))) (l38 : K.lookup f38 = some ⟨oc38, od38, .func (PySem.W.fnOf "_law_asked" "_law_asked" (defArgs s__law_asked) (defBody s__law_asked) (defScope s__law_asked) .none kV38 dc38 pm38 an38 cd38 ct38), sl38⟩) (c38 : PySem.W.codeIn K cd38 "_law_asked" = true) (k38 : PySem.W.keepIn K (.ref f38) = true)
    {f39 : Addr} {od39 an39 : Option Addr} {sl39 : Array (Option Value)} {oc39 kV39 dc39 pm39 cd39 ct39 : Value}
    (a39 : PySem.W.nsIn K mainGlobals "_law_right" = some (some (.ref f39))) (l39 : K.lookup f39 = some ⟨oc39, od39, .func (PySem.W.fnOf "_law_right" "_law_right" (defArgs s__law_right) (defBody s__law_right) (defScope s__law_right) .none kV39 dc39 pm39 an39 cd39 ct39), sl39⟩) (c39 : PySem.W.codeIn K cd39 "_law_right" = true) (k39 : PySem.W.keepIn K (.ref f39) = true)
    {f40 : Addr} {od40 an40 : Option Addr} {sl40 : Array (Option Value)} {oc40 kV40 dc40 pm40 cd40 ct40 : Value}
    (a40 : PySem.W.nsIn K mainGlobals "law" = some (some (.ref f40))) (l40 : K.lookup f40 = some ⟨oc40, od40, .func (PySem.W.fnOf "law" "law" (defArgs s_law) (defBody s_law) (defScope s_law) .none kV40 dc40 pm40 an40 cd40 ct40), sl40⟩) (c40 : PySem.W.codeIn K cd40 "law" = true) (k40 : PySem.W.keepIn K (.ref f40) = true)
    {C_World : Addr}
    (g_World : PySem.W.nsIn K mainGlobals "World" = some (some (.ref C_World)))
    (k_World : PySem.W.keepIn K (.ref C_World) = true)
    (pg_World : PySem.W.plainGet K C_World Str.empty = true)
    (ic_World : PySem.W.isClsIn K C_World = true)
    (po_World : PySem.W.plainOver K C_World = true)
    (sa_World : PySem.W.findIn K (.ref C_World) "__setattr__" = some (some (.builtin "object.__setattr__")))
    (mk_World : PySem.W.makesIn K C_World = true)
    (ca_World : PySem.W.findIn K (.ref C_World) "__class__" = some (some (.builtin "object.__class__")))
    (cn_World : PySem.W.specialIn K (.builtin "object.__class__") "__get__" = some (some (.builtin "getset_descriptor.__get__")))
    (ct_World : PySem.W.takesIn K (.builtin "object.__class__") = some true)
    (cm_World : PySem.W.mroIn K C_World (.type "object") = some true)
    (ne_World : PySem.W.findIn K (.ref C_World) "__ne__" = some (some (.builtin "object.__ne__")))
    (tyc_World : PySem.W.typeIn K (.ref C_World) = some (.type "type"))
    {p_World_its_acts : Addr}
    (at_World_its_acts : PySem.W.findIn K (.ref C_World) "its_acts" = some (some (.ref p_World_its_acts)))
    (get_World_its_acts : PySem.W.specialIn K (.ref p_World_its_acts) "__get__" = some (some (.builtin "member_descriptor.__get__")))
    (tk_World_its_acts : PySem.W.takesIn K (.ref p_World_its_acts) = some true)
    (ty_World_its_acts : PySem.W.typeIn K (.ref p_World_its_acts) = some (.type "member_descriptor"))
    (ix_World_its_acts : PySem.W.slotIn K p_World_its_acts C_World = some 0)
    {f_World___init__ : Addr} {od_World___init__ an_World___init__ : Option Addr} {sl_World___init__ : Array (Option Value)} {oc_World___init__ kV_World___init__ dc_World___init__ pm_World___init__ cd_World___init__ cc_World___init__ : Value}
    (am_World___init__ : PySem.W.findIn K (.ref C_World) "__init__" = some (some (.ref f_World___init__)))
    (im_World___init__ : PySem.W.isFn K (.ref f_World___init__) = true)
    (lm_World___init__ : K.lookup f_World___init__ = some ⟨oc_World___init__, od_World___init__, .func (PySem.W.fnOf "__init__" "World.__init__" (defArgs s_World___init__) (defBody s_World___init__) (defScope s_World___init__) .none kV_World___init__ dc_World___init__ pm_World___init__ an_World___init__ cd_World___init__ cc_World___init__), sl_World___init__⟩)
    (co_World___init__ : PySem.W.codeIn K cd_World___init__ "World.__init__" = true)
    (km_World___init__ : PySem.W.keepIn K (.ref f_World___init__) = true)
    {f_World_acts : Addr} {od_World_acts an_World_acts : Option Addr} {sl_World_acts : Array (Option Value)} {oc_World_acts kV_World_acts dc_World_acts pm_World_acts cd_World_acts cc_World_acts : Value}
    (am_World_acts : PySem.W.findIn K (.ref C_World) "acts" = some (some (.ref f_World_acts)))
    (im_World_acts : PySem.W.isFn K (.ref f_World_acts) = true)
    (lm_World_acts : K.lookup f_World_acts = some ⟨oc_World_acts, od_World_acts, .func (PySem.W.fnOf "acts" "World.acts" (defArgs s_World_acts) (defBody s_World_acts) (defScope s_World_acts) .none kV_World_acts dc_World_acts pm_World_acts an_World_acts cd_World_acts cc_World_acts), sl_World_acts⟩)
    (co_World_acts : PySem.W.codeIn K cd_World_acts "World.acts" = true)
    (km_World_acts : PySem.W.keepIn K (.ref f_World_acts) = true)
    {f_World_arguments : Addr} {od_World_arguments an_World_arguments : Option Addr} {sl_World_arguments : Array (Option Value)} {oc_World_arguments kV_World_arguments dc_World_arguments pm_World_arguments cd_World_arguments cc_World_arguments : Value}
    (am_World_arguments : PySem.W.findIn K (.ref C_World) "arguments" = some (some (.ref f_World_arguments)))
    (im_World_arguments : PySem.W.isFn K (.ref f_World_arguments) = true)
    (lm_World_arguments : K.lookup f_World_arguments = some ⟨oc_World_arguments, od_World_arguments, .func (PySem.W.fnOf "arguments" "World.arguments" (defArgs s_World_arguments) (defBody s_World_arguments) (defScope s_World_arguments) .none kV_World_arguments dc_World_arguments pm_World_arguments an_World_arguments cd_World_arguments cc_World_arguments), sl_World_arguments⟩)
    (co_World_arguments : PySem.W.codeIn K cd_World_arguments "World.arguments" = true)
    (km_World_arguments : PySem.W.keepIn K (.ref f_World_arguments) = true)
    {f_World_outcomes : Addr} {od_World_outcomes an_World_outcomes : Option Addr} {sl_World_outcomes : Array (Option Value)} {oc_World_outcomes kV_World_outcomes dc_World_outcomes pm_World_outcomes cd_World_outcomes cc_World_outcomes : Value}
    (am_World_outcomes : PySem.W.findIn K (.ref C_World) "outcomes" = some (some (.ref f_World_outcomes)))
    (im_World_outcomes : PySem.W.isFn K (.ref f_World_outcomes) = true)
    (lm_World_outcomes : K.lookup f_World_outcomes = some ⟨oc_World_outcomes, od_World_outcomes, .func (PySem.W.fnOf "outcomes" "World.outcomes" (defArgs s_World_outcomes) (defBody s_World_outcomes) (defScope s_World_outcomes) .none kV_World_outcomes dc_World_outcomes pm_World_outcomes an_World_outcomes cd_World_outcomes cc_World_outcomes), sl_World_outcomes⟩)
    (co_World_outcomes : PySem.W.codeIn K cd_World_outcomes "World.outcomes" = true)
    (km_World_outcomes : PySem.W.keepIn K (.ref f_World_outcomes) = true)
    {f_World_brings : Addr} {od_World_brings an_World_brings : Option Addr} {sl_World_brings : Array (Option Value)} {oc_World_brings kV_World_brings dc_World_brings pm_World_brings cd_World_brings cc_World_brings : Value}
    (am_World_brings : PySem.W.findIn K (.ref C_World) "brings" = some (some (.ref f_World_brings)))
    (im_World_brings : PySem.W.isFn K (.ref f_World_brings) = true)
    (lm_World_brings : K.lookup f_World_brings = some ⟨oc_World_brings, od_World_brings, .func (PySem.W.fnOf "brings" "World.brings" (defArgs s_World_brings) (defBody s_World_brings) (defScope s_World_brings) .none kV_World_brings dc_World_brings pm_World_brings an_World_brings cd_World_brings cc_World_brings), sl_World_brings⟩)
    (co_World_brings : PySem.W.codeIn K cd_World_brings "World.brings" = true)
    (km_World_brings : PySem.W.keepIn K (.ref f_World_brings) = true)
    {f_World___eq__ : Addr} {od_World___eq__ an_World___eq__ : Option Addr} {sl_World___eq__ : Array (Option Value)} {oc_World___eq__ kV_World___eq__ dc_World___eq__ pm_World___eq__ cd_World___eq__ cc_World___eq__ : Value}
    (am_World___eq__ : PySem.W.findIn K (.ref C_World) "__eq__" = some (some (.ref f_World___eq__)))
    (im_World___eq__ : PySem.W.isFn K (.ref f_World___eq__) = true)
    (lm_World___eq__ : K.lookup f_World___eq__ = some ⟨oc_World___eq__, od_World___eq__, .func (PySem.W.fnOf "__eq__" "World.__eq__" (defArgs s_World___eq__) (defBody s_World___eq__) (defScope s_World___eq__) .none kV_World___eq__ dc_World___eq__ pm_World___eq__ an_World___eq__ cd_World___eq__ cc_World___eq__), sl_World___eq__⟩)
    (co_World___eq__ : PySem.W.codeIn K cd_World___eq__ "World.__eq__" = true)
    (km_World___eq__ : PySem.W.keepIn K (.ref f_World___eq__) = true)
    {C_Code : Addr}
    (g_Code : PySem.W.nsIn K mainGlobals "Code" = some (some (.ref C_Code)))
    (k_Code : PySem.W.keepIn K (.ref C_Code) = true)
    (pg_Code : PySem.W.plainGet K C_Code Str.empty = true)
    (ic_Code : PySem.W.isClsIn K C_Code = true)
    (po_Code : PySem.W.plainOver K C_Code = true)
    (sa_Code : PySem.W.findIn K (.ref C_Code) "__setattr__" = some (some (.builtin "object.__setattr__")))
    (mk_Code : PySem.W.makesIn K C_Code = true)
    (ca_Code : PySem.W.findIn K (.ref C_Code) "__class__" = some (some (.builtin "object.__class__")))
    (cn_Code : PySem.W.specialIn K (.builtin "object.__class__") "__get__" = some (some (.builtin "getset_descriptor.__get__")))
    (ct_Code : PySem.W.takesIn K (.builtin "object.__class__") = some true)
    (cm_Code : PySem.W.mroIn K C_Code (.type "object") = some true)
    (df_World_Code : PySem.W.subIn K (.ref C_World) (.ref C_Code) = some false)
    (dn_World_Code : C_World ≠ C_Code)
    (ne_Code : PySem.W.findIn K (.ref C_Code) "__ne__" = some (some (.builtin "object.__ne__")))
    (tyc_Code : PySem.W.typeIn K (.ref C_Code) = some (.type "type"))
    {p_Code_its_given : Addr}
    (at_Code_its_given : PySem.W.findIn K (.ref C_Code) "its_given" = some (some (.ref p_Code_its_given)))
    (get_Code_its_given : PySem.W.specialIn K (.ref p_Code_its_given) "__get__" = some (some (.builtin "member_descriptor.__get__")))
    (tk_Code_its_given : PySem.W.takesIn K (.ref p_Code_its_given) = some true)
    (ty_Code_its_given : PySem.W.typeIn K (.ref p_Code_its_given) = some (.type "member_descriptor"))
    (ix_Code_its_given : PySem.W.slotIn K p_Code_its_given C_Code = some 0)
    {p_Code_its_statements : Addr}
    (at_Code_its_statements : PySem.W.findIn K (.ref C_Code) "its_statements" = some (some (.ref p_Code_its_statements)))
    (get_Code_its_statements : PySem.W.specialIn K (.ref p_Code_its_statements) "__get__" = some (some (.builtin "member_descriptor.__get__")))
    (tk_Code_its_statements : PySem.W.takesIn K (.ref p_Code_its_statements) = some true)
    (ty_Code_its_statements : PySem.W.typeIn K (.ref p_Code_its_statements) = some (.type "member_descriptor"))
    (ix_Code_its_statements : PySem.W.slotIn K p_Code_its_statements C_Code = some 1)
    {p_Code_its_variables : Addr}
    (at_Code_its_variables : PySem.W.findIn K (.ref C_Code) "its_variables" = some (some (.ref p_Code_its_variables)))
    (get_Code_its_variables : PySem.W.specialIn K (.ref p_Code_its_variables) "__get__" = some (some (.builtin "member_descriptor.__get__")))
    (tk_Code_its_variables : PySem.W.takesIn K (.ref p_Code_its_variables) = some true)
    (ty_Code_its_variables : PySem.W.typeIn K (.ref p_Code_its_variables) = some (.type "member_descriptor"))
    (ix_Code_its_variables : PySem.W.slotIn K p_Code_its_variables C_Code = some 2)
    {p_Code_its_world : Addr}
    (at_Code_its_world : PySem.W.findIn K (.ref C_Code) "its_world" = some (some (.ref p_Code_its_world)))
    (get_Code_its_world : PySem.W.specialIn K (.ref p_Code_its_world) "__get__" = some (some (.builtin "member_descriptor.__get__")))
    (tk_Code_its_world : PySem.W.takesIn K (.ref p_Code_its_world) = some true)
    (ty_Code_its_world : PySem.W.typeIn K (.ref p_Code_its_world) = some (.type "member_descriptor"))
    (ix_Code_its_world : PySem.W.slotIn K p_Code_its_world C_Code = some 3)
    {f_Code___init__ : Addr} {od_Code___init__ an_Code___init__ : Option Addr} {sl_Code___init__ : Array (Option Value)} {oc_Code___init__ kV_Code___init__ dc_Code___init__ pm_Code___init__ cd_Code___init__ cc_Code___init__ : Value}
    (am_Code___init__ : PySem.W.findIn K (.ref C_Code) "__init__" = some (some (.ref f_Code___init__)))
    (im_Code___init__ : PySem.W.isFn K (.ref f_Code___init__) = true)
    (lm_Code___init__ : K.lookup f_Code___init__ = some ⟨oc_Code___init__, od_Code___init__, .func (PySem.W.fnOf "__init__" "Code.__init__" (defArgs s_Code___init__) (defBody s_Code___init__) (defScope s_Code___init__) .none kV_Code___init__ dc_Code___init__ pm_Code___init__ an_Code___init__ cd_Code___init__ cc_Code___init__), sl_Code___init__⟩)
    (co_Code___init__ : PySem.W.codeIn K cd_Code___init__ "Code.__init__" = true)
    (km_Code___init__ : PySem.W.keepIn K (.ref f_Code___init__) = true)
    {f_Code_world : Addr} {od_Code_world an_Code_world : Option Addr} {sl_Code_world : Array (Option Value)} {oc_Code_world kV_Code_world dc_Code_world pm_Code_world cd_Code_world cc_Code_world : Value}
    {p_Code_world : Addr} {rs_Code_world : List Value}
    (pa_Code_world : PySem.W.findIn K (.ref C_Code) "world" = some (some (.ref p_Code_world)))
    (pg_Code_world : PySem.W.specialIn K (.ref p_Code_world) "__get__" = some (some (.builtin "property.__get__")))
    (pt_Code_world : PySem.W.takesIn K (.ref p_Code_world) = some true)
    (pr_Code_world : PySem.W.recIn K p_Code_world "property" = some (.ref f_Code_world :: rs_Code_world))
    (lm_Code_world : K.lookup f_Code_world = some ⟨oc_Code_world, od_Code_world, .func (PySem.W.fnOf "world" "Code.world" (defArgs s_Code_world) (defBody s_Code_world) (defScope s_Code_world) .none kV_Code_world dc_Code_world pm_Code_world an_Code_world cd_Code_world cc_Code_world), sl_Code_world⟩)
    (co_Code_world : PySem.W.codeIn K cd_Code_world "Code.world" = true)
    (km_Code_world : PySem.W.keepIn K (.ref f_Code_world) = true)
    {f_Code_variables : Addr} {od_Code_variables an_Code_variables : Option Addr} {sl_Code_variables : Array (Option Value)} {oc_Code_variables kV_Code_variables dc_Code_variables pm_Code_variables cd_Code_variables cc_Code_variables : Value}
    {p_Code_variables : Addr} {rs_Code_variables : List Value}
    (pa_Code_variables : PySem.W.findIn K (.ref C_Code) "variables" = some (some (.ref p_Code_variables)))
    (pg_Code_variables : PySem.W.specialIn K (.ref p_Code_variables) "__get__" = some (some (.builtin "property.__get__")))
    (pt_Code_variables : PySem.W.takesIn K (.ref p_Code_variables) = some true)
    (pr_Code_variables : PySem.W.recIn K p_Code_variables "property" = some (.ref f_Code_variables :: rs_Code_variables))
    (lm_Code_variables : K.lookup f_Code_variables = some ⟨oc_Code_variables, od_Code_variables, .func (PySem.W.fnOf "variables" "Code.variables" (defArgs s_Code_variables) (defBody s_Code_variables) (defScope s_Code_variables) .none kV_Code_variables dc_Code_variables pm_Code_variables an_Code_variables cd_Code_variables cc_Code_variables), sl_Code_variables⟩)
    (co_Code_variables : PySem.W.codeIn K cd_Code_variables "Code.variables" = true)
    (km_Code_variables : PySem.W.keepIn K (.ref f_Code_variables) = true)
    {f_Code_given : Addr} {od_Code_given an_Code_given : Option Addr} {sl_Code_given : Array (Option Value)} {oc_Code_given kV_Code_given dc_Code_given pm_Code_given cd_Code_given cc_Code_given : Value}
    {p_Code_given : Addr} {rs_Code_given : List Value}
    (pa_Code_given : PySem.W.findIn K (.ref C_Code) "given" = some (some (.ref p_Code_given)))
    (pg_Code_given : PySem.W.specialIn K (.ref p_Code_given) "__get__" = some (some (.builtin "property.__get__")))
    (pt_Code_given : PySem.W.takesIn K (.ref p_Code_given) = some true)
    (pr_Code_given : PySem.W.recIn K p_Code_given "property" = some (.ref f_Code_given :: rs_Code_given))
    (lm_Code_given : K.lookup f_Code_given = some ⟨oc_Code_given, od_Code_given, .func (PySem.W.fnOf "given" "Code.given" (defArgs s_Code_given) (defBody s_Code_given) (defScope s_Code_given) .none kV_Code_given dc_Code_given pm_Code_given an_Code_given cd_Code_given cc_Code_given), sl_Code_given⟩)
    (co_Code_given : PySem.W.codeIn K cd_Code_given "Code.given" = true)
    (km_Code_given : PySem.W.keepIn K (.ref f_Code_given) = true)
    {f_Code___len__ : Addr} {od_Code___len__ an_Code___len__ : Option Addr} {sl_Code___len__ : Array (Option Value)} {oc_Code___len__ kV_Code___len__ dc_Code___len__ pm_Code___len__ cd_Code___len__ cc_Code___len__ : Value}
    (am_Code___len__ : PySem.W.findIn K (.ref C_Code) "__len__" = some (some (.ref f_Code___len__)))
    (im_Code___len__ : PySem.W.isFn K (.ref f_Code___len__) = true)
    (lm_Code___len__ : K.lookup f_Code___len__ = some ⟨oc_Code___len__, od_Code___len__, .func (PySem.W.fnOf "__len__" "Code.__len__" (defArgs s_Code___len__) (defBody s_Code___len__) (defScope s_Code___len__) .none kV_Code___len__ dc_Code___len__ pm_Code___len__ an_Code___len__ cd_Code___len__ cc_Code___len__), sl_Code___len__⟩)
    (co_Code___len__ : PySem.W.codeIn K cd_Code___len__ "Code.__len__" = true)
    (km_Code___len__ : PySem.W.keepIn K (.ref f_Code___len__) = true)
    {f_Code_statement : Addr} {od_Code_statement an_Code_statement : Option Addr} {sl_Code_statement : Array (Option Value)} {oc_Code_statement kV_Code_statement dc_Code_statement pm_Code_statement cd_Code_statement cc_Code_statement : Value}
    (am_Code_statement : PySem.W.findIn K (.ref C_Code) "statement" = some (some (.ref f_Code_statement)))
    (im_Code_statement : PySem.W.isFn K (.ref f_Code_statement) = true)
    (lm_Code_statement : K.lookup f_Code_statement = some ⟨oc_Code_statement, od_Code_statement, .func (PySem.W.fnOf "statement" "Code.statement" (defArgs s_Code_statement) (defBody s_Code_statement) (defScope s_Code_statement) .none kV_Code_statement dc_Code_statement pm_Code_statement an_Code_statement cd_Code_statement cc_Code_statement), sl_Code_statement⟩)
    (co_Code_statement : PySem.W.codeIn K cd_Code_statement "Code.statement" = true)
    (km_Code_statement : PySem.W.keepIn K (.ref f_Code_statement) = true)
    {f_Code_statements : Addr} {od_Code_statements an_Code_statements : Option Addr} {sl_Code_statements : Array (Option Value)} {oc_Code_statements kV_Code_statements dc_Code_statements pm_Code_statements cd_Code_statements cc_Code_statements : Value}
    (am_Code_statements : PySem.W.findIn K (.ref C_Code) "statements" = some (some (.ref f_Code_statements)))
    (im_Code_statements : PySem.W.isFn K (.ref f_Code_statements) = true)
    (lm_Code_statements : K.lookup f_Code_statements = some ⟨oc_Code_statements, od_Code_statements, .func (PySem.W.fnOf "statements" "Code.statements" (defArgs s_Code_statements) (defBody s_Code_statements) (defScope s_Code_statements) .none kV_Code_statements dc_Code_statements pm_Code_statements an_Code_statements cd_Code_statements cc_Code_statements), sl_Code_statements⟩)
    (co_Code_statements : PySem.W.codeIn K cd_Code_statements "Code.statements" = true)
    (km_Code_statements : PySem.W.keepIn K (.ref f_Code_statements) = true)
    {f_Code_first : Addr} {od_Code_first an_Code_first : Option Addr} {sl_Code_first : Array (Option Value)} {oc_Code_first kV_Code_first dc_Code_first pm_Code_first cd_Code_first cc_Code_first : Value}
    (am_Code_first : PySem.W.findIn K (.ref C_Code) "first" = some (some (.ref f_Code_first)))
    (im_Code_first : PySem.W.isFn K (.ref f_Code_first) = true)
    (lm_Code_first : K.lookup f_Code_first = some ⟨oc_Code_first, od_Code_first, .func (PySem.W.fnOf "first" "Code.first" (defArgs s_Code_first) (defBody s_Code_first) (defScope s_Code_first) .none kV_Code_first dc_Code_first pm_Code_first an_Code_first cd_Code_first cc_Code_first), sl_Code_first⟩)
    (co_Code_first : PySem.W.codeIn K cd_Code_first "Code.first" = true)
    (km_Code_first : PySem.W.keepIn K (.ref f_Code_first) = true)
    {f_Code_showing : Addr} {od_Code_showing an_Code_showing : Option Addr} {sl_Code_showing : Array (Option Value)} {oc_Code_showing kV_Code_showing dc_Code_showing pm_Code_showing cd_Code_showing cc_Code_showing : Value}
    (am_Code_showing : PySem.W.findIn K (.ref C_Code) "showing" = some (some (.ref f_Code_showing)))
    (im_Code_showing : PySem.W.isFn K (.ref f_Code_showing) = true)
    (lm_Code_showing : K.lookup f_Code_showing = some ⟨oc_Code_showing, od_Code_showing, .func (PySem.W.fnOf "showing" "Code.showing" (defArgs s_Code_showing) (defBody s_Code_showing) (defScope s_Code_showing) .none kV_Code_showing dc_Code_showing pm_Code_showing an_Code_showing cd_Code_showing cc_Code_showing), sl_Code_showing⟩)
    (co_Code_showing : PySem.W.codeIn K cd_Code_showing "Code.showing" = true)
    (km_Code_showing : PySem.W.keepIn K (.ref f_Code_showing) = true)
    {f_Code_parts : Addr} {od_Code_parts an_Code_parts : Option Addr} {sl_Code_parts : Array (Option Value)} {oc_Code_parts kV_Code_parts dc_Code_parts pm_Code_parts cd_Code_parts cc_Code_parts : Value}
    (am_Code_parts : PySem.W.findIn K (.ref C_Code) "parts" = some (some (.ref f_Code_parts)))
    (im_Code_parts : PySem.W.isFn K (.ref f_Code_parts) = true)
    (lm_Code_parts : K.lookup f_Code_parts = some ⟨oc_Code_parts, od_Code_parts, .func (PySem.W.fnOf "parts" "Code.parts" (defArgs s_Code_parts) (defBody s_Code_parts) (defScope s_Code_parts) .none kV_Code_parts dc_Code_parts pm_Code_parts an_Code_parts cd_Code_parts cc_Code_parts), sl_Code_parts⟩)
    (co_Code_parts : PySem.W.codeIn K cd_Code_parts "Code.parts" = true)
    (km_Code_parts : PySem.W.keepIn K (.ref f_Code_parts) = true)
    {f_Code___eq__ : Addr} {od_Code___eq__ an_Code___eq__ : Option Addr} {sl_Code___eq__ : Array (Option Value)} {oc_Code___eq__ kV_Code___eq__ dc_Code___eq__ pm_Code___eq__ cd_Code___eq__ cc_Code___eq__ : Value}
    (am_Code___eq__ : PySem.W.findIn K (.ref C_Code) "__eq__" = some (some (.ref f_Code___eq__)))
    (im_Code___eq__ : PySem.W.isFn K (.ref f_Code___eq__) = true)
    (lm_Code___eq__ : K.lookup f_Code___eq__ = some ⟨oc_Code___eq__, od_Code___eq__, .func (PySem.W.fnOf "__eq__" "Code.__eq__" (defArgs s_Code___eq__) (defBody s_Code___eq__) (defScope s_Code___eq__) .none kV_Code___eq__ dc_Code___eq__ pm_Code___eq__ an_Code___eq__ cd_Code___eq__ cc_Code___eq__), sl_Code___eq__⟩)
    (co_Code___eq__ : PySem.W.codeIn K cd_Code___eq__ "Code.__eq__" = true)
    (km_Code___eq__ : PySem.W.keepIn K (.ref f_Code___eq__) = true)
    (topS_ : (l.prog.main.scope.names.lookup ("super" : Str)).isSome = false)
    (sup_ : PySem.W.nsIn K mainGlobals "super" = some none)
    (opq_ : PySem.W.nsIn K PySem.cStatics "thirdparty.any" = some none)
    {C_MoveError : Addr}
    (g_MoveError : PySem.W.nsIn K mainGlobals "MoveError" = some (some (.ref C_MoveError)))
    (ex_MoveError : PySem.W.subIn K (.ref C_MoveError) (.type "BaseException") = some true)
    (hd_MoveError : PySem.W.hasDictIn K C_MoveError = true)
    (ty_MoveError : PySem.W.typeIn K (.ref C_MoveError) = some (.type "type"))
    {C_Wrong : Addr}
    (g_Wrong : PySem.W.nsIn K mainGlobals "Wrong" = some (some (.ref C_Wrong)))
    (ex_Wrong : PySem.W.subIn K (.ref C_Wrong) (.type "BaseException") = some true)
    (hd_Wrong : PySem.W.hasDictIn K C_Wrong = true)
    (ty_Wrong : PySem.W.typeIn K (.ref C_Wrong) = some (.type "type"))
    {nm_Wrong q_Wrong : Str} {N_Wrong : Addr} {bs_Wrong bm_Wrong sub_Wrong : List Value} {sn_Wrong : List Str} {ab_Wrong : Bool} {col_Wrong : Option Bool} {dd_Wrong : Option Addr} {k0_Wrong k1_Wrong k2_Wrong k3_Wrong k5_Wrong : Option Value}
    (cls_Wrong : K.lookup C_Wrong = some (excClassObj nm_Wrong q_Wrong C_Wrong N_Wrong bs_Wrong bm_Wrong true sn_Wrong sub_Wrong ab_Wrong col_Wrong dd_Wrong k0_Wrong k1_Wrong k2_Wrong k3_Wrong k5_Wrong "ValueError.__new__"))
    (ve_Wrong : PySem.HandSPX.refsVE bm_Wrong = true)
    (sa_Wrong : PySem.W.findIn K (.ref C_Wrong) "__setattr__" = some (some (.builtin "object.__setattr__")))
    (no_Wrong : PySem.W.findIn K (.ref C_Wrong) "place" = some none)
    (k_Wrong : PySem.W.keepIn K (.ref C_Wrong) = true)
    (vs_Wrong : PySem.W.subIn K (.ref C_Wrong) (.type "ValueError") = some true)
    (up_Wrong : PySem.W.ks_superIn K C_Wrong C_Wrong "__init__" = some (some (.builtin "ValueError.__init__")))
    (self_Wrong : PySem.W.mroIn K C_Wrong (.ref C_Wrong) = some true)
    {fI_Wrong cda_Wrong cc_Wrong : Addr} {oc_Wrong kV_Wrong doc_Wrong pm_Wrong ct_Wrong cl_Wrong ccl_Wrong : Value} {od_Wrong an_Wrong cld_Wrong cdd_Wrong : Option Addr} {osl_Wrong csl_Wrong ccs_Wrong : Array (Option Value)} {ql_Wrong file_Wrong : Str} {vv_Wrong : Array Value} {tf_Wrong : Tok} {p1_Wrong p2_Wrong q1_Wrong q2_Wrong q3_Wrong q4_Wrong q5_Wrong q6_Wrong q7_Wrong q8_Wrong q9_Wrong q10_Wrong : Pos}
    (fi_Wrong : PySem.W.findIn K (.ref C_Wrong) "__init__" = some (some (.ref fI_Wrong)))
    (tI_Wrong : PySem.W.typeIn K (.ref fI_Wrong) = some (.type "function"))
    (lI_Wrong : K.lookup fI_Wrong = some ⟨oc_Wrong, od_Wrong, .func (PySem.W.ksFn "__init__" ql_Wrong (xA "place" p1_Wrong p2_Wrong) (xB "place" q1_Wrong q2_Wrong q3_Wrong q4_Wrong q5_Wrong q6_Wrong q7_Wrong q8_Wrong q9_Wrong q10_Wrong) (xS "place") .none kV_Wrong doc_Wrong pm_Wrong an_Wrong (.ref cda_Wrong) ct_Wrong cc_Wrong), osl_Wrong⟩)
    (cd_Wrong : PySem.W.codeIn K (.ref cda_Wrong) ql_Wrong = true)
    (ce_Wrong : K.lookup cc_Wrong = some ⟨cl_Wrong, cld_Wrong, .cell (some (.ref C_Wrong)), csl_Wrong⟩)
    (co_Wrong : K.lookup cda_Wrong = some ⟨ccl_Wrong, cdd_Wrong, .fields vv_Wrong, ccs_Wrong⟩)
    (cv_Wrong : vv_Wrong[2]? = some (.str file_Wrong tf_Wrong))
    (cf_Wrong : ((l.prog.main.file : Str) == file_Wrong) = true)
    (bi_Wrong : ∀ e v, bindArgs (PySem.W.ksFn "__init__" ql_Wrong (xA "place" p1_Wrong p2_Wrong) (xB "place" q1_Wrong q2_Wrong q3_Wrong q4_Wrong q5_Wrong q6_Wrong q7_Wrong q8_Wrong q9_Wrong q10_Wrong) (xS "place") .none kV_Wrong doc_Wrong pm_Wrong an_Wrong (.ref cda_Wrong) ct_Wrong cc_Wrong) ⟨[.ref e, v], []⟩ = pure [((PySem.Str.ofString "self" : Str), .ref e), ("place", v)])
    (ev_Wrong : ∀ L : Addr, ∃ pl, eval (xCall "place" q1_Wrong q2_Wrong q3_Wrong q4_Wrong q5_Wrong) (PySem.W.ksEnv ql_Wrong (xS "place") L fI_Wrong (.ref cda_Wrong) cc_Wrong) = (do
      let ov ← attributeBase (.Call (.Name "super" q1_Wrong) [] [] q2_Wrong) "__init__" (PySem.W.ksEnv ql_Wrong (xS "place") L fI_Wrong (.ref cda_Wrong) cc_Wrong) (eval (.Call (.Name "super" q1_Wrong) [] [] q2_Wrong) (PySem.W.ksEnv ql_Wrong (xS "place") L fI_Wrong (.ref cda_Wrong) cc_Wrong))
      standAt q3_Wrong.atName
      let (g, first) ← holding [ov] (getMethod ov "__init__" pl)
      callWith q5_Wrong g first (backTo q5_Wrong (starEach [.Name "place" q4_Wrong] (PySem.W.ksEnv ql_Wrong (xS "place") L fI_Wrong (.ref cda_Wrong) cc_Wrong))) []))
    {C_BadAct : Addr}
    (g_BadAct : PySem.W.nsIn K mainGlobals "BadAct" = some (some (.ref C_BadAct)))
    (ex_BadAct : PySem.W.subIn K (.ref C_BadAct) (.type "BaseException") = some true)
    (hd_BadAct : PySem.W.hasDictIn K C_BadAct = true)
    (ty_BadAct : PySem.W.typeIn K (.ref C_BadAct) = some (.type "type"))
    {nm_BadAct q_BadAct : Str} {N_BadAct : Addr} {bs_BadAct bm_BadAct sub_BadAct : List Value} {sn_BadAct : List Str} {ab_BadAct : Bool} {col_BadAct : Option Bool} {dd_BadAct : Option Addr} {k0_BadAct k1_BadAct k2_BadAct k3_BadAct k5_BadAct : Option Value}
    (cls_BadAct : K.lookup C_BadAct = some (excClassObj nm_BadAct q_BadAct C_BadAct N_BadAct bs_BadAct bm_BadAct true sn_BadAct sub_BadAct ab_BadAct col_BadAct dd_BadAct k0_BadAct k1_BadAct k2_BadAct k3_BadAct k5_BadAct "ValueError.__new__"))
    (ve_BadAct : PySem.HandSPX.refsVE bm_BadAct = true)
    (sa_BadAct : PySem.W.findIn K (.ref C_BadAct) "__setattr__" = some (some (.builtin "object.__setattr__")))
    (no_BadAct : PySem.W.findIn K (.ref C_BadAct) "name" = some none)
    (k_BadAct : PySem.W.keepIn K (.ref C_BadAct) = true)
    (vs_BadAct : PySem.W.subIn K (.ref C_BadAct) (.type "ValueError") = some true)
    (up_BadAct : PySem.W.ks_superIn K C_BadAct C_BadAct "__init__" = some (some (.builtin "ValueError.__init__")))
    (self_BadAct : PySem.W.mroIn K C_BadAct (.ref C_BadAct) = some true)
    {fI_BadAct cda_BadAct cc_BadAct : Addr} {oc_BadAct kV_BadAct doc_BadAct pm_BadAct ct_BadAct cl_BadAct ccl_BadAct : Value} {od_BadAct an_BadAct cld_BadAct cdd_BadAct : Option Addr} {osl_BadAct csl_BadAct ccs_BadAct : Array (Option Value)} {ql_BadAct file_BadAct : Str} {vv_BadAct : Array Value} {tf_BadAct : Tok} {p1_BadAct p2_BadAct q1_BadAct q2_BadAct q3_BadAct q4_BadAct q5_BadAct q6_BadAct q7_BadAct q8_BadAct q9_BadAct q10_BadAct : Pos}
    (fi_BadAct : PySem.W.findIn K (.ref C_BadAct) "__init__" = some (some (.ref fI_BadAct)))
    (tI_BadAct : PySem.W.typeIn K (.ref fI_BadAct) = some (.type "function"))
    (lI_BadAct : K.lookup fI_BadAct = some ⟨oc_BadAct, od_BadAct, .func (PySem.W.ksFn "__init__" ql_BadAct (xA "name" p1_BadAct p2_BadAct) (xB "name" q1_BadAct q2_BadAct q3_BadAct q4_BadAct q5_BadAct q6_BadAct q7_BadAct q8_BadAct q9_BadAct q10_BadAct) (xS "name") .none kV_BadAct doc_BadAct pm_BadAct an_BadAct (.ref cda_BadAct) ct_BadAct cc_BadAct), osl_BadAct⟩)
    (cd_BadAct : PySem.W.codeIn K (.ref cda_BadAct) ql_BadAct = true)
    (ce_BadAct : K.lookup cc_BadAct = some ⟨cl_BadAct, cld_BadAct, .cell (some (.ref C_BadAct)), csl_BadAct⟩)
    (co_BadAct : K.lookup cda_BadAct = some ⟨ccl_BadAct, cdd_BadAct, .fields vv_BadAct, ccs_BadAct⟩)
    (cv_BadAct : vv_BadAct[2]? = some (.str file_BadAct tf_BadAct))
    (cf_BadAct : ((l.prog.main.file : Str) == file_BadAct) = true)
    (bi_BadAct : ∀ e v, bindArgs (PySem.W.ksFn "__init__" ql_BadAct (xA "name" p1_BadAct p2_BadAct) (xB "name" q1_BadAct q2_BadAct q3_BadAct q4_BadAct q5_BadAct q6_BadAct q7_BadAct q8_BadAct q9_BadAct q10_BadAct) (xS "name") .none kV_BadAct doc_BadAct pm_BadAct an_BadAct (.ref cda_BadAct) ct_BadAct cc_BadAct) ⟨[.ref e, v], []⟩ = pure [((PySem.Str.ofString "self" : Str), .ref e), ("name", v)])
    (ev_BadAct : ∀ L : Addr, ∃ pl, eval (xCall "name" q1_BadAct q2_BadAct q3_BadAct q4_BadAct q5_BadAct) (PySem.W.ksEnv ql_BadAct (xS "name") L fI_BadAct (.ref cda_BadAct) cc_BadAct) = (do
      let ov ← attributeBase (.Call (.Name "super" q1_BadAct) [] [] q2_BadAct) "__init__" (PySem.W.ksEnv ql_BadAct (xS "name") L fI_BadAct (.ref cda_BadAct) cc_BadAct) (eval (.Call (.Name "super" q1_BadAct) [] [] q2_BadAct) (PySem.W.ksEnv ql_BadAct (xS "name") L fI_BadAct (.ref cda_BadAct) cc_BadAct))
      standAt q3_BadAct.atName
      let (g, first) ← holding [ov] (getMethod ov "__init__" pl)
      callWith q5_BadAct g first (backTo q5_BadAct (starEach [.Name "name" q4_BadAct] (PySem.W.ksEnv ql_BadAct (xS "name") L fI_BadAct (.ref cda_BadAct) cc_BadAct))) []))
    {C_BadPlace : Addr}
    (g_BadPlace : PySem.W.nsIn K mainGlobals "BadPlace" = some (some (.ref C_BadPlace)))
    (ex_BadPlace : PySem.W.subIn K (.ref C_BadPlace) (.type "BaseException") = some true)
    (hd_BadPlace : PySem.W.hasDictIn K C_BadPlace = true)
    (ty_BadPlace : PySem.W.typeIn K (.ref C_BadPlace) = some (.type "type"))
    {nm_BadPlace q_BadPlace : Str} {N_BadPlace : Addr} {bs_BadPlace bm_BadPlace sub_BadPlace : List Value} {sn_BadPlace : List Str} {ab_BadPlace : Bool} {col_BadPlace : Option Bool} {dd_BadPlace : Option Addr} {k0_BadPlace k1_BadPlace k2_BadPlace k3_BadPlace k5_BadPlace : Option Value}
    (cls_BadPlace : K.lookup C_BadPlace = some (excClassObj nm_BadPlace q_BadPlace C_BadPlace N_BadPlace bs_BadPlace bm_BadPlace true sn_BadPlace sub_BadPlace ab_BadPlace col_BadPlace dd_BadPlace k0_BadPlace k1_BadPlace k2_BadPlace k3_BadPlace k5_BadPlace "ValueError.__new__"))
    (ve_BadPlace : PySem.HandSPX.refsVE bm_BadPlace = true)
    (sa_BadPlace : PySem.W.findIn K (.ref C_BadPlace) "__setattr__" = some (some (.builtin "object.__setattr__")))
    (no_BadPlace : PySem.W.findIn K (.ref C_BadPlace) "at" = some none)
    (k_BadPlace : PySem.W.keepIn K (.ref C_BadPlace) = true)
    (vs_BadPlace : PySem.W.subIn K (.ref C_BadPlace) (.type "ValueError") = some true)
    (up_BadPlace : PySem.W.ks_superIn K C_BadPlace C_BadPlace "__init__" = some (some (.builtin "ValueError.__init__")))
    (self_BadPlace : PySem.W.mroIn K C_BadPlace (.ref C_BadPlace) = some true)
    {fI_BadPlace cda_BadPlace cc_BadPlace : Addr} {oc_BadPlace kV_BadPlace doc_BadPlace pm_BadPlace ct_BadPlace cl_BadPlace ccl_BadPlace : Value} {od_BadPlace an_BadPlace cld_BadPlace cdd_BadPlace : Option Addr} {osl_BadPlace csl_BadPlace ccs_BadPlace : Array (Option Value)} {ql_BadPlace file_BadPlace : Str} {vv_BadPlace : Array Value} {tf_BadPlace : Tok} {p1_BadPlace p2_BadPlace q1_BadPlace q2_BadPlace q3_BadPlace q4_BadPlace q5_BadPlace q6_BadPlace q7_BadPlace q8_BadPlace q9_BadPlace q10_BadPlace : Pos}
    (fi_BadPlace : PySem.W.findIn K (.ref C_BadPlace) "__init__" = some (some (.ref fI_BadPlace)))
    (tI_BadPlace : PySem.W.typeIn K (.ref fI_BadPlace) = some (.type "function"))
    (lI_BadPlace : K.lookup fI_BadPlace = some ⟨oc_BadPlace, od_BadPlace, .func (PySem.W.ksFn "__init__" ql_BadPlace (xA "at" p1_BadPlace p2_BadPlace) (xB "at" q1_BadPlace q2_BadPlace q3_BadPlace q4_BadPlace q5_BadPlace q6_BadPlace q7_BadPlace q8_BadPlace q9_BadPlace q10_BadPlace) (xS "at") .none kV_BadPlace doc_BadPlace pm_BadPlace an_BadPlace (.ref cda_BadPlace) ct_BadPlace cc_BadPlace), osl_BadPlace⟩)
    (cd_BadPlace : PySem.W.codeIn K (.ref cda_BadPlace) ql_BadPlace = true)
    (ce_BadPlace : K.lookup cc_BadPlace = some ⟨cl_BadPlace, cld_BadPlace, .cell (some (.ref C_BadPlace)), csl_BadPlace⟩)
    (co_BadPlace : K.lookup cda_BadPlace = some ⟨ccl_BadPlace, cdd_BadPlace, .fields vv_BadPlace, ccs_BadPlace⟩)
    (cv_BadPlace : vv_BadPlace[2]? = some (.str file_BadPlace tf_BadPlace))
    (cf_BadPlace : ((l.prog.main.file : Str) == file_BadPlace) = true)
    (bi_BadPlace : ∀ e v, bindArgs (PySem.W.ksFn "__init__" ql_BadPlace (xA "at" p1_BadPlace p2_BadPlace) (xB "at" q1_BadPlace q2_BadPlace q3_BadPlace q4_BadPlace q5_BadPlace q6_BadPlace q7_BadPlace q8_BadPlace q9_BadPlace q10_BadPlace) (xS "at") .none kV_BadPlace doc_BadPlace pm_BadPlace an_BadPlace (.ref cda_BadPlace) ct_BadPlace cc_BadPlace) ⟨[.ref e, v], []⟩ = pure [((PySem.Str.ofString "self" : Str), .ref e), ("at", v)])
    (ev_BadPlace : ∀ L : Addr, ∃ pl, eval (xCall "at" q1_BadPlace q2_BadPlace q3_BadPlace q4_BadPlace q5_BadPlace) (PySem.W.ksEnv ql_BadPlace (xS "at") L fI_BadPlace (.ref cda_BadPlace) cc_BadPlace) = (do
      let ov ← attributeBase (.Call (.Name "super" q1_BadPlace) [] [] q2_BadPlace) "__init__" (PySem.W.ksEnv ql_BadPlace (xS "at") L fI_BadPlace (.ref cda_BadPlace) cc_BadPlace) (eval (.Call (.Name "super" q1_BadPlace) [] [] q2_BadPlace) (PySem.W.ksEnv ql_BadPlace (xS "at") L fI_BadPlace (.ref cda_BadPlace) cc_BadPlace))
      standAt q3_BadPlace.atName
      let (g, first) ← holding [ov] (getMethod ov "__init__" pl)
      callWith q5_BadPlace g first (backTo q5_BadPlace (starEach [.Name "at" q4_BadPlace] (PySem.W.ksEnv ql_BadPlace (xS "at") L fI_BadPlace (.ref cda_BadPlace) cc_BadPlace))) []))
    {C_NoPlace : Addr}
    (g_NoPlace : PySem.W.nsIn K mainGlobals "NoPlace" = some (some (.ref C_NoPlace)))
    (ex_NoPlace : PySem.W.subIn K (.ref C_NoPlace) (.type "BaseException") = some true)
    (hd_NoPlace : PySem.W.hasDictIn K C_NoPlace = true)
    (ty_NoPlace : PySem.W.typeIn K (.ref C_NoPlace) = some (.type "type"))
    {nm_NoPlace q_NoPlace : Str} {N_NoPlace : Addr} {bs_NoPlace bm_NoPlace sub_NoPlace : List Value} {sn_NoPlace : List Str} {ab_NoPlace : Bool} {col_NoPlace : Option Bool} {dd_NoPlace : Option Addr} {k0_NoPlace k1_NoPlace k2_NoPlace k3_NoPlace k5_NoPlace : Option Value}
    (cls_NoPlace : K.lookup C_NoPlace = some (excClassObj nm_NoPlace q_NoPlace C_NoPlace N_NoPlace bs_NoPlace bm_NoPlace true sn_NoPlace sub_NoPlace ab_NoPlace col_NoPlace dd_NoPlace k0_NoPlace k1_NoPlace k2_NoPlace k3_NoPlace k5_NoPlace "ValueError.__new__"))
    (ve_NoPlace : PySem.HandSPX.refsVE bm_NoPlace = true)
    (sa_NoPlace : PySem.W.findIn K (.ref C_NoPlace) "__setattr__" = some (some (.builtin "object.__setattr__")))
    (no_NoPlace : PySem.W.findIn K (.ref C_NoPlace) "place" = some none)
    (k_NoPlace : PySem.W.keepIn K (.ref C_NoPlace) = true)
    (vs_NoPlace : PySem.W.subIn K (.ref C_NoPlace) (.type "ValueError") = some true)
    (up_NoPlace : PySem.W.ks_superIn K C_NoPlace C_NoPlace "__init__" = some (some (.builtin "ValueError.__init__")))
    (self_NoPlace : PySem.W.mroIn K C_NoPlace (.ref C_NoPlace) = some true)
    {fI_NoPlace cda_NoPlace cc_NoPlace : Addr} {oc_NoPlace kV_NoPlace doc_NoPlace pm_NoPlace ct_NoPlace cl_NoPlace ccl_NoPlace : Value} {od_NoPlace an_NoPlace cld_NoPlace cdd_NoPlace : Option Addr} {osl_NoPlace csl_NoPlace ccs_NoPlace : Array (Option Value)} {ql_NoPlace file_NoPlace : Str} {vv_NoPlace : Array Value} {tf_NoPlace : Tok} {p1_NoPlace p2_NoPlace q1_NoPlace q2_NoPlace q3_NoPlace q4_NoPlace q5_NoPlace q6_NoPlace q7_NoPlace q8_NoPlace q9_NoPlace q10_NoPlace : Pos}
    (fi_NoPlace : PySem.W.findIn K (.ref C_NoPlace) "__init__" = some (some (.ref fI_NoPlace)))
    (tI_NoPlace : PySem.W.typeIn K (.ref fI_NoPlace) = some (.type "function"))
    (lI_NoPlace : K.lookup fI_NoPlace = some ⟨oc_NoPlace, od_NoPlace, .func (PySem.W.ksFn "__init__" ql_NoPlace (xA "place" p1_NoPlace p2_NoPlace) (xB "place" q1_NoPlace q2_NoPlace q3_NoPlace q4_NoPlace q5_NoPlace q6_NoPlace q7_NoPlace q8_NoPlace q9_NoPlace q10_NoPlace) (xS "place") .none kV_NoPlace doc_NoPlace pm_NoPlace an_NoPlace (.ref cda_NoPlace) ct_NoPlace cc_NoPlace), osl_NoPlace⟩)
    (cd_NoPlace : PySem.W.codeIn K (.ref cda_NoPlace) ql_NoPlace = true)
    (ce_NoPlace : K.lookup cc_NoPlace = some ⟨cl_NoPlace, cld_NoPlace, .cell (some (.ref C_NoPlace)), csl_NoPlace⟩)
    (co_NoPlace : K.lookup cda_NoPlace = some ⟨ccl_NoPlace, cdd_NoPlace, .fields vv_NoPlace, ccs_NoPlace⟩)
    (cv_NoPlace : vv_NoPlace[2]? = some (.str file_NoPlace tf_NoPlace))
    (cf_NoPlace : ((l.prog.main.file : Str) == file_NoPlace) = true)
    (bi_NoPlace : ∀ e v, bindArgs (PySem.W.ksFn "__init__" ql_NoPlace (xA "place" p1_NoPlace p2_NoPlace) (xB "place" q1_NoPlace q2_NoPlace q3_NoPlace q4_NoPlace q5_NoPlace q6_NoPlace q7_NoPlace q8_NoPlace q9_NoPlace q10_NoPlace) (xS "place") .none kV_NoPlace doc_NoPlace pm_NoPlace an_NoPlace (.ref cda_NoPlace) ct_NoPlace cc_NoPlace) ⟨[.ref e, v], []⟩ = pure [((PySem.Str.ofString "self" : Str), .ref e), ("place", v)])
    (ev_NoPlace : ∀ L : Addr, ∃ pl, eval (xCall "place" q1_NoPlace q2_NoPlace q3_NoPlace q4_NoPlace q5_NoPlace) (PySem.W.ksEnv ql_NoPlace (xS "place") L fI_NoPlace (.ref cda_NoPlace) cc_NoPlace) = (do
      let ov ← attributeBase (.Call (.Name "super" q1_NoPlace) [] [] q2_NoPlace) "__init__" (PySem.W.ksEnv ql_NoPlace (xS "place") L fI_NoPlace (.ref cda_NoPlace) cc_NoPlace) (eval (.Call (.Name "super" q1_NoPlace) [] [] q2_NoPlace) (PySem.W.ksEnv ql_NoPlace (xS "place") L fI_NoPlace (.ref cda_NoPlace) cc_NoPlace))
      standAt q3_NoPlace.atName
      let (g, first) ← holding [ov] (getMethod ov "__init__" pl)
      callWith q5_NoPlace g first (backTo q5_NoPlace (starEach [.Name "place" q4_NoPlace] (PySem.W.ksEnv ql_NoPlace (xS "place") L fI_NoPlace (.ref cda_NoPlace) cc_NoPlace))) []))
    (z0 : PySem.W.nsIn K mainGlobals "ValueError" = some none)
    (z1 : PySem.W.nsIn K mainGlobals "abs" = some none)
    (z2 : PySem.W.nsIn K mainGlobals "all" = some none)
    (z3 : PySem.W.nsIn K mainGlobals "bool" = some none)
    (z4 : PySem.W.nsIn K mainGlobals "dict" = some none)
    (z5 : PySem.W.nsIn K mainGlobals "enumerate" = some none)
    (z6 : PySem.W.nsIn K mainGlobals "int" = some none)
    (z7 : PySem.W.nsIn K mainGlobals "isinstance" = some none)
    (z8 : PySem.W.nsIn K mainGlobals "len" = some none)
    (z9 : PySem.W.nsIn K mainGlobals "list" = some none)
    (z10 : PySem.W.nsIn K mainGlobals "min" = some none)
    (z11 : PySem.W.nsIn K mainGlobals "range" = some none)
    (z12 : PySem.W.nsIn K mainGlobals "repr" = some none)
    (z13 : PySem.W.nsIn K mainGlobals "set" = some none)
    (z14 : PySem.W.nsIn K mainGlobals "sorted" = some none)
    (z15 : PySem.W.nsIn K mainGlobals "str" = some none)
    (z16 : PySem.W.nsIn K mainGlobals "tuple" = some none)
    {tk0 : Tok}
    (y0 : PySem.W.nsIn K mainGlobals "LETTERS" = some (some (.str "abcdefghijklmnopqrstuvwxyz" tk0)))
    {tk1 : Tok}
    (y1 : PySem.W.nsIn K mainGlobals "MOST_LETTERS" = some (some (.int 8 tk1)))
    {tk2 : Tok}
    (y2 : PySem.W.nsIn K mainGlobals "MOST_PARTS" = some (some (.int 3 tk2)))
    {tk3 : Tok}
    (y3 : PySem.W.nsIn K mainGlobals "MOST_ARGUMENTS" = some (some (.int 2 tk3)))
    {tk4 : Tok}
    (y4 : PySem.W.nsIn K mainGlobals "MOST_OUTCOMES" = some (some (.int 6 tk4)))
    {tk5 : Tok}
    (y5 : PySem.W.nsIn K mainGlobals "MOST_BROUGHT" = some (some (.int 2 tk5)))
    {at6 : Addr} {od_t6 : Option Addr} {nn_t6 : Nat} {sl_t6 : Array (Option Value)} {tk6 : Tok}
    (y6 : PySem.W.nsIn K mainGlobals "NIL" = some (some (.ref at6)))
    (yl6 : K.lookup at6 = some ⟨.type "tuple", od_t6, .seq #[.str "nil" tk6] nn_t6, sl_t6⟩)
    {tk7 : Tok}
    (y7 : PySem.W.nsIn K mainGlobals "MOST_VARIABLES" = some (some (.int 24 tk7)))
    {tk8 : Tok}
    (y8 : PySem.W.nsIn K mainGlobals "MOST_TOLD" = some (some (.int 2 tk8)))
    (xa_NoPlace : PySem.W.findIn K (.ref C_NoPlace) "__getattribute__" = some (some (.builtin "BaseException.__getattribute__")))
    (xg_NoPlace : PySem.W.findIn K (.ref C_NoPlace) "__getattr__" = some none)
    (xl_NoPlace : PySem.W.findIn K (.ref C_NoPlace) "__class__" = some (some (.builtin "object.__class__")))
    (xn_NoPlace : PySem.W.specialIn K (.builtin "object.__class__") "__get__" = some (some (.builtin "getset_descriptor.__get__")))
    (xt_NoPlace : PySem.W.takesIn K (.builtin "object.__class__") = some true)
    (xm_NoPlace : PySem.W.mroIn K C_NoPlace (.type "object") = some true)
    (sb_NoPlace_MoveError : PySem.W.subIn K (.ref C_NoPlace) (.ref C_MoveError) = some true)
    : ∃ fd : FuncData, (∀ (t : Shared) (u : Value), BindsTo t fd ⟨[u], []⟩ [("_law_script", u)]) ∧ ∀ base : Heap, K.In base → base.Ns mainGlobals mg → FnOkG l.prog w K mg base CX0 60 fa fd P_law (sp_law K) := by
  have e := hfa.symm.trans (PySem.W.mg_of X G a40)
  cases e
  exact ⟨_, fun s v => .of_eq rfl, fun base _ _ => ok_law (T := {
    d__wall := ⟨_, _, fun_mk l0 c0 k0, PySem.W.mg_of X G a0, (fun_mk l0 c0 k0).binds fun _ _ _ _ _ _ us hl => match us, hl with | [_], _ => rfl⟩
    d_is_integer := ⟨_, _, fun_mk l1 c1 k1, PySem.W.mg_of X G a1, (fun_mk l1 c1 k1).binds fun _ _ _ _ _ _ us hl => match us, hl with | [_], _ => rfl⟩
    d_is_name := ⟨_, _, fun_mk l2 c2 k2, PySem.W.mg_of X G a2, (fun_mk l2 c2 k2).binds fun _ _ _ _ _ _ us hl => match us, hl with | [_], _ => rfl⟩
    d_is_outcome := ⟨_, _, fun_mk l3 c3 k3, PySem.W.mg_of X G a3, (fun_mk l3 c3 k3).binds fun _ _ _ _ _ _ us hl => match us, hl with | [_], _ => rfl⟩
    d_is_term := ⟨_, _, fun_mk l4 c4 k4, PySem.W.mg_of X G a4, (fun_mk l4 c4 k4).binds fun _ _ _ _ _ _ us hl => match us, hl with | [_], _ => rfl⟩
    d_is_term_over := ⟨_, _, fun_mk l5 c5 k5, PySem.W.mg_of X G a5, (fun_mk l5 c5 k5).binds fun _ _ _ _ _ _ us hl => match us, hl with | [_, _], _ => rfl⟩
    d_is_within := ⟨_, _, fun_mk l6 c6 k6, PySem.W.mg_of X G a6, (fun_mk l6 c6 k6).binds fun _ _ _ _ _ _ us hl => match us, hl with | [_, _], _ => rfl⟩
    d_are_outcomes := ⟨_, _, fun_mk l7 c7 k7, PySem.W.mg_of X G a7, (fun_mk l7 c7 k7).binds fun _ _ _ _ _ _ us hl => match us, hl with | [_], _ => rfl⟩
    d_is_act := ⟨_, _, fun_mk l8 c8 k8, PySem.W.mg_of X G a8, (fun_mk l8 c8 k8).binds fun _ _ _ _ _ _ us hl => match us, hl with | [_], _ => rfl⟩
    d_are_different := ⟨_, _, fun_mk l9 c9 k9, PySem.W.mg_of X G a9, (fun_mk l9 c9 k9).binds fun _ _ _ _ _ _ us hl => match us, hl with | [_, _], _ => rfl⟩
    d_are_terms_over := ⟨_, _, fun_mk l10 c10 k10, PySem.W.mg_of X G a10, (fun_mk l10 c10 k10).binds fun _ _ _ _ _ _ us hl => match us, hl with | [_, _], _ => rfl⟩
    d_is_place := ⟨_, _, fun_mk l11 c11 k11, PySem.W.mg_of X G a11, (fun_mk l11 c11 k11).binds fun _ _ _ _ _ _ us hl => match us, hl with | [_, _], _ => rfl⟩
    d_is_pair := ⟨_, _, fun_mk l12 c12 k12, PySem.W.mg_of X G a12, (fun_mk l12 c12 k12).binds fun _ _ _ _ _ _ us hl => match us, hl with | [_], _ => rfl⟩
    d_is_set := ⟨_, _, fun_mk l13 c13 k13, PySem.W.mg_of X G a13, (fun_mk l13 c13 k13).binds fun _ _ _ _ _ _ us hl => match us, hl with | [_, _, _], _ => rfl⟩
    d_is_way := ⟨_, _, fun_mk l14 c14 k14, PySem.W.mg_of X G a14, (fun_mk l14 c14 k14).binds fun _ _ _ _ _ _ us hl => match us, hl with | [_, _, _, _, _], _ => rfl⟩
    d_is_ask := ⟨_, _, fun_mk l15 c15 k15, PySem.W.mg_of X G a15, (fun_mk l15 c15 k15).binds fun _ _ _ _ _ _ us hl => match us, hl with | [_, _, _, _], _ => rfl⟩
    d_is_end := ⟨_, _, fun_mk l16 c16 k16, PySem.W.mg_of X G a16, (fun_mk l16 c16 k16).binds fun _ _ _ _ _ _ us hl => match us, hl with | [_, _], _ => rfl⟩
    d_is_statement := ⟨_, _, fun_mk l17 c17 k17, PySem.W.mg_of X G a17, (fun_mk l17 c17 k17).binds fun _ _ _ _ _ _ us hl => match us, hl with | [_, _, _, _], _ => rfl⟩
    d_ordered := ⟨_, _, fun_mk l18 c18 k18, PySem.W.mg_of X G a18, (fun_mk l18 c18 k18).binds fun _ _ _ _ _ _ us hl => match us, hl with | [_], _ => rfl⟩
    d_first_of := ⟨_, _, fun_mk l19 c19 k19, PySem.W.mg_of X G a19, (fun_mk l19 c19 k19).binds fun _ _ _ _ _ _ us hl => match us, hl with | [_], _ => rfl⟩
    d__law_bag := ⟨_, _, fun_mk l20 c20 k20, PySem.W.mg_of X G a20, (fun_mk l20 c20 k20).binds fun _ _ _ _ _ _ us hl => match us, hl with | [_], _ => rfl⟩
    d__law_take := ⟨_, _, fun_mk l21 c21 k21, PySem.W.mg_of X G a21, (fun_mk l21 c21 k21).binds fun _ _ _ _ _ _ us hl => match us, hl with | [_, _], _ => rfl⟩
    d__law_alike := ⟨_, _, fun_mk l22 c22 k22, PySem.W.mg_of X G a22, (fun_mk l22 c22 k22).binds fun _ _ _ _ _ _ us hl => match us, hl with | [_, _], _ => rfl⟩
    d__law_mixed := ⟨_, _, fun_mk l23 c23 k23, PySem.W.mg_of X G a23, (fun_mk l23 c23 k23).binds fun _ _ _ _ _ _ us hl => match us, hl with | [_, _], _ => rfl⟩
    d__law_names := ⟨_, _, fun_mk l24 c24 k24, PySem.W.mg_of X G a24, (fun_mk l24 c24 k24).binds fun _ _ _ _ _ _ us hl => match us, hl with | [_, _], _ => rfl⟩
    d__law_term := ⟨_, _, fun_mk l25 c25 k25, PySem.W.mg_of X G a25, (fun_mk l25 c25 k25).binds fun _ _ _ _ _ _ us hl => match us, hl with | [_, _, _, _], _ => rfl⟩
    d__law_acts := ⟨_, _, fun_mk l26 c26 k26, PySem.W.mg_of X G a26, (fun_mk l26 c26 k26).binds fun _ _ _ _ _ _ us hl => match us, hl with | [_, _], _ => rfl⟩
    d__law_world_of := ⟨_, _, fun_mk l27 c27 k27, PySem.W.mg_of X G a27, (fun_mk l27 c27 k27).binds fun _ _ _ _ _ _ us hl => match us, hl with | [_, _], _ => rfl⟩
    d__law_goal := ⟨_, _, fun_mk l28 c28 k28, PySem.W.mg_of X G a28, (fun_mk l28 c28 k28).binds fun _ _ _ _ _ _ us hl => match us, hl with | [_, _, _], _ => rfl⟩
    d__law_ask := ⟨_, _, fun_mk l29 c29 k29, PySem.W.mg_of X G a29, (fun_mk l29 c29 k29).binds fun _ _ _ _ _ _ us hl => match us, hl with | [_, _, _, _, _, _], _ => rfl⟩
    d__law_line := ⟨_, _, fun_mk l30 c30 k30, PySem.W.mg_of X G a30, (fun_mk l30 c30 k30).binds fun _ _ _ _ _ _ us hl => match us, hl with | [_, _, _, _, _, _], _ => rfl⟩
    d__law_code := ⟨_, _, fun_mk l31 c31 k31, PySem.W.mg_of X G a31, (fun_mk l31 c31 k31).binds fun _ _ _ _ _ _ us hl => match us, hl with | [_, _, _, _], _ => rfl⟩
    d__law_code_of := ⟨_, _, fun_mk l32 c32 k32, PySem.W.mg_of X G a32, (fun_mk l32 c32 k32).binds fun _ _ _ _ _ _ us hl => match us, hl with | [_, _, _], _ => rfl⟩
    d__law_first := ⟨_, _, fun_mk l33 c33 k33, PySem.W.mg_of X G a33, (fun_mk l33 c33 k33).binds fun _ _ _ _ _ _ us hl => match us, hl with | [_], _ => rfl⟩
    d__law_wrapped := ⟨_, _, fun_mk l34 c34 k34, PySem.W.mg_of X G a34, (fun_mk l34 c34 k34).binds fun _ _ _ _ _ _ us hl => match us, hl with | [_], _ => rfl⟩
    d__law_nested := ⟨_, _, fun_mk l35 c35 k35, PySem.W.mg_of X G a35, (fun_mk l35 c35 k35).binds fun _ _ _ _ _ _ us hl => match us, hl with | [_, _], _ => rfl⟩
    d__law_deep_code := ⟨_, _, fun_mk l36 c36 k36, PySem.W.mg_of X G a36, (fun_mk l36 c36 k36).binds fun _ _ _ _ _ _ us hl => match us, hl with | [_, _, _, _], _ => rfl⟩
    d__law_near := ⟨_, _, fun_mk l37 c37 k37, PySem.W.mg_of X G a37, (fun_mk l37 c37 k37).binds fun _ _ _ _ _ _ us hl => match us, hl with | [_, _], _ => rfl⟩
    d__law_asked := ⟨_, _, fun_mk l38 c38 k38, PySem.W.mg_of X G a38, (fun_mk l38 c38 k38).binds fun _ _ _ _ _ _ us hl => match us, hl with | [_, _], _ => rfl⟩
    d__law_right := ⟨_, _, fun_mk l39 c39 k39, PySem.W.mg_of X G a39, (fun_mk l39 c39 k39).binds fun _ _ _ _ _ _ us hl => match us, hl with | [_, _, _], _ => rfl⟩
    d_law := ⟨_, _, fun_mk l40 c40 k40, PySem.W.mg_of X G a40, (fun_mk l40 c40 k40).binds fun _ _ _ _ _ _ us hl => match us, hl with | [_], _ => rfl⟩
    C_World := C_World
    g_World := PySem.W.mg_of X G g_World
    k_World := k_World
    c_World := ⟨pg_World, ic_World, po_World, sa_World⟩
    mk_World := mk_World
    is_World := ⟨ca_World, cn_World, ct_World, cm_World⟩
    ne_World := ne_World
    ty_World := tyc_World
    p_World_its_acts := p_World_its_acts
    sl_World_its_acts := ⟨at_World_its_acts, get_World_its_acts, tk_World_its_acts, ty_World_its_acts, ix_World_its_acts, by decide⟩
    d_World___init__ := ⟨_, _, fun_mk lm_World___init__ co_World___init__ km_World___init__, ⟨am_World___init__, im_World___init__, km_World___init__⟩, (fun_mk lm_World___init__ co_World___init__ km_World___init__).binds fun _ _ _ _ _ _ us hl => match us, hl with | [_, _], _ => rfl⟩
    d_World_acts := ⟨_, _, fun_mk lm_World_acts co_World_acts km_World_acts, ⟨am_World_acts, im_World_acts, km_World_acts⟩, (fun_mk lm_World_acts co_World_acts km_World_acts).binds fun _ _ _ _ _ _ us hl => match us, hl with | [_], _ => rfl⟩
    d_World_arguments := ⟨_, _, fun_mk lm_World_arguments co_World_arguments km_World_arguments, ⟨am_World_arguments, im_World_arguments, km_World_arguments⟩, (fun_mk lm_World_arguments co_World_arguments km_World_arguments).binds fun _ _ _ _ _ _ us hl => match us, hl with | [_, _], _ => rfl⟩
    d_World_outcomes := ⟨_, _, fun_mk lm_World_outcomes co_World_outcomes km_World_outcomes, ⟨am_World_outcomes, im_World_outcomes, km_World_outcomes⟩, (fun_mk lm_World_outcomes co_World_outcomes km_World_outcomes).binds fun _ _ _ _ _ _ us hl => match us, hl with | [_, _], _ => rfl⟩
    d_World_brings := ⟨_, _, fun_mk lm_World_brings co_World_brings km_World_brings, ⟨am_World_brings, im_World_brings, km_World_brings⟩, (fun_mk lm_World_brings co_World_brings km_World_brings).binds fun _ _ _ _ _ _ us hl => match us, hl with | [_, _, _], _ => rfl⟩
    d_World___eq__ := ⟨_, _, fun_mk lm_World___eq__ co_World___eq__ km_World___eq__, ⟨am_World___eq__, im_World___eq__, km_World___eq__⟩, (fun_mk lm_World___eq__ co_World___eq__ km_World___eq__).binds fun _ _ _ _ _ _ us hl => match us, hl with | [_, _], _ => rfl⟩
    C_Code := C_Code
    g_Code := PySem.W.mg_of X G g_Code
    k_Code := k_Code
    c_Code := ⟨pg_Code, ic_Code, po_Code, sa_Code⟩
    mk_Code := mk_Code
    is_Code := ⟨ca_Code, cn_Code, ct_Code, cm_Code⟩
    df_World_Code := df_World_Code
    dn_World_Code := dn_World_Code
    ne_Code := ne_Code
    ty_Code := tyc_Code
    p_Code_its_world := p_Code_its_world
    sl_Code_its_world := ⟨at_Code_its_world, get_Code_its_world, tk_Code_its_world, ty_Code_its_world, ix_Code_its_world, by decide⟩
    p_Code_its_variables := p_Code_its_variables
    sl_Code_its_variables := ⟨at_Code_its_variables, get_Code_its_variables, tk_Code_its_variables, ty_Code_its_variables, ix_Code_its_variables, by decide⟩
    p_Code_its_given := p_Code_its_given
    sl_Code_its_given := ⟨at_Code_its_given, get_Code_its_given, tk_Code_its_given, ty_Code_its_given, ix_Code_its_given, by decide⟩
    p_Code_its_statements := p_Code_its_statements
    sl_Code_its_statements := ⟨at_Code_its_statements, get_Code_its_statements, tk_Code_its_statements, ty_Code_its_statements, ix_Code_its_statements, by decide⟩
    d_Code___init__ := ⟨_, _, fun_mk lm_Code___init__ co_Code___init__ km_Code___init__, ⟨am_Code___init__, im_Code___init__, km_Code___init__⟩, (fun_mk lm_Code___init__ co_Code___init__ km_Code___init__).binds fun _ _ _ _ _ _ us hl => match us, hl with | [_, _, _, _, _], _ => rfl⟩
    d_Code_world := ⟨_, _, fun_mk lm_Code_world co_Code_world km_Code_world, _, pa_Code_world, pg_Code_world, pt_Code_world, ⟨_, pr_Code_world⟩, (fun_mk lm_Code_world co_Code_world km_Code_world).binds fun _ _ _ _ _ _ us hl => match us, hl with | [_], _ => rfl⟩
    d_Code_variables := ⟨_, _, fun_mk lm_Code_variables co_Code_variables km_Code_variables, _, pa_Code_variables, pg_Code_variables, pt_Code_variables, ⟨_, pr_Code_variables⟩, (fun_mk lm_Code_variables co_Code_variables km_Code_variables).binds fun _ _ _ _ _ _ us hl => match us, hl with | [_], _ => rfl⟩
    d_Code_given := ⟨_, _, fun_mk lm_Code_given co_Code_given km_Code_given, _, pa_Code_given, pg_Code_given, pt_Code_given, ⟨_, pr_Code_given⟩, (fun_mk lm_Code_given co_Code_given km_Code_given).binds fun _ _ _ _ _ _ us hl => match us, hl with | [_], _ => rfl⟩
    d_Code___len__ := ⟨_, _, fun_mk lm_Code___len__ co_Code___len__ km_Code___len__, ⟨am_Code___len__, im_Code___len__, km_Code___len__⟩, (fun_mk lm_Code___len__ co_Code___len__ km_Code___len__).binds fun _ _ _ _ _ _ us hl => match us, hl with | [_], _ => rfl⟩
    d_Code_statement := ⟨_, _, fun_mk lm_Code_statement co_Code_statement km_Code_statement, ⟨am_Code_statement, im_Code_statement, km_Code_statement⟩, (fun_mk lm_Code_statement co_Code_statement km_Code_statement).binds fun _ _ _ _ _ _ us hl => match us, hl with | [_, _], _ => rfl⟩
    d_Code_statements := ⟨_, _, fun_mk lm_Code_statements co_Code_statements km_Code_statements, ⟨am_Code_statements, im_Code_statements, km_Code_statements⟩, (fun_mk lm_Code_statements co_Code_statements km_Code_statements).binds fun _ _ _ _ _ _ us hl => match us, hl with | [_], _ => rfl⟩
    d_Code_first := ⟨_, _, fun_mk lm_Code_first co_Code_first km_Code_first, ⟨am_Code_first, im_Code_first, km_Code_first⟩, (fun_mk lm_Code_first co_Code_first km_Code_first).binds fun _ _ _ _ _ _ us hl => match us, hl with | [_], _ => rfl⟩
    d_Code_showing := ⟨_, _, fun_mk lm_Code_showing co_Code_showing km_Code_showing, ⟨am_Code_showing, im_Code_showing, km_Code_showing⟩, (fun_mk lm_Code_showing co_Code_showing km_Code_showing).binds fun _ _ _ _ _ _ us hl => match us, hl with | [_, _], _ => rfl⟩
    d_Code_parts := ⟨_, _, fun_mk lm_Code_parts co_Code_parts km_Code_parts, ⟨am_Code_parts, im_Code_parts, km_Code_parts⟩, (fun_mk lm_Code_parts co_Code_parts km_Code_parts).binds fun _ _ _ _ _ _ us hl => match us, hl with | [_], _ => rfl⟩
    d_Code___eq__ := ⟨_, _, fun_mk lm_Code___eq__ co_Code___eq__ km_Code___eq__, ⟨am_Code___eq__, im_Code___eq__, km_Code___eq__⟩, (fun_mk lm_Code___eq__ co_Code___eq__ km_Code___eq__).binds fun _ _ _ _ _ _ us hl => match us, hl with | [_, _], _ => rfl⟩
    b_ValueError := PySem.W.mg_none_of X G z0
    b_abs := PySem.W.mg_none_of X G z1
    b_all := PySem.W.mg_none_of X G z2
    b_bool := PySem.W.mg_none_of X G z3
    b_dict := PySem.W.mg_none_of X G z4
    b_enumerate := PySem.W.mg_none_of X G z5
    b_int := PySem.W.mg_none_of X G z6
    b_isinstance := PySem.W.mg_none_of X G z7
    b_len := PySem.W.mg_none_of X G z8
    b_list := PySem.W.mg_none_of X G z9
    b_min := PySem.W.mg_none_of X G z10
    b_range := PySem.W.mg_none_of X G z11
    b_repr := PySem.W.mg_none_of X G z12
    b_set := PySem.W.mg_none_of X G z13
    b_sorted := PySem.W.mg_none_of X G z14
    b_str := PySem.W.mg_none_of X G z15
    b_tuple := PySem.W.mg_none_of X G z16
    v_LETTERS := _
    c_LETTERS := PySem.W.mg_of X G y0
    r_LETTERS := ⟨_, rfl⟩
    v_MOST_LETTERS := _
    c_MOST_LETTERS := PySem.W.mg_of X G y1
    r_MOST_LETTERS := ⟨_, rfl⟩
    v_MOST_PARTS := _
    c_MOST_PARTS := PySem.W.mg_of X G y2
    r_MOST_PARTS := ⟨_, rfl⟩
    v_MOST_ARGUMENTS := _
    c_MOST_ARGUMENTS := PySem.W.mg_of X G y3
    r_MOST_ARGUMENTS := ⟨_, rfl⟩
    v_MOST_OUTCOMES := _
    c_MOST_OUTCOMES := PySem.W.mg_of X G y4
    r_MOST_OUTCOMES := ⟨_, rfl⟩
    v_MOST_BROUGHT := _
    c_MOST_BROUGHT := PySem.W.mg_of X G y5
    r_MOST_BROUGHT := ⟨_, rfl⟩
    a_NIL := at6
    c_NIL := PySem.W.mg_of X G y6
    q_NIL := fun _ => .inr ⟨_, _, _, yl6, rfl, rfl, (show 1 ≤ sizeLine by decide), .cons ⟨_, rfl⟩ .nil⟩
    v_MOST_VARIABLES := _
    c_MOST_VARIABLES := PySem.W.mg_of X G y7
    r_MOST_VARIABLES := ⟨_, rfl⟩
    v_MOST_TOLD := _
    c_MOST_TOLD := PySem.W.mg_of X G y8
    r_MOST_TOLD := ⟨_, rfl⟩
  }) (Y := {
    C_MoveError := C_MoveError
    x_MoveError := ⟨PySem.W.mg_of X G g_MoveError, ex_MoveError, hd_MoveError, ty_MoveError⟩
    C_Wrong := C_Wrong
    x_Wrong := ⟨PySem.W.mg_of X G g_Wrong, ⟨_, _, _, _, _, _, _, _, _, _, _, _, _, _, _, cls_Wrong, ve_Wrong⟩, sa_Wrong, no_Wrong, k_Wrong, ex_Wrong, vs_Wrong, ty_Wrong, hd_Wrong, up_Wrong, opq_, self_Wrong, ⟨_, _, _, _, _, _, _, _, _, _, _, _, _, _, _, _, _, _, _, _, _, _, _, _, fi_Wrong, tI_Wrong, lI_Wrong, cd_Wrong, ⟨_, _, _, ce_Wrong⟩, _, _, _, _, _, _, co_Wrong, cv_Wrong, cf_Wrong, bi_Wrong, ev_Wrong⟩, topS_, PySem.W.mg_none_of X G sup_, by decide +kernel, by decide +kernel, by decide +kernel, by decide +kernel, by decide +kernel⟩
    C_BadAct := C_BadAct
    x_BadAct := ⟨PySem.W.mg_of X G g_BadAct, ⟨_, _, _, _, _, _, _, _, _, _, _, _, _, _, _, cls_BadAct, ve_BadAct⟩, sa_BadAct, no_BadAct, k_BadAct, ex_BadAct, vs_BadAct, ty_BadAct, hd_BadAct, up_BadAct, opq_, self_BadAct, ⟨_, _, _, _, _, _, _, _, _, _, _, _, _, _, _, _, _, _, _, _, _, _, _, _, fi_BadAct, tI_BadAct, lI_BadAct, cd_BadAct, ⟨_, _, _, ce_BadAct⟩, _, _, _, _, _, _, co_BadAct, cv_BadAct, cf_BadAct, bi_BadAct, ev_BadAct⟩, topS_, PySem.W.mg_none_of X G sup_, by decide +kernel, by decide +kernel, by decide +kernel, by decide +kernel, by decide +kernel⟩
    C_BadPlace := C_BadPlace
    x_BadPlace := ⟨PySem.W.mg_of X G g_BadPlace, ⟨_, _, _, _, _, _, _, _, _, _, _, _, _, _, _, cls_BadPlace, ve_BadPlace⟩, sa_BadPlace, no_BadPlace, k_BadPlace, ex_BadPlace, vs_BadPlace, ty_BadPlace, hd_BadPlace, up_BadPlace, opq_, self_BadPlace, ⟨_, _, _, _, _, _, _, _, _, _, _, _, _, _, _, _, _, _, _, _, _, _, _, _, fi_BadPlace, tI_BadPlace, lI_BadPlace, cd_BadPlace, ⟨_, _, _, ce_BadPlace⟩, _, _, _, _, _, _, co_BadPlace, cv_BadPlace, cf_BadPlace, bi_BadPlace, ev_BadPlace⟩, topS_, PySem.W.mg_none_of X G sup_, by decide +kernel, by decide +kernel, by decide +kernel, by decide +kernel, by decide +kernel⟩
    C_NoPlace := C_NoPlace
    x_NoPlace := ⟨PySem.W.mg_of X G g_NoPlace, ⟨_, _, _, _, _, _, _, _, _, _, _, _, _, _, _, cls_NoPlace, ve_NoPlace⟩, sa_NoPlace, no_NoPlace, k_NoPlace, ex_NoPlace, vs_NoPlace, ty_NoPlace, hd_NoPlace, up_NoPlace, opq_, self_NoPlace, ⟨_, _, _, _, _, _, _, _, _, _, _, _, _, _, _, _, _, _, _, _, _, _, _, _, fi_NoPlace, tI_NoPlace, lI_NoPlace, cd_NoPlace, ⟨_, _, _, ce_NoPlace⟩, _, _, _, _, _, _, co_NoPlace, cv_NoPlace, cf_NoPlace, bi_NoPlace, ev_NoPlace⟩, topS_, PySem.W.mg_none_of X G sup_, by decide +kernel, by decide +kernel, by decide +kernel, by decide +kernel, by decide +kernel⟩
    xc_NoPlace := ⟨xa_NoPlace, xg_NoPlace, ex_NoPlace, hd_NoPlace, xl_NoPlace, xn_NoPlace, xt_NoPlace, xm_NoPlace⟩
    em_NoPlace_MoveError := PySem.W.exm_ref ex_MoveError hd_MoveError ty_MoveError sb_NoPlace_MoveError
  })⟩
end
end Fm
open PySem PySem.W PyProof.Rows
set_option maxHeartbeats 0 in
theorem PySem.Challenge.cw_framemoves_k22_codes_made_holds : PySem.Challenge.rw_framemoves_k22_codes_made.Holds := by
  w_on; o_law; k_head; (case hw => w_witness2)
  k_fill
  refine Fm.walk_G (l := PySem.Challenge.rw_framemoves_k22_codes_made) (n := 63) (k := 60) (x := "_law_script") (sp := Fm.sp_law) rfl (by decide) rfl ⟨rfl, by decide, by decide⟩ (fun w h Y => PySem.W.kIn_of Y) ?F (fun K H a ns hl hS => ⟨a, ns, rfl, hS, hl, fun _ => rfl⟩)
  case F =>
    intro w mg fa h KX G hmg
    refine' Fm.all_mk KX G hmg ?a0 ?l0 ?c0 ?k0 ?a1 ?l1 ?c1 ?k1 ?a2 ?l2 ?c2 ?k2 ?a3 ?l3 ?c3 ?k3 ?a4 ?l4 ?c4 ?k4 ?a5 ?l5 ?c5 ?k5 ?a6 ?l6 ?c6 ?k6 ?a7 ?l7 ?c7 ?k7 ?a8 ?l8 ?c8 ?k8 ?a9 ?l9 ?c9 ?k9 ?a10 ?l10 ?c10 ?k10 ?a11 ?l11 ?c11 ?k11 ?a12 ?l12 ?c12 ?k12 ?a13 ?l13 ?c13 ?k13 ?a14 ?l14 ?c14 ?k14 ?a15 ?l15 ?c15 ?k15 ?a16 ?l16 ?c16 ?k16 ?a17 ?l17 ?c17 ?k17 ?a18 ?l18 ?c18 ?k18 ?a19 ?l19 ?c19 ?k19 ?a20 ?l20 ?c20 ?k20 ?a21 ?l21 ?c21 ?k21 ?a22 ?l22 ?c22 ?k22 ?a23 ?l23 ?c23 ?k23 ?a24 ?l24 ?c24 ?k24 ?a25 ?l25 ?c25 ?k25 ?a26 ?l26 ?c26 ?k26 ?a27 ?l27 ?c27 ?k27 ?a28 ?l28 ?c28 ?k28 ?a29 ?l29 ?c29 ?k29 ?a30 ?l30 ?c30 ?k30 ?a31 ?l31 ?c31 ?k31 ?a32 ?l32 ?c32 ?k32 ?a33 ?l33 ?c33 ?k33 ?a34 ?l34 ?c34 ?k34 ?a35 ?l35 ?c35 ?k35 ?a36 ?l36 ?c36 ?k36 ?a37 ?l37 ?c37 ?k37 ?a38 ?l38 ?c38 ?k38 ?a39 ?l39 ?c39 ?k39 ?a40 ?l40 ?c40 ?k40 ?g_World ?k_World ?pg_World ?ic_World ?po_World ?sa_World ?mk_World ?ca_World ?cn_World ?ct_World ?cm_World ?ne_World ?tyc_World ?at_World_its_acts ?get_World_its_acts ?tk_World_its_acts ?ty_World_its_acts ?ix_World_its_acts ?am_World___init__ ?im_World___init__ ?lm_World___init__ ?co_World___init__ ?km_World___init__ ?am_World_acts ?im_World_acts ?lm_World_acts ?co_World_acts ?km_World_acts ?am_World_arguments ?im_World_arguments ?lm_World_arguments ?co_World_arguments ?km_World_arguments ?am_World_outcomes ?im_World_outcomes ?lm_World_outcomes ?co_World_outcomes ?km_World_outcomes ?am_World_brings ?im_World_brings ?lm_World_brings ?co_World_brings ?km_World_brings ?am_World___eq__ ?im_World___eq__ ?lm_World___eq__ ?co_World___eq__ ?km_World___eq__ ?g_Code ?k_Code ?pg_Code ?ic_Code ?po_Code ?sa_Code ?mk_Code ?ca_Code ?cn_Code ?ct_Code ?cm_Code ?df_World_Code ?dn_World_Code ?ne_Code ?tyc_Code ?at_Code_its_given ?get_Code_its_given ?tk_Code_its_given ?ty_Code_its_given ?ix_Code_its_given ?at_Code_its_statements ?get_Code_its_statements ?tk_Code_its_statements ?ty_Code_its_statements ?ix_Code_its_statements ?at_Code_its_variables ?get_Code_its_variables ?tk_Code_its_variables ?ty_Code_its_variables ?ix_Code_its_variables ?at_Code_its_world ?get_Code_its_world ?tk_Code_its_world ?ty_Code_its_world ?ix_Code_its_world ?am_Code___init__ ?im_Code___init__ ?lm_Code___init__ ?co_Code___init__ ?km_Code___init__ ?pa_Code_world ?pg_Code_world ?pt_Code_world ?pr_Code_world ?lm_Code_world ?co_Code_world ?km_Code_world ?pa_Code_variables ?pg_Code_variables ?pt_Code_variables ?pr_Code_variables ?lm_Code_variables ?co_Code_variables ?km_Code_variables ?pa_Code_given ?pg_Code_given ?pt_Code_given ?pr_Code_given ?lm_Code_given ?co_Code_given ?km_Code_given ?am_Code___len__ ?im_Code___len__ ?lm_Code___len__ ?co_Code___len__ ?km_Code___len__ ?am_Code_statement ?im_Code_statement ?lm_Code_statement ?co_Code_statement ?km_Code_statement ?am_Code_statements ?im_Code_statements ?lm_Code_statements ?co_Code_statements ?km_Code_statements ?am_Code_first ?im_Code_first ?lm_Code_first ?co_Code_first ?km_Code_first ?am_Code_showing ?im_Code_showing ?lm_Code_showing ?co_Code_showing ?km_Code_showing ?am_Code_parts ?im_Code_parts ?lm_Code_parts ?co_Code_parts ?km_Code_parts ?am_Code___eq__ ?im_Code___eq__ ?lm_Code___eq__ ?co_Code___eq__ ?km_Code___eq__ ?topS_ ?sup_ ?opq_ ?g_MoveError ?ex_MoveError ?hd_MoveError ?ty_MoveError ?g_Wrong ?ex_Wrong ?hd_Wrong ?ty_Wrong ?cls_Wrong ?ve_Wrong ?sa_Wrong ?no_Wrong ?k_Wrong ?vs_Wrong ?up_Wrong ?self_Wrong ?fi_Wrong ?tI_Wrong ?lI_Wrong ?cd_Wrong ?ce_Wrong ?co_Wrong ?cv_Wrong ?cf_Wrong ?bi_Wrong ?ev_Wrong ?g_BadAct ?ex_BadAct ?hd_BadAct ?ty_BadAct ?cls_BadAct ?ve_BadAct ?sa_BadAct ?no_BadAct ?k_BadAct ?vs_BadAct ?up_BadAct ?self_BadAct ?fi_BadAct ?tI_BadAct ?lI_BadAct ?cd_BadAct ?ce_BadAct ?co_BadAct ?cv_BadAct ?cf_BadAct ?bi_BadAct ?ev_BadAct ?g_BadPlace ?ex_BadPlace ?hd_BadPlace ?ty_BadPlace ?cls_BadPlace ?ve_BadPlace ?sa_BadPlace ?no_BadPlace ?k_BadPlace ?vs_BadPlace ?up_BadPlace ?self_BadPlace ?fi_BadPlace ?tI_BadPlace ?lI_BadPlace ?cd_BadPlace ?ce_BadPlace ?co_BadPlace ?cv_BadPlace ?cf_BadPlace ?bi_BadPlace ?ev_BadPlace ?g_NoPlace ?ex_NoPlace ?hd_NoPlace ?ty_NoPlace ?cls_NoPlace ?ve_NoPlace ?sa_NoPlace ?no_NoPlace ?k_NoPlace ?vs_NoPlace ?up_NoPlace ?self_NoPlace ?fi_NoPlace ?tI_NoPlace ?lI_NoPlace ?cd_NoPlace ?ce_NoPlace ?co_NoPlace ?cv_NoPlace ?cf_NoPlace ?bi_NoPlace ?ev_NoPlace ?z0 ?z1 ?z2 ?z3 ?z4 ?z5 ?z6 ?z7 ?z8 ?z9 ?z10 ?z11 ?z12 ?z13 ?z14 ?z15 ?z16 ?y0 ?y1 ?y2 ?y3 ?y4 ?y5 ?y6 ?yl6 ?y7 ?y8 ?xa_NoPlace ?xg_NoPlace ?xl_NoPlace ?xn_NoPlace ?xt_NoPlace ?xm_NoPlace ?sb_NoPlace_MoveError
    (case a0 => k_is); (case l0 => k_is); (case c0 => k_is); (case k0 => k_is); (case a1 => k_is); (case l1 => k_is); (case c1 => k_is); (case k1 => k_is); (case a2 => k_is); (case l2 => k_is); (case c2 => k_is); (case k2 => k_is); (case a3 => k_is); (case l3 => k_is); (case c3 => k_is); (case k3 => k_is); (case a4 => k_is); (case l4 => k_is); (case c4 => k_is); (case k4 => k_is); (case a5 => k_is); (case l5 => k_is); (case c5 => k_is); (case k5 => k_is); (case a6 => k_is); (case l6 => k_is); (case c6 => k_is); (case k6 => k_is); (case a7 => k_is); (case l7 => k_is); (case c7 => k_is); (case k7 => k_is); (case a8 => k_is); (case l8 => k_is); (case c8 => k_is); (case k8 => k_is); (case a9 => k_is); (case l9 => k_is); (case c9 => k_is); (case k9 => k_is); (case a10 => k_is); (case l10 => k_is); (case c10 => k_is); (case k10 => k_is); (case a11 => k_is); (case l11 => k_is); (case c11 => k_is); (case k11 => k_is); (case a12 => k_is); (case l12 => k_is); (case c12 => k_is); (case k12 => k_is); (case a13 => k_is); (case l13 => k_is); (case c13 => k_is); (case k13 => k_is); (case a14 => k_is); (case l14 => k_is); (case c14 => k_is); (case k14 => k_is); (case a15 => k_is); (case l15 => k_is); (case c15 => k_is); (case k15 => k_is); (case a16 => k_is); (case l16 => k_is); (case c16 => k_is); (case k16 => k_is); (case a17 => k_is); (case l17 => k_is); (case c17 => k_is); (case k17 => k_is); (case a18 => k_is); (case l18 => k_is); (case c18 => k_is); (case k18 => k_is); (case a19 => k_is); (case l19 => k_is); (case c19 => k_is); (case k19 => k_is); (case a20 => k_is); (case l20 => k_is); (case c20 => k_is); (case k20 => k_is); (case a21 => k_is); (case l21 => k_is); (case c21 => k_is); (case k21 => k_is); (case a22 => k_is); (case l22 => k_is); (case c22 => k_is); (case k22 => k_is); (case a23 => k_is); (case l23 => k_is); (case c23 => k_is); (case k23 => k_is); (case a24 => k_is); (case l24 => k_is); (case c24 => k_is); (case k24 => k_is); (case a25 => k_is); (case l25 => k_is); (case c25 => k_is); (case k25 => k_is); (case a26 => k_is); (case l26 => k_is); (case c26 => k_is); (case k26 => k_is); (case a27 => k_is); (case l27 => k_is); (case c27 => k_is); (case k27 => k_is); (case a28 => k_is); (case l28 => k_is); (case c28 => k_is); (case k28 => k_is); (case a29 => k_is); (case l29 => k_is); (case c29 => k_is); (case k29 => k_is); (case a30 => k_is); (case l30 => k_is); (case c30 => k_is); (case k30 => k_is); (case a31 => k_is); (case l31 => k_is); (case c31 => k_is); (case k31 => k_is); (case a32 => k_is); (case l32 => k_is); (case c32 => k_is); (case k32 => k_is); (case a33 => k_is); (case l33 => k_is); (case c33 => k_is); (case k33 => k_is); (case a34 => k_is); (case l34 => k_is); (case c34 => k_is); (case k34 => k_is); (case a35 => k_is); (case l35 => k_is); (case c35 => k_is); (case k35 => k_is); (case a36 => k_is); (case l36 => k_is); (case c36 => k_is); (case k36 => k_is); (case a37 => k_is); (case l37 => k_is); (case c37 => k_is); (case k37 => k_is); (case a38 => k_is); (case l38 => k_is); (case c38 => k_is); (case k38 => k_is); (case a39 => k_is); (case l39 => k_is); (case c39 => k_is); (case k39 => k_is); (case a40 => k_is); (case l40 => k_is); (case c40 => k_is); (case k40 => k_is); (case g_World => k_is); (case k_World => k_is); (case pg_World => k_is); (case ic_World => k_is); (case po_World => k_is); (case sa_World => k_is); (case mk_World => k_is); (case ca_World => k_is); (case cn_World => k_is); (case ct_World => k_is); (case cm_World => k_is); (case ne_World => k_is); (case tyc_World => k_is); (case at_World_its_acts => k_is); (case get_World_its_acts => k_is); (case tk_World_its_acts => k_is); (case ty_World_its_acts => k_is); (case ix_World_its_acts => k_is); (case am_World___init__ => k_is); (case im_World___init__ => k_is); (case lm_World___init__ => k_is); (case co_World___init__ => k_is); (case km_World___init__ => k_is); (case am_World_acts => k_is); (case im_World_acts => k_is); (case lm_World_acts => k_is); (case co_World_acts => k_is); (case km_World_acts => k_is); (case am_World_arguments => k_is); (case im_World_arguments => k_is); (case lm_World_arguments => k_is); (case co_World_arguments => k_is); (case km_World_arguments => k_is); (case am_World_outcomes => k_is); (case im_World_outcomes => k_is); (case lm_World_outcomes => k_is); (case co_World_outcomes => k_is); (case km_World_outcomes => k_is); (case am_World_brings => k_is); (case im_World_brings => k_is); (case lm_World_brings => k_is); (case co_World_brings => k_is); (case km_World_brings => k_is); (case am_World___eq__ => k_is); (case im_World___eq__ => k_is); (case lm_World___eq__ => k_is); (case co_World___eq__ => k_is); (case km_World___eq__ => k_is); (case g_Code => k_is); (case k_Code => k_is); (case pg_Code => k_is); (case ic_Code => k_is); (case po_Code => k_is); (case sa_Code => k_is); (case mk_Code => k_is); (case ca_Code => k_is); (case cn_Code => k_is); (case ct_Code => k_is); (case cm_Code => k_is); (case df_World_Code => k_is); (case dn_World_Code => decide +kernel); (case ne_Code => k_is); (case tyc_Code => k_is); (case at_Code_its_given => k_is); (case get_Code_its_given => k_is); (case tk_Code_its_given => k_is); (case ty_Code_its_given => k_is); (case ix_Code_its_given => k_is); (case at_Code_its_statements => k_is); (case get_Code_its_statements => k_is); (case tk_Code_its_statements => k_is); (case ty_Code_its_statements => k_is); (case ix_Code_its_statements => k_is); (case at_Code_its_variables => k_is); (case get_Code_its_variables => k_is); (case tk_Code_its_variables => k_is); (case ty_Code_its_variables => k_is); (case ix_Code_its_variables => k_is); (case at_Code_its_world => k_is); (case get_Code_its_world => k_is); (case tk_Code_its_world => k_is); (case ty_Code_its_world => k_is); (case ix_Code_its_world => k_is); (case am_Code___init__ => k_is); (case im_Code___init__ => k_is); (case lm_Code___init__ => k_is); (case co_Code___init__ => k_is); (case km_Code___init__ => k_is); (case pa_Code_world => k_is); (case pg_Code_world => k_is); (case pt_Code_world => k_is); (case pr_Code_world => k_is); (case lm_Code_world => k_is); (case co_Code_world => k_is); (case km_Code_world => k_is); (case pa_Code_variables => k_is); (case pg_Code_variables => k_is); (case pt_Code_variables => k_is); (case pr_Code_variables => k_is); (case lm_Code_variables => k_is); (case co_Code_variables => k_is); (case km_Code_variables => k_is); (case pa_Code_given => k_is); (case pg_Code_given => k_is); (case pt_Code_given => k_is); (case pr_Code_given => k_is); (case lm_Code_given => k_is); (case co_Code_given => k_is); (case km_Code_given => k_is); (case am_Code___len__ => k_is); (case im_Code___len__ => k_is); (case lm_Code___len__ => k_is); (case co_Code___len__ => k_is); (case km_Code___len__ => k_is); (case am_Code_statement => k_is); (case im_Code_statement => k_is); (case lm_Code_statement => k_is); (case co_Code_statement => k_is); (case km_Code_statement => k_is); (case am_Code_statements => k_is); (case im_Code_statements => k_is); (case lm_Code_statements => k_is); (case co_Code_statements => k_is); (case km_Code_statements => k_is); (case am_Code_first => k_is); (case im_Code_first => k_is); (case lm_Code_first => k_is); (case co_Code_first => k_is); (case km_Code_first => k_is); (case am_Code_showing => k_is); (case im_Code_showing => k_is); (case lm_Code_showing => k_is); (case co_Code_showing => k_is); (case km_Code_showing => k_is); (case am_Code_parts => k_is); (case im_Code_parts => k_is); (case lm_Code_parts => k_is); (case co_Code_parts => k_is); (case km_Code_parts => k_is); (case am_Code___eq__ => k_is); (case im_Code___eq__ => k_is); (case lm_Code___eq__ => k_is); (case co_Code___eq__ => k_is); (case km_Code___eq__ => k_is); (case topS_ => rfl); (case sup_ => k_is); (case opq_ => k_is); (case g_MoveError => k_is); (case ex_MoveError => k_is); (case hd_MoveError => k_is); (case ty_MoveError => k_is); (case g_Wrong => k_is); (case ex_Wrong => k_is); (case hd_Wrong => k_is); (case ty_Wrong => k_is); (case cls_Wrong => k_is); (case ve_Wrong => decide +kernel); (case sa_Wrong => k_is); (case no_Wrong => k_is); (case k_Wrong => k_is); (case vs_Wrong => k_is); (case up_Wrong => ks_is); (case self_Wrong => k_is); (case fi_Wrong => k_is); (case tI_Wrong => k_is); (case lI_Wrong => k_is); (case cd_Wrong => k_is); (case ce_Wrong => k_is); (case co_Wrong => k_is); (case cv_Wrong => rfl); (case cf_Wrong => decide +kernel); (case bi_Wrong => exact fun _ _ => rfl); (case ev_Wrong => exact fun _ => ⟨_, rfl⟩); (case g_BadAct => k_is); (case ex_BadAct => k_is); (case hd_BadAct => k_is); (case ty_BadAct => k_is); (case cls_BadAct => k_is); (case ve_BadAct => decide +kernel); (case sa_BadAct => k_is); (case no_BadAct => k_is); (case k_BadAct => k_is); (case vs_BadAct => k_is); (case up_BadAct => ks_is); (case self_BadAct => k_is); (case fi_BadAct => k_is); (case tI_BadAct => k_is); (case lI_BadAct => k_is); (case cd_BadAct => k_is); (case ce_BadAct => k_is); (case co_BadAct => k_is); (case cv_BadAct => rfl); (case cf_BadAct => decide +kernel); (case bi_BadAct => exact fun _ _ => rfl); (case ev_BadAct => exact fun _ => ⟨_, rfl⟩); (case g_BadPlace => k_is); (case ex_BadPlace => k_is); (case hd_BadPlace => k_is); (case ty_BadPlace => k_is); (case cls_BadPlace => k_is); (case ve_BadPlace => decide +kernel); (case sa_BadPlace => k_is); (case no_BadPlace => k_is); (case k_BadPlace => k_is); (case vs_BadPlace => k_is); (case up_BadPlace => ks_is); (case self_BadPlace => k_is); (case fi_BadPlace => k_is); (case tI_BadPlace => k_is); (case lI_BadPlace => k_is); (case cd_BadPlace => k_is); (case ce_BadPlace => k_is); (case co_BadPlace => k_is); (case cv_BadPlace => rfl); (case cf_BadPlace => decide +kernel); (case bi_BadPlace => exact fun _ _ => rfl); (case ev_BadPlace => exact fun _ => ⟨_, rfl⟩); (case g_NoPlace => k_is); (case ex_NoPlace => k_is); (case hd_NoPlace => k_is); (case ty_NoPlace => k_is); (case cls_NoPlace => k_is); (case ve_NoPlace => decide +kernel); (case sa_NoPlace => k_is); (case no_NoPlace => k_is); (case k_NoPlace => k_is); (case vs_NoPlace => k_is); (case up_NoPlace => ks_is); (case self_NoPlace => k_is); (case fi_NoPlace => k_is); (case tI_NoPlace => k_is); (case lI_NoPlace => k_is); (case cd_NoPlace => k_is); (case ce_NoPlace => k_is); (case co_NoPlace => k_is); (case cv_NoPlace => rfl); (case cf_NoPlace => decide +kernel); (case bi_NoPlace => exact fun _ _ => rfl); (case ev_NoPlace => exact fun _ => ⟨_, rfl⟩); (case z0 => k_is); (case z1 => k_is); (case z2 => k_is); (case z3 => k_is); (case z4 => k_is); (case z5 => k_is); (case z6 => k_is); (case z7 => k_is); (case z8 => k_is); (case z9 => k_is); (case z10 => k_is); (case z11 => k_is); (case z12 => k_is); (case z13 => k_is); (case z14 => k_is); (case z15 => k_is); (case z16 => k_is); (case y0 => k_is); (case y1 => k_is); (case y2 => k_is); (case y3 => k_is); (case y4 => k_is); (case y5 => k_is); (case y6 => k_is); (case yl6 => k_is); (case y7 => k_is); (case y8 => k_is); (case xa_NoPlace => k_is); (case xg_NoPlace => k_is); (case xl_NoPlace => k_is); (case xn_NoPlace => k_is); (case xt_NoPlace => k_is); (case xm_NoPlace => k_is); (case sb_NoPlace_MoveError => k_is)
