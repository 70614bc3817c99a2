import PyProof.Rows.All
import Wide.All
import OpenK.AllK
import Wide.FinOn
import HandS.ForMost
import HandS.IsInst
import HandS.TupAny
import HandS.Wide
import HandS.Deep
import HandS.SetKeys
import HandS.Style
import HandS.Conv
import PyProof.ReprRoads
import HandS.SetFor
import HandS.Strs
import HandS.Evl
import HandS.Walk
import HandS.Sort
import HandS.TupLe
import PyProof.NeKinds
import PyProof.EqAt
import PyProof.Draws
import PyProof.EnumMake
import HandS.Slots
import KE.KDictOf
import HandS.More
import HandS.ExcOwn
import HandS.SlotsOwn
import PyProof.InstNe
import OpenK.KOps
import HandS.ClsMeth
import HandS.FStr
import HandS.TupMul
import HandS.Small
import PyProof.ConsumeS
import HandS.ForExc
import HandS.ExcField
import HandS.ExcIs
import KE.KExcSuper
import HandS.ListItems
import KE.KExcIs
import HandS.DictTup
import HandS.SortOrd
import PyProof.Rows.SortKeyStr
import HandS.SortInts
import HandS.SortKw
import KE.KSortKey
import PyProof.Rows.SortStr
import PyProof.TupleOfSeq
import HandS.DictComp
import PySem.Challenge.RW_framemoves_k50_recipes_told
import HandS.WordsExc
import HandS.OwnEq
import KE.KEqDict
set_option Elab.async false
set_option linter.all false
set_option maxRecDepth 100000
set_option maxHeartbeats 8000000
namespace Fm
open PySem PySem.Spec PyProof.Rows L2

/-! built-in names -/
theorem bt_len : bootBuiltins "len" = some (.builtin "len") := by decide +kernel
theorem bt_abs : bootBuiltins "abs" = some (.builtin "abs") := by decide +kernel
theorem bt_isinstance : bootBuiltins "isinstance" = some (.builtin "isinstance") := by decide +kernel
theorem bt_repr : bootBuiltins "repr" = some (.builtin "repr") := by decide +kernel
theorem bt_sum : bootBuiltins "sum" = some (.builtin "sum") := by decide +kernel
theorem bt_sorted : bootBuiltins "sorted" = some (.builtin "sorted") := by decide +kernel
theorem bt_all : bootBuiltins "all" = some (.builtin "all") := by decide +kernel
theorem bt_int : bootBuiltins "int" = some (.type "int") := by decide +kernel
theorem bt_tuple : bootBuiltins "tuple" = some (.type "tuple") := by decide +kernel
theorem bt_list : bootBuiltins "list" = some (.type "list") := by decide +kernel
theorem bt_dict : bootBuiltins "dict" = some (.type "dict") := by decide +kernel
theorem bt_set : bootBuiltins "set" = some (.type "set") := by decide +kernel
theorem bt_str : bootBuiltins "str" = some (.type "str") := by decide +kernel
theorem bt_bool : bootBuiltins "bool" = some (.type "bool") := by decide +kernel

section
variable {X : Cx} {e l : Expr} {pos : Pos}
theorem pe_ty {x : Str} {n : String} (hm : X.mg x = none) (hv : bootBuiltins x = some (.type n)) (hg : Gl X x := by rfl)
    (h1 : x ≠ "__name__" := by decide) (h2 : (x == ("__debug__" : Str)) = false := by decide) : PE X (.Name x pos) (tC (.ty n)) :=
  pe_bltn hg hm hv rfl h1 h2
/-- one of two readings, chosen ahead -/
theorem pe_or2 {t u : TE} (h : PE X e t) (k : PE X e u) : PE X e (fun σ H Q => t σ H Q ∨ u σ H Q) :=
  ⟨fun pins s σ H Q I q => q.elim (h.run pins s σ H Q I) (k.run pins s σ H Q I)⟩
theorem pi_or2 {tg : Expr} {t u : TI} (h : PI X tg e t) (k : PI X tg e u) : PI X tg e (fun σ H R => t σ H R ∨ u σ H R) :=
  ⟨fun pins s σ H R I q => q.elim (h.run pins s σ H R I) (k.run pins s σ H R I)⟩

def iSeq (K : PySem.W.Frag) (tl : TE) : TI := fun σ H R => tl σ H fun x H1 => ∃ a, x = .ref a ∧
  (((∃ xs, SqL K H1 a xs) ∧ R (Itl K a) H1) ∨ ((∃ xs, SqT K H1 a xs) ∧ R (Itt K a) H1))
theorem pi_seq {tg : Expr} {tl : TE} (hl : PE X l tl) : PI X tg l (iSeq X.K tl) := by
  refine ⟨fun pins s σ H R I h => thn (hl.run pins s σ H _ I h) ?_⟩
  rintro v s1 ⟨x, H1, I1, r1, a, rfl, q⟩
  cases r1
  have fp : ∀ b ∈ [s1.heap.objs.size], FpOk X pins H1 b := fun b hb => by
    rw [List.mem_singleton.mp hb]
    exact I1.fpOk (Nat.le_refl _) (I1.hok.fresh (Nat.le_refl _))
  rcases q with ⟨⟨xs, hq⟩, q⟩ | ⟨⟨xs, hq⟩, q⟩
  · obtain ⟨its, rv, p, hz⟩ := I1.list hq
    exact wpAny_pyIter_list p.isList ⟨_, _, _, _, H1, rfl, I1.kept (t' := s1.toks) fun b o e => Heap.get?_push_of_some _ e, turn_list a _,
      ⟨_, Heap.get?_push_size _ rfl, rfl, rfl⟩, fp, q⟩
  · obtain ⟨its, rv, p, hz⟩ := I1.tuple hq
    exact wpAny_pyIter_tuple (show s1.heap.IsTuple a its.toArray from p) ⟨_, _, _, _, H1, rfl, I1.kept (t' := s1.toks) fun b o e => Heap.get?_push_of_some _ e, turn_tuple a _,
      ⟨_, Heap.get?_push_size _ rfl, rfl, rfl⟩, fp, q⟩

/-! operators by what stands there -/
def rAddS : R2 := fun x y H Q => ∃ i j, x = .str i ∧ y = .str j ∧ i.length + j.length ≤ sizeLine ∧ Q (.str (i ++ j)) H
def rAddG (K : PySem.W.Frag) : R2 := fun x y H Q => rI0 (fun i j => .int (i + j)) x y H Q ∨ (rAddS x y H Q ∨ (rCatA K x y H Q ∨ rCat x y H Q))
theorem op_addG : OpR X (binaryOp .Add) (rAddG X.K) := OpR.or op_add (OpR.or op_add_str (OpR.or op_catA op_cat))
def rMulG : R2 := fun x y H Q => rI CMul (fun i j => .int (i * j)) x y H Q ∨ rRep x y H Q
theorem op_mulG : OpR X (binaryOp .Mult) rMulG := OpR.or op_mul op_rep
def rEqG (K : PySem.W.Frag) : R2 := fun x y H Q => rEq x y H Q ∨ rEqD K x y H Q
theorem op_eqG (hu : X.A.units + 64 < cLine) : OpR X (compareOp .Eq) (rEqG X.K) := OpR.or op_eq (op_eqD hu)
def rNeG (K : PySem.W.Frag) : R2 := fun x y H Q => rNe x y H Q ∨ rNeD K x y H Q
theorem op_neG (hu : X.A.units + 64 < cLine) : OpR X (compareOp .NotEq) (rNeG X.K) := OpR.or op_ne (op_neD hu)
def rInSig : R2 := fun x y H Q => ∃ (c : Nat) (z : Str), x = .str ⟨#[c]⟩ ∧ y = .str z ∧ Q (.bl (decide (c ∈ z.cps.toList))) H
def rInG (K : PySem.W.Frag) : R2 := fun x y H Q => rInD K x y H Q ∨ rInSig x y H Q
theorem op_inG (hu : X.A.units + 65 < cLine) : OpR X (compareOp .In) (rInG X.K) := OpR.or (op_inD hu) op_in_sign
def rNotInSig : R2 := fun x y H Q => ∃ (c : Nat) (z : Str), x = .str ⟨#[c]⟩ ∧ y = .str z ∧ Q (.bl (!decide (c ∈ z.cps.toList))) H
def rNotInG (K : PySem.W.Frag) : R2 := fun x y H Q => rNotInD K x y H Q ∨ rNotInSig x y H Q
theorem op_notInG (hu : X.A.units + 65 < cLine) : OpR X (compareOp .NotIn) (rNotInG X.K) := OpR.or (op_notInD hu) op_notIn_sign
/-- len -/
def rLenG (K : PySem.W.Frag) : List V → Hp → VK → Prop := fun xs H Q =>
  (∃ p ys, xs = [.ref p] ∧ (SqL K H p ys ∨ SqT K H p ys) ∧ Q (.int ys.length) H) ∨ ((∃ z : Str, xs = [.str z] ∧ z.length ≤ sizeLine ∧ Q (.int z.length) H) ∨
    (∃ a kvs, xs = [V.ref a] ∧ H a = some (.dK kvs) ∧ Q (.int kvs.length) H))
theorem call_lenG : CallR X (.builtin "len") (rLenG X.K) := CallR.or call_len_seq (CallR.or call_len_str call_lenD)
/-- tuple(x), list(x) -/
def rTupOf (K : PySem.W.Frag) : List V → Hp → VK → Prop := fun xs H Q => ∃ p ys, xs = [.ref p] ∧ ((SqL K H p ys ∧ ∀ l, H l = none → Q (.ref l) (upd H l (.tup ys))) ∨ (SqT K H p ys ∧ Q (.ref p) H))
theorem call_tupG : CallR X (.type "tuple") (rTupOf X.K) := call_tuple_of
def rListOf (K : PySem.W.Frag) : List V → Hp → VK → Prop := fun xs H Q => ∃ p ys, xs = [.ref p] ∧ (SqL K H p ys ∨ SqT K H p ys) ∧ ∀ l, H l = none → Q (.ref l) (upd H l (.lst ys))
theorem call_listG : CallR X (.type "list") (rListOf X.K) := call_list_of
/-- slices -/
def rSlG (K : PySem.W.Frag) : V → Option Int → Option Int → Hp → VK → Prop := fun x lo hi H Q => rSlL K x lo hi H Q ∨ (rSlA K x lo hi H Q ∨ rSlS x lo hi H Q)
theorem sl_G : SlR X (rSlG X.K) := SlR.or sl_list (SlR.or sl_tupA sl_str)
end
end Fm
namespace Fm
open PySem PySem.Spec PyProof.Rows L2
/-! list.extend by a tuple, whatever its own dict and slots -/
theorem ext_tup (l b : Addr) (as bs : Array Value) (n m : Nat) (dd : Option Addr) (sl : Array (Option Value))
    (h0 : ¬(!as.isEmpty && Builtin.List.listTooLong (as.size + bs.size)) = true) (h1 : as.size ≤ sizeLine) (h2 : as.size + bs.size ≤ sizeLine + 1) :
    Meets (Builtin.«list.extend» ⟨[.ref l, .ref b], []⟩) (fun _ R s =>
      s.heap.get? l = some { cls := .type "list", dict := none, data := .seq as n, slots := #[] } ∧
      s.heap.get? b = some { cls := .type "tuple", dict := dd, data := .seq bs m, slots := sl } ∧
      R (.ok (.ret Value.none)) { s with heap := s.heap.update l (Obj.mapSeq fun x => x ++ bs), toks := s.toks }) := by
  refine .of_wp fun prog w A R s h => ?_
  obtain ⟨hp, g, d, tk, os⟩ := s
  obtain ⟨ha, hb, hr⟩ := h
  have q1 := AutoSeq1.idx_int
  have q2 := AutoSeq1.sub_tuple_tuple
  have q3 := AutoSeq1.sub_list_list
  have q4 := AutoSeq1.sub_tuple_list
  have q5 := AutoSeq1.sub_list_tuple
  have hz : (as ++ bs).size ≤ sizeLine + 1 := by
    rw [Array.size_append]
    exact h2
  wp_walk using (wpAny_updateSeq ha rfl (hz := h1) (_hz' := hz)), AutoSeq1.wpAny_loadPart' ha, AutoSeq1.wpAny_loadPart' hb
  exact ⟨_, rfl, hr⟩
section
variable {X : Cx}
def rExtT (K : PySem.W.Frag) : V → List V → Hp → VK → Prop := fun x vs H Q => ∃ l b xs zs, x = .ref l ∧ vs = [.ref b] ∧ H l = some (.lst xs) ∧ SqT K H b zs ∧
  xs.length + zs.length ≤ sizeLine ∧ Q .non (upd H l (.lst (xs ++ zs)))
theorem mt_extT : MtR X "list.extend" (rExtT X.K) := by
  intro pins s σ H x vs v us Q I rx rv h
  obtain ⟨l, b, xs, zs, rfl, rfl, hH, hB, hz, q⟩ := h
  cases rx
  obtain ⟨u, rfl, ru⟩ := rv.one
  cases ru
  obtain ⟨z, its, n, r, hl, e⟩ := I.lstM hH
  obtain ⟨its2, r2, ⟨⟨cls, dd, data, sl⟩, ho, hc, m, hd⟩, hz2⟩ := I.tuple hB
  simp only at hc hd
  subst hc hd
  have e1 := r.length
  have e2 := r2.length
  have hs : its.toArray.size + its2.toArray.size ≤ sizeLine := by
    rw [List.size_toArray, List.size_toArray]
    omega
  have hlong : ¬ (!its.toArray.isEmpty && Builtin.List.listTooLong (its.toArray.size + its2.toArray.size)) = true := by
    rw [notLongL hs, Bool.and_false]
    exact Bool.false_ne_true
  refine call_meets PySem.F.slot_list_extend ⟨_, e, rfl⟩ PySem.F.entry_list_extend (PySem.F.args_list_extend_2 _ _)
    (ext_tup l b its.toArray its2.toArray n m dd sl hlong (by rw [List.size_toArray]; omega) (by omega)) ⟨e, ho, ?_⟩
  refine ⟨.non, _, I.lset (its' := its ++ its2) hH e (by simp) (r.append r2) ?_, rfl, q⟩
  rw [List.length_append]
  omega
def rExtG (K : PySem.W.Frag) : V → List V → Hp → VK → Prop := fun x vs H Q => rExtend x vs H Q ∨ rExtT K x vs H Q
theorem mt_extendG : MtR X "list.extend" (rExtG X.K) := MtR.or mt_extend mt_extT

/-! repr of data, where no repr is under way -/
def rReprG (K : PySem.W.Frag) : List V → Hp → VK → Prop := fun xs H Q => ∃ (x : V) (d : PyData), xs = [x] ∧ Dp K H x d ∧ d.showable = true ∧ d.hasDict = false ∧ d.depth ≤ 60 ∧ d.shown.length ≤ sizeLine ∧ Q (.str d.shown) H
theorem call_reprG (hg : X.A.guards = some []) (hu : X.A.units + 64 < cLine) : CallR X (.builtin "repr") (rReprG X.K) := by
  intro pins s σ H xs us Q I rv h
  obtain ⟨x, d, rfl, hd, hs, hn, hdp, hz, q⟩ := h
  obtain ⟨u, rfl, ru⟩ := rv.one
  obtain ⟨as, R⟩ := Dp.reads I d x u hd ru
  have fin : ∀ h' (t : Tok) tk, (∀ b o, s.heap.get? b = some o → h'.get? b = some o) → EP X pins σ Q (.str d.shown t) { s with heap := h', toks := tk } := fun h' t tk hk =>
    ⟨.str d.shown, H, I.kept (h' := h') (t' := tk) hk, ⟨t, rfl⟩, q⟩
  cases hd with
  | non =>
    cases ru
    exact PySem.P.repr_of_none (fin s.heap _ _ fun _ _ e => e)
  | bl b =>
    cases ru
    exact PySem.P.repr_of_bool (fin s.heap _ _ fun _ _ e => e)
  | int i =>
    obtain ⟨t, rfl⟩ := ru
    exact PySem.P.repr_of_int (by simpa [PyData.showable] using hs) (fin s.heap _ _ fun _ _ e => e)
  | str y =>
    obtain ⟨t, rfl⟩ := ru
    exact PySem.P.repr_of_str (fin s.heap _ _ fun _ _ e => e) hz
  | lst h1 h2 =>
    cases ru
    exact PySem.repr_of_reads' R hs (fun c => by rw [hn] at c; cases c) hg (by omega) (fun _ _ e => e) (fun h' t tk hk => fin h' t tk hk) hz
  | tup h1 h2 =>
    cases ru
    exact PySem.repr_of_reads' R hs (fun c => by rw [hn] at c; cases c) hg (by omega) (fun _ _ e => e) (fun h' t tk hk => fin h' t tk hk) hz
end

/-! defs that may ask for a repr: called where none is under way -/
structure FnOkG (P : Program) (w : World) (K : PySem.W.Frag) (mg : Str → Option Value) (base : Heap) (CX : CXT) (k : Nat) (f : Addr) (fd : FuncData) (ps : List Str) (sp : Sp) : Prop where
  len : ∀ vs H Q E, sp vs H Q E → vs.length = ps.length
  run : ∀ (A : Around) (outer : List Env) (s : Shared) (H : Hp) (args : Args) (us : List Value) (vs : List V) (Q : VK) (E : XK), A.guards = some [] → Room k A →
    Env0 P w K mg base A outer s H → BindsTo s fd args (ps.zip us) → Vals vs us → sp vs H Q E → codeAny (model P w) A (.call (.ref f) args) (CR CX outer P w H s Q E) s
section
variable {P : Program} {w : World} {K : PySem.W.Frag} {mg : Str → Option Value} {base : Heap} {CX : CXT}
theorem FnOkG.mono {j k : Nat} {f : Addr} {fd : FuncData} {ps : List Str} {sp : Sp} (F : FnOkG P w K mg base CX j f fd ps sp) (h : j ≤ k) : FnOkG P w K mg base CX k f fd ps sp :=
  ⟨F.len, fun A outer s H args us vs Q E hg hr => F.run A outer s H args us vs Q E hg (hr.mono h)⟩
theorem guards_deeper (A : Around) (env : Env) (h : A.guards = some []) : (A.deeper env).guards = some [] := by
  first | exact h | simpa [Around.deeper] using h
/-- a def's promise by its body, as Fun.ok says it, with the guards known -/
theorem okG {x qual : Str} {st : Stmt} {f : Addr} {fd : FuncData} {N ps : List Str} {k : Nat} {sp : Sp} (F : Fun K x qual st f fd) (S : FnScope N ps (defScope st))
    (len : ∀ vs H Q E, sp vs H Q E → vs.length = ps.length)
    (body : ∀ (cdv : Value) (A : Around) (outer : List Env) (s : Shared) (H : Hp) (vs : List V) (Q : VK) (E : XK),
      (A.deeper (envOfC qual (defScope st) s.heap.objs.size f cdv)).guards = some [] → Room k (A.deeper (envOfC qual (defScope st) s.heap.objs.size f cdv)) → sp vs H Q E →
      ∃ t, PSs (cxOf CX0 P w K mg base N qual (defScope st) f cdv A outer s H E).nox (defBody st) t ∧ t { nx := fun _ H' => Q .non H', rt := Q } (start N vs) H) :
    FnOkG P w K mg base CX0 (k + 1) f fd ps sp := by
  obtain ⟨oc, od, kV, doc, pm, an, cdv, ct, osl, rfl, lk, hcd⟩ := F.ex
  refine ⟨len, fun A outer s H args us vs Q E hg hr e0 hb rv hsp => ?_⟩
  have KX : K.In s.heap := e0.mod.kin.keeps fun b o e => (e0.bs b o e).1
  have lim : s.heap.NoLimit := e0.mod.nolimit.keeps fun b o e => (e0.bs b o e).1
  refine codeAny_call_function hr.depth (KX _ _ lk) rfl S.co S.gen rfl (PySem.W.codeRec_of KX hcd) (hb _ _ _ _ ?_)
  refine wpAny_newFunctionEnv_cells S.kind (fun y hy => ?_) fun env he s1 ic => ?_
  · rcases S.par y.1 (List.of_mem_zip (show (y.1, y.2) ∈ ps.zip us from hy)).1 with q | q
    · exact .inl q
    · exact .inr ⟨q, PySem.W.cellsFrom_some _ _ _ (.inl q)⟩
  · subst he
    refine ⟨lim.keeps ic.toInCall.keep, codeAny_func ?_⟩
    obtain ⟨t, ht, hq⟩ := body cdv A outer s H vs Q E (guards_deeper A _ hg) (hr.deeper _) hsp
    have I := inv_start (CX := CX0) (N := N) (E := E) S hr.hd e0 (len _ _ _ _ hsp) rv ic
    refine wpAny_mono (ht.nox.run [] s1 (start N vs) H _ I hq) (fun fl s' hs => ?_) fun e s' hs => hs
    cases fl with
    | ret u =>
      obtain ⟨v, σ', H', J, r', q⟩ := hs
      exact ⟨v, H', J.os, J.bare, J.base, J.hok, r', q⟩
    | next =>
      obtain ⟨σ', H', J, q⟩ := hs
      exact ⟨.non, H', J.os, J.bare, J.base, J.hok, rfl, q⟩
    | brk =>
      obtain ⟨_, _, _, q⟩ := hs
      exact q.elim
    | cont =>
      obtain ⟨_, _, _, q⟩ := hs
      exact q.elim
end
section
variable {X : Cx} {CX : CXT} {k : Nat} {f : Addr} {fd : FuncData} {ps : List Str} {sp : Sp} {dvs : List V} {ds : List Value} {E : XK} {x : Str} {p pos : Pos} {e : Expr} {es : List Expr} {t : TA}
theorem pe_callG (F : FnOkG X.prog X.w X.K X.mg X.base CX k f fd ps sp) (hgd : X.A.guards = some []) (hr : Room k X.A) (hg : Gl X x) (hm : X.mg x = some (.ref f))
    (hk : PySem.W.keepIn X.K (.ref f) = true) (hb : Binds X.K fd ps ds) (hd : Vals dvs ds) (hx : Passes CX X E) (ha : PA X (e :: es) t) (hdb : (x == ("__debug__" : Str)) = false := by decide)
    (he : starEach (e :: es) X.env = (false, eval e X.env) :: starEach es X.env := by rfl) (hpl : (backTo pos (starEach es X.env)).any (·.1) = false := by rfl) :
    PE X (.Call (.Name x p) (e :: es) [] pos) (tCall sp dvs E t) := by
  refine ⟨fun pins s σ H Q I h => wpAny_Call_Name_kw (ld_glob I hg hm ?_ hdb)⟩
  refine PySem.W.callWith_K (h₀ := X.base) I.ok.mod.kin hk (thn (ha.run pos pins s σ H _ I h) ?_) he hpl
  rintro us s1 ⟨vs, H1, I1, rv, q⟩
  refine ⟨I1.kIn, ?_⟩
  have r2 := rv.append hd
  have hl : (us ++ ds).length = ps.length := by
    rw [← r2.length]
    exact F.len _ _ _ _ q
  refine wpAny_call (codeAny_mono (F.run X.A X.stack s1 H1 ⟨us, []⟩ _ _ Q E hgd hr I1.env0 (hb s1 us I1.kIn hl) r2 q) fun r s' hq => ?_)
  match r, hq with
  | .error e, hq => exact hx pins σ H1 s1 e s' I1 hq
  | .ok (.ret u), hq => exact I1.after hq
end
end Fm
namespace Fm
open PySem PySem.Spec PyProof.Rows L2

/-! heaps: what a step leaves -/
/-- tuples stay; all else stays but what stands in S -/
structure Mv (S : List Addr) (H H' : Hp) : Prop where
  tk : ∀ a xs, Rd H a (.tup xs) → Rd H' a (.tup xs)
  keep : ∀ a o, a ∉ S → H a = some o → H' a = some o
section
variable {S T : List Addr} {H H1 H2 : Hp} {p : Addr} {o : HO}
theorem Mv.refl : Mv S H H := ⟨fun _ _ h => h, fun _ _ _ h => h⟩
theorem Mv.trans (a : Mv S H H1) (b : Mv S H1 H2) : Mv S H H2 := ⟨fun c xs h => b.tk c xs (a.tk c xs h), fun c u n h => b.keep c u n (a.keep c u n h)⟩
theorem Mv.mono (a : Mv S H H1) (h : ∀ x ∈ S, x ∈ T) : Mv T H H1 := ⟨a.tk, fun c u n e => a.keep c u (fun z => n (h c z)) e⟩
theorem Mv.of_same (h : Same H H1) : Mv S H H1 := ⟨fun a xs r => r.elim (fun r => .inl (h _ _ r)) fun ⟨o, r⟩ => .inr ⟨o, h _ _ r⟩, fun a o _ e => h a o e⟩
theorem same_new (h : H p = none) : Same H (upd H p o) := fun a u e => by
  rw [upd_ne (ne_of_none e h)]
  exact e
theorem Mv.new (h : H p = none) : Mv S H (upd H p o) := .of_same (same_new h)
theorem Mv.free (a : Mv [] H H1) (h : H1 p = none) : H p = none := by
  cases q : H p with
  | none => rfl
  | some u =>
    rw [a.keep p u (List.not_mem_nil) q] at h
    cases h
theorem Mv.same (a : Mv [] H H1) : Same H H1 := fun c u e => a.keep c u List.not_mem_nil e
/-- what H does not know may be written -/
theorem Mv.wr (a : Mv S H H1) (h : H p = none) : Mv S H (upd H1 p o) := by
  refine ⟨fun c xs r => ?_, fun c u n e => ?_⟩
  · have hc : c ≠ p := by
      rintro rfl
      rcases r with r | ⟨u, r⟩ <;> (rw [h] at r; cases r)
    rcases a.tk c xs r with r | ⟨u, r⟩
    · exact .inl (by rw [upd_ne hc]; exact r)
    · exact .inr ⟨u, by rw [upd_ne hc]; exact r⟩
  · rw [upd_ne (ne_of_none e h)]
    exact a.keep c u n e
/-- a list that stands in S may be written -/
theorem Mv.set {xs : List V} (h : H p = some (.lst xs)) (hp : p ∈ S) : Mv S H (upd H p o) := by
  refine ⟨fun c ys r => ?_, fun c u n e => ?_⟩
  · have hc : c ≠ p := by
      rintro rfl
      rcases r with r | ⟨u, r⟩ <;> (rw [h] at r; cases r)
    rcases r with r | ⟨u, r⟩
    · exact .inl (by rw [upd_ne hc]; exact r)
    · exact .inr ⟨u, by rw [upd_ne hc]; exact r⟩
  · have hc : c ≠ p := fun z => n (by rw [z]; exact hp)
    rw [upd_ne hc]
    exact e
theorem Mv.sqT {K : PySem.W.Frag} {a : Addr} {xs : List V} (m : Mv S H H1) (h : SqT K H a xs) : SqT K H1 a xs := h.elim (fun h => .inl (m.tk a xs h)) .inr
end

/-! data without lists and dicts -/
mutual
def imm : PyData → Bool
  | .none | .bool _ | .int _ | .str _ => true
  | .tuple xs => immAll xs
  | .list _ => false
  | .dict _ => false
def immAll : List PyData → Bool
  | [] => true
  | x :: xs => imm x && immAll xs
end
theorem immAll_iff : ∀ {xs : List PyData}, immAll xs = true ↔ ∀ x ∈ xs, imm x = true
  | [] => by simp [immAll]
  | x :: xs => by simp [immAll, immAll_iff]
structure Im (K : PySem.W.Frag) (H : Hp) (v : V) (d : PyData) : Prop where
  dp : Dp K H v d
  im : imm d = true
structure Ims (K : PySem.W.Frag) (H : Hp) (vs : List V) (ds : List PyData) : Prop where
  dp : DpAll K H vs ds
  im : immAll ds = true
section
variable {K : PySem.W.Frag} {S : List Addr} {H H' : Hp}
mutual
theorem dp_mv (m : Mv S H H') : ∀ (d : PyData) (v : V), imm d = true → Dp K H v d → Dp K H' v d
  | .none, _, _, h => by cases h; exact .non
  | .bool b, _, _, h => by cases h; exact .bl b
  | .int i, _, _, h => by cases h; exact .int i
  | .str x, _, _, h => by cases h; exact .str x
  | .tuple ds, _, i, h => by
    cases h with
    | tup hs ha => exact .tup (m.sqT hs) (dps_mv m ds _ (by simpa [imm] using i) ha)
  | .list ds, _, i, _ => by simp [imm] at i
  | .dict _, _, _, h => by cases h
theorem dps_mv (m : Mv S H H') : ∀ (ds : List PyData) (vs : List V), immAll ds = true → DpAll K H vs ds → DpAll K H' vs ds
  | [], _, _, h => by cases h; exact .nil
  | d :: ds, _, i, h => by
    cases h with
    | cons h1 h2 =>
      have i' : imm d = true ∧ immAll ds = true := by simpa [immAll] using i
      exact .cons (dp_mv m d _ i'.1 h1) (dps_mv m ds _ i'.2 h2)
end
theorem Im.mv {v : V} {d : PyData} (h : Im K H v d) (m : Mv S H H') : Im K H' v d := ⟨dp_mv m d v h.im h.dp, h.im⟩
theorem Ims.mv {vs : List V} {ds : List PyData} (h : Ims K H vs ds) (m : Mv S H H') : Ims K H' vs ds := ⟨dps_mv m ds vs h.im h.dp, h.im⟩
theorem Ims.nil : Ims K H [] [] := ⟨.nil, rfl⟩
theorem Ims.cons {v : V} {vs : List V} {d : PyData} {ds : List PyData} (h : Im K H v d) (k : Ims K H vs ds) : Ims K H (v :: vs) (d :: ds) := ⟨.cons h.dp k.dp, by simp [immAll, h.im, k.im]⟩
theorem Ims.inv {v : V} {vs : List V} {ds : List PyData} (h : Ims K H (v :: vs) ds) : ∃ d ds', ds = d :: ds' ∧ Im K H v d ∧ Ims K H vs ds' := by
  obtain ⟨h, i⟩ := h
  cases h with
  | cons h1 h2 =>
    simp only [immAll, Bool.and_eq_true] at i
    exact ⟨_, _, rfl, ⟨h1, i.1⟩, h2, i.2⟩
theorem Ims.invD {vs : List V} {d : PyData} {ds : List PyData} (h : Ims K H vs (d :: ds)) : ∃ v vs', vs = v :: vs' ∧ Im K H v d ∧ Ims K H vs' ds := by
  obtain ⟨h, i⟩ := h
  cases h with
  | cons h1 h2 =>
    simp only [immAll, Bool.and_eq_true] at i
    exact ⟨_, _, rfl, ⟨h1, i.1⟩, h2, i.2⟩
theorem Ims.nilV {ds : List PyData} (h : Ims K H [] ds) : ds = [] := by
  obtain ⟨h, i⟩ := h
  cases h
  rfl
theorem Ims.nilD {vs : List V} (h : Ims K H vs []) : vs = [] := by
  obtain ⟨h, i⟩ := h
  cases h
  rfl
theorem Ims.length : ∀ {ds : List PyData} {vs : List V}, Ims K H vs ds → vs.length = ds.length
  | [], _, h => by rw [h.nilD]; rfl
  | d :: ds, _, h => by
    obtain ⟨v, vs', rfl, _, k⟩ := h.invD
    simp [k.length]
theorem Ims.append : ∀ {ds es : List PyData} {vs us : List V}, Ims K H vs ds → Ims K H us es → Ims K H (vs ++ us) (ds ++ es)
  | [], _, _, _, h, k => by rw [h.nilD]; exact k
  | d :: ds, _, _, _, h, k => by
    obtain ⟨v, vs', rfl, h1, h2⟩ := h.invD
    exact .cons h1 (h2.append k)
theorem Ims.get : ∀ {ds : List PyData} {vs : List V} {i : Nat} {v : V}, Ims K H vs ds → vs[i]? = some v → ∃ d, ds[i]? = some d ∧ Im K H v d
  | [], _, _, _, h, e => by rw [h.nilD] at e; simp at e
  | d :: ds, _, 0, _, h, e => by
    obtain ⟨v, vs', rfl, h1, h2⟩ := h.invD
    simp at e
    subst e
    exact ⟨d, rfl, h1⟩
  | d :: ds, _, i + 1, _, h, e => by
    obtain ⟨v, vs', rfl, h1, h2⟩ := h.invD
    exact h2.get (i := i) (by simpa using e)
theorem Ims.getD : ∀ {ds : List PyData} {vs : List V} {i : Nat} {d : PyData}, Ims K H vs ds → ds[i]? = some d → ∃ v, vs[i]? = some v ∧ Im K H v d
  | [], _, _, _, h, e => by simp at e
  | d :: ds, _, 0, _, h, e => by
    obtain ⟨v, vs', rfl, h1, h2⟩ := h.invD
    simp at e
    subst e
    exact ⟨v, rfl, h1⟩
  | d :: ds, _, i + 1, _, h, e => by
    obtain ⟨v, vs', rfl, h1, h2⟩ := h.invD
    exact h2.getD (i := i) (by simpa using e)
theorem Im.tupI {v : V} {ds : List PyData} (h : Im K H v (.tuple ds)) : ∃ a xs, v = .ref a ∧ SqT K H a xs ∧ Ims K H xs ds := by
  obtain ⟨h, i⟩ := h
  cases h with
  | tup hs ha => exact ⟨_, _, rfl, hs, ha, by simpa [imm] using i⟩
theorem Im.tup {a : Addr} {xs : List V} {ds : List PyData} (h : SqT K H a xs) (k : Ims K H xs ds) : Im K H (.ref a) (.tuple ds) := ⟨.tup h k.dp, by simpa [imm] using k.im⟩
theorem Im.int (i : Int) : Im K H (.int i) (.int i) := ⟨.int i, rfl⟩
theorem Im.str (x : Str) : Im K H (.str x) (.str x) := ⟨.str x, rfl⟩
theorem Im.bl (b : Bool) : Im K H (.bl b) (.bool b) := ⟨.bl b, rfl⟩
theorem Im.non : Im K H .non .none := ⟨.non, rfl⟩
theorem Im.intI {v : V} {i : Int} (h : Im K H v (.int i)) : v = .int i := by
  obtain ⟨h, _⟩ := h
  cases h
  rfl
theorem Im.strI {v : V} {x : Str} (h : Im K H v (.str x)) : v = .str x := by
  obtain ⟨h, _⟩ := h
  cases h
  rfl
end

/-! the bag of draws -/
def BagC (H : Hp) (b c : Addr) : Prop := ∃ (s m k : Int) (ns : List Int), H b = some (.lst [.int s, .int m, .int k, .ref c]) ∧ H c = some (.lst (ns.map V.int)) ∧ ns.length ≤ 63 ∧
  (∀ n ∈ ns, 0 ≤ n) ∧ 0 ≤ s ∧ 0 ≤ k ∧ 0 ≤ m
def Bag (H : Hp) (b : Addr) : Prop := ∃ c, BagC H b c
theorem BagC.lst {H : Hp} {b c : Addr} (h : BagC H b c) : ∃ xs, H b = some (.lst xs) := by
  obtain ⟨s, m, k, ns, h, _⟩ := h
  exact ⟨_, h⟩
theorem Bag.lst {H : Hp} {b : Addr} (h : Bag H b) : ∃ xs, H b = some (.lst xs) := h.elim fun _ h => h.lst
theorem Bag.ne {H : Hp} {b c : Addr} {xs : List V} {ns : List Int} (h : H b = some (.lst (xs ++ [.ref c]))) (k : H c = some (.lst (ns.map V.int))) : c ≠ b := by
  rintro rfl
  rw [h] at k
  have e : xs ++ [V.ref c] = ns.map V.int := by
    have := Option.some.inj k
    injection this
  have : V.ref c ∈ ns.map V.int := by
    rw [← e]
    simp
  obtain ⟨n, _, q⟩ := List.mem_map.mp this
  cases q
theorem BagC.mv {H H' : Hp} {b c : Addr} (h : BagC H b c) (m : Mv [] H H') : BagC H' b c := by
  obtain ⟨s, m', k, ns, h1, h2, r⟩ := h
  exact ⟨s, m', k, ns, m.same _ _ h1, m.same _ _ h2, r⟩
theorem Bag.mv {H H' : Hp} {b : Addr} (h : Bag H b) (m : Mv [] H H') : Bag H' b := h.elim fun c h => ⟨c, h.mv m⟩
/-- a step that may draw from the bag -/
structure Dr (b : Addr) (H H' : Hp) : Prop where
  mv : Mv [b] H H'
  bagC : ∀ c, BagC H b c → BagC H' b c
section
variable {b p : Addr} {H H' H1 H2 : Hp} {o : HO}
theorem Dr.bag (x : Dr b H H') (h : Bag H b) : Bag H' b := h.elim fun c h => ⟨c, x.bagC c h⟩
theorem Dr.refl : Dr b H H := ⟨.refl, fun _ h => h⟩
theorem Dr.trans (x : Dr b H H1) (y : Dr b H1 H2) : Dr b H H2 := ⟨x.mv.trans y.mv, fun c h => y.bagC c (x.bagC c h)⟩
theorem Dr.of (x : Mv [] H H1) : Dr b H H1 := ⟨x.mono (by simp), fun _ h => h.mv x⟩
theorem Dr.new (h : H p = none) : Dr b H (upd H p o) := .of (.new h)
theorem Dr.free (d : Dr b H H') (hB : Bag H b) (h : H' p = none) : H p = none := by
  cases q : H p with
  | none => rfl
  | some u =>
    by_cases e : p = b
    · subst e
      obtain ⟨xs, hx⟩ := (d.bag hB).lst
      rw [hx] at h
      cases h
    · rw [d.mv.keep p u (by simpa using e) q] at h
      cases h
theorem Dr.get (d : Dr b H H') (hp : p ≠ b) (h : H p = some o) : H' p = some o := d.mv.keep p o (by simpa using hp) h
theorem Dr.wr (d : Dr b H H') (hp : H p = none) : Dr b H (upd H' p o) := by
  refine ⟨d.mv.wr hp, fun c hB => ?_⟩
  obtain ⟨s', m', k', ns', h1', h2', r'⟩ := d.bagC c hB
  obtain ⟨s, m, k, ns, h1, h2, r⟩ := hB
  exact ⟨s', m', k', ns', by rw [upd_ne (ne_of_none h1 hp)]; exact h1', by rw [upd_ne (ne_of_none h2 hp)]; exact h2', r'⟩
theorem Dr.mkc {c : Addr} (m : Mv [b] H H') (h : BagC H b c) (h' : BagC H' b c) : Dr b H H' := ⟨m, fun d k => by
  obtain ⟨_, _, _, _, h1, _⟩ := h
  obtain ⟨_, _, _, _, k1, _⟩ := k
  rw [h1] at k1
  have e := Option.some.inj k1
  injection e with e
  injection e with _ e
  injection e with _ e
  injection e with _ e
  injection e with e _
  injection e with e
  rw [← e]
  exact h'⟩
theorem Bag.fneq (h : Bag H b) (hp : H p = none) : p ≠ b := by
  rintro rfl
  obtain ⟨xs, e⟩ := h.lst
  rw [e] at hp
  cases hp
end

/-! items of a list, by values -/
section
variable {X : Cx}
def rGetL (K : PySem.W.Frag) : V → V → Hp → VK → Prop := fun o i H Q => ∃ (p : Addr) (xs : List V) (j : Nat) (v : V), o = .ref p ∧ i = .int (j : Nat) ∧ SqL K H p xs ∧ xs[j]? = some v ∧ Q v H
theorem get_G : PGet X (rGetL X.K) := by
  intro pins s σ H o i ov iv Q I ro ri h
  obtain ⟨p, xs, j, v, rfl, rfl, hq, he, q⟩ := h
  cases ro
  obtain ⟨t, rfl⟩ := ri
  obtain ⟨its, r, pl, hz⟩ := I.list hq
  obtain ⟨w, ew, rw'⟩ := r.get he
  have hl := r.length
  have hn := line63
  have hj : j < its.length := (List.getElem?_eq_some_iff.mp ew).1
  exact wpAny_getItem_list pl.isList (by omega) (by omega) (by simpa using ew) ⟨v, H, I, rw', q⟩
end
end Fm
namespace Fm
open PySem PySem.Spec PyProof.Rows L2
/-- small letters, one to eight -/
def Nm (x : Str) : Prop := 1 ≤ x.length ∧ x.length ≤ 8 ∧ ∀ c ∈ x.cps.toList, 97 ≤ c ∧ c ≤ 122
instance (x : Str) : Decidable (Nm x) := by unfold Nm; infer_instance
/-! terms -/
inductive Tm where
  | var (i : Int)
  | op (x : Str) (ts : List Tm)
namespace Tm
mutual
def d : Tm → PyData
  | .var i => .int i
  | .op x ts => .tuple (.str x :: ds ts)
def ds : List Tm → List PyData
  | [] => []
  | t :: ts => d t :: ds ts
end
theorem ds_map : ∀ ts : List Tm, ds ts = ts.map d
  | [] => by simp [ds]
  | t :: ts => by simp [ds, ds_map ts]
mutual
def dep : Tm → Nat
  | .var _ => 0
  | .op _ ts => deps ts + 1
def deps : List Tm → Nat
  | [] => 0
  | t :: ts => max (dep t) (deps ts)
end
mutual
/-- how many unknowns stand there -/
def lv : Tm → Nat
  | .var _ => 1
  | .op _ ts => lvs ts
def lvs : List Tm → Nat
  | [] => 0
  | t :: ts => lv t + lvs ts
end
mutual
/-- the unknowns from left to right -/
def leaves : Tm → List Int
  | .var i => [i]
  | .op _ ts => leavesL ts
def leavesL : List Tm → List Int
  | [] => []
  | t :: ts => leaves t ++ leavesL ts
end
mutual
/-- how many operations -/
def size : Tm → Nat
  | .var _ => 0
  | .op _ ts => sizes ts + 1
def sizes : List Tm → Nat
  | [] => 0
  | t :: ts => size t + sizes ts
end
mutual
def put (f : Int → Tm) : Tm → Tm
  | .var i => f i
  | .op x ts => .op x (puts f ts)
def puts (f : Int → Tm) : List Tm → List Tm
  | [] => []
  | t :: ts => put f t :: puts f ts
end
mutual
/-- names are names, at most three parts, the unknowns keep P -/
def ok (P : Int → Prop) : Tm → Prop
  | .var i => P i
  | .op x ts => Nm x ∧ ts.length ≤ 3 ∧ oks P ts
def oks (P : Int → Prop) : List Tm → Prop
  | [] => True
  | t :: ts => ok P t ∧ oks P ts
end
theorem puts_map (f : Int → Tm) : ∀ ts : List Tm, puts f ts = ts.map (put f)
  | [] => by simp [puts]
  | t :: ts => by simp [puts, puts_map f ts]
theorem oks_iff {P : Int → Prop} : ∀ {ts : List Tm}, oks P ts ↔ ∀ t ∈ ts, ok P t
  | [] => by simp [oks]
  | t :: ts => by simp [oks, oks_iff]
theorem deps_le {n : Nat} : ∀ {ts : List Tm}, deps ts ≤ n ↔ ∀ t ∈ ts, dep t ≤ n
  | [] => by simp [deps]
  | t :: ts => by
    have := deps_le (n := n) (ts := ts)
    simp only [deps, List.mem_cons, forall_eq_or_imp, ← this]
    omega
theorem leavesL_append : ∀ ts us : List Tm, leavesL (ts ++ us) = leavesL ts ++ leavesL us
  | [], _ => by simp [leavesL]
  | t :: ts, us => by simp [leavesL, leavesL_append ts us]
theorem sizes_append : ∀ ts us : List Tm, sizes (ts ++ us) = sizes ts + sizes us
  | [], _ => by simp [sizes]
  | t :: ts, us => by
    simp only [List.cons_append, sizes, sizes_append ts us]
    omega
theorem lvs_append : ∀ ts us : List Tm, lvs (ts ++ us) = lvs ts + lvs us
  | [], _ => by simp [lvs]
  | t :: ts, us => by
    simp only [List.cons_append, lvs, lvs_append ts us]
    omega
mutual
theorem leaves_len : ∀ t : Tm, (leaves t).length = lv t
  | .var _ => by simp [leaves, lv]
  | .op _ ts => by simp [leaves, lv, leavesL_len ts]
theorem leavesL_len : ∀ ts : List Tm, (leavesL ts).length = lvs ts
  | [] => by simp [leavesL, lvs]
  | t :: ts => by simp [leavesL, lvs, leaves_len t, leavesL_len ts]
end
mutual
theorem ok_leaves {P : Int → Prop} : ∀ t : Tm, ok P t → ∀ i ∈ leaves t, P i
  | .var j, h, i, hi => by
    simp only [leaves, List.mem_singleton] at hi
    rw [hi]
    exact h
  | .op _ ts, h, i, hi => oks_leaves ts h.2.2 i (by simpa [leaves] using hi)
theorem oks_leaves {P : Int → Prop} : ∀ ts : List Tm, oks P ts → ∀ i ∈ leavesL ts, P i
  | [], _, i, hi => by simp [leavesL] at hi
  | t :: ts, h, i, hi => by
    rcases List.mem_append.mp (show i ∈ leaves t ++ leavesL ts by simpa [leavesL] using hi) with hi | hi
    · exact ok_leaves t h.1 i hi
    · exact oks_leaves ts h.2 i hi
end
mutual
theorem ok_mono {P R : Int → Prop} (h : ∀ i, P i → R i) : ∀ t : Tm, ok P t → ok R t
  | .var i, k => h i k
  | .op _ ts, k => ⟨k.1, k.2.1, oks_mono h ts k.2.2⟩
theorem oks_mono {P R : Int → Prop} (h : ∀ i, P i → R i) : ∀ ts : List Tm, oks P ts → oks R ts
  | [], _ => trivial
  | t :: ts, k => ⟨ok_mono h t k.1, oks_mono h ts k.2⟩
end
mutual
theorem ok_put {P R : Int → Prop} {f : Int → Tm} (h : ∀ i, P i → ok R (f i)) : ∀ t : Tm, ok P t → ok R (put f t)
  | .var i, k => h i k
  | .op _ ts, k => by
    refine ⟨k.1, ?_, oks_puts h ts k.2.2⟩
    rw [puts_map, List.length_map]
    exact k.2.1
theorem oks_puts {P R : Int → Prop} {f : Int → Tm} (h : ∀ i, P i → ok R (f i)) : ∀ ts : List Tm, oks P ts → oks R (puts f ts)
  | [], _ => trivial
  | t :: ts, k => ⟨ok_put h t k.1, oks_puts h ts k.2⟩
end
mutual
theorem dep_put {P : Int → Prop} {f : Int → Tm} {n : Nat} (h : ∀ i, P i → dep (f i) ≤ n) : ∀ t : Tm, ok P t → dep (put f t) ≤ dep t + n
  | .var i, k => by simpa [put, dep] using h i k
  | .op _ ts, k => by
    have := deps_puts h ts k.2.2
    simp only [put, dep]
    omega
theorem deps_puts {P : Int → Prop} {f : Int → Tm} {n : Nat} (h : ∀ i, P i → dep (f i) ≤ n) : ∀ ts : List Tm, oks P ts → deps (puts f ts) ≤ deps ts + n
  | [], _ => by simp [puts, deps]
  | t :: ts, k => by
    have h1 := dep_put h t k.1
    have h2 := deps_puts h ts k.2
    simp only [puts, deps]
    omega
end
mutual
/-- what a term's text may come to, without its unknowns' figures -/
def cst : Tm → Nat
  | .var _ => 0
  | .op _ ts => csts ts + 90
def csts : List Tm → Nat
  | [] => 0
  | t :: ts => cst t + 2 + csts ts
end
mutual
theorem cst_put {P : Int → Prop} {f : Int → Tm} {c : Nat} (h : ∀ i, P i → cst (f i) ≤ c) : ∀ t : Tm, ok P t → cst (put f t) ≤ cst t + lv t * c
  | .var i, k => by simpa [put, cst, lv] using h i k
  | .op _ ts, k => by
    have := csts_puts h ts k.2.2
    simp only [put, cst, lv]
    omega
theorem csts_puts {P : Int → Prop} {f : Int → Tm} {c : Nat} (h : ∀ i, P i → cst (f i) ≤ c) : ∀ ts : List Tm, oks P ts → csts (puts f ts) ≤ csts ts + lvs ts * c
  | [], _ => by simp [puts, csts]
  | t :: ts, k => by
    have h1 := cst_put h t k.1
    have h2 := csts_puts h ts k.2
    simp only [puts, csts, lvs, Nat.add_mul]
    omega
end
mutual
theorem lv_put {P : Int → Prop} {f : Int → Tm} {c : Nat} (h : ∀ i, P i → lv (f i) ≤ c) : ∀ t : Tm, ok P t → lv (put f t) ≤ lv t * c
  | .var i, k => by simpa [put, lv] using h i k
  | .op _ ts, k => by simpa [put, lv] using lvs_puts h ts k.2.2
theorem lvs_puts {P : Int → Prop} {f : Int → Tm} {c : Nat} (h : ∀ i, P i → lv (f i) ≤ c) : ∀ ts : List Tm, oks P ts → lvs (puts f ts) ≤ lvs ts * c
  | [], _ => by simp [puts, lvs]
  | t :: ts, k => by
    have h1 := lv_put h t k.1
    have h2 := lvs_puts h ts k.2
    simp only [puts, lvs, Nat.add_mul]
    omega
end
mutual
theorem put_congr {f g : Int → Tm} : ∀ t : Tm, (∀ i ∈ leaves t, f i = g i) → put f t = put g t
  | .var i, h => h i (by simp [leaves])
  | .op x ts, h => by
    show Tm.op x (puts f ts) = .op x (puts g ts)
    rw [puts_congr ts fun i hi => h i (by simpa [leaves] using hi)]
theorem puts_congr {f g : Int → Tm} : ∀ ts : List Tm, (∀ i ∈ leavesL ts, f i = g i) → puts f ts = puts g ts
  | [], _ => rfl
  | t :: ts, h => by
    show put f t :: puts f ts = put g t :: puts g ts
    rw [put_congr t fun i hi => h i (by simp [leavesL, hi]), puts_congr ts fun i hi => h i (by simp [leavesL, hi])]
end
/-- trees of bounded depth are small -/
theorem small {P : Int → Prop} : ∀ (n : Nat) (t : Tm), ok P t → dep t ≤ n → lv t ≤ 3 ^ n ∧ cst t + 48 ≤ 48 * 3 ^ n
  | 0, .var i, _, _ => by simp [lv, cst]
  | 0, .op x ts, _, h => by simp [dep] at h
  | n + 1, .var i, _, _ => by
    have := Nat.one_le_pow (n + 1) 3 (by decide)
    simp only [lv, cst]
    omega
  | n + 1, .op x ts, k, h => by
    have hd : ∀ t ∈ ts, dep t ≤ n := deps_le.mp (by simp only [dep] at h; omega)
    have ho := oks_iff.mp k.2.2
    have hl := k.2.1
    have ih : ∀ t ∈ ts, lv t ≤ 3 ^ n ∧ cst t + 48 ≤ 48 * 3 ^ n := fun t ht => small n t (ho t ht) (hd t ht)
    have h1 := Nat.one_le_pow n 3 (by decide)
    rw [Nat.pow_succ]
    simp only [lv, cst]
    match ts, hl, ih with
    | [], _, _ => simp only [lvs, csts]; omega
    | [a], _, ih =>
      have := ih a (by simp)
      simp only [lvs, csts]; omega
    | [a, b], _, ih =>
      have := ih a (by simp)
      have := ih b (by simp)
      simp only [lvs, csts]; omega
    | [a, b, c], _, ih =>
      have := ih a (by simp)
      have := ih b (by simp)
      have := ih c (by simp)
      simp only [lvs, csts]; omega
end Tm
mutual
theorem imm_d : ∀ t : Tm, imm t.d = true
  | .var _ => by simp [Tm.d, imm]
  | .op _ ts => by simp [Tm.d, imm, immAll, imm_ds ts]
theorem imm_ds : ∀ ts : List Tm, immAll (Tm.ds ts) = true
  | [] => by simp [Tm.ds, immAll]
  | t :: ts => by simp [Tm.ds, immAll, imm_d t, imm_ds ts]
end
end Fm
namespace Fm
open PySem PySem.Spec PyProof.Rows L2
/-! what is worth a value, the heap as it is -/
structure TV (t : TE) (σ : L2.St) (H : Hp) (v : V) : Prop where
  go : ∀ Q : VK, Q v H → t σ H Q
structure TB (t : TT) (σ : L2.St) (H : Hp) (b : Bool) : Prop where
  go : ∀ Q : Bool → Hp → Prop, Q b H → t σ H Q
theorem vint_eq {i j : Int} : decide (V.int i = V.int j) = decide (i = j) := by
  by_cases e : i = j
  · rw [e, decide_eq_true rfl, decide_eq_true rfl]
  · rw [decide_eq_false e, decide_eq_false fun z => e (V.int.inj z)]
section
variable {K : PySem.W.Frag} {σ : L2.St} {H : Hp} {ta tb : TE} {t u : TT} {a b : Bool} {i j : Int} {x y v : V} {Q : VK}
theorem tv_var {m : Nat} (h : σ[m]? = some (some v)) : TV (tVar m) σ H v := ⟨fun Q q => ⟨v, h, q⟩⟩
theorem tv_c : TV (tC v) σ H v := ⟨fun Q q => q⟩
theorem tv_I {g : Int → Int → V} (ha : TV ta σ H (.int i)) (hb : TV tb σ H (.int j)) : TV (tOp (rI0 g) ta tb) σ H (g i j) := ⟨fun Q q => ha.go _ (hb.go _ ⟨i, j, rfl, rfl, q⟩)⟩
theorem tv_eq (ha : TV ta σ H x) (hb : TV tb σ H y) (hs : scal x y = true) : TV (tOp (rEqG K) ta tb) σ H (.bl (decide (x = y))) := ⟨fun Q q => ha.go _ (hb.go _ (Or.inl ⟨hs, q⟩))⟩
theorem tv_ne (ha : TV ta σ H x) (hb : TV tb σ H y) (hs : scal x y = true) : TV (tOp (rNeG K) ta tb) σ H (.bl (!decide (x = y))) := ⟨fun Q q => ha.go _ (hb.go _ (Or.inl ⟨hs, q⟩))⟩
theorem tv_eqI (ha : TV ta σ H (.int i)) (hb : TV tb σ H (.int j)) : TV (tOp (rEqG K) ta tb) σ H (.bl (decide (i = j))) := by
  rw [← vint_eq]
  exact tv_eq ha hb rfl
theorem tv_neI (ha : TV ta σ H (.int i)) (hb : TV tb σ H (.int j)) : TV (tOp (rNeG K) ta tb) σ H (.bl (!decide (i = j))) := by
  rw [← vint_eq]
  exact tv_ne ha hb rfl
theorem tb_test (h : TV ta σ H (.bl a)) : TB (tTest ta) σ H a := ⟨fun Q q => h.go _ ⟨a, rfl, q⟩⟩
theorem tb_B (h : TV ta σ H (.bl a)) : TB (tB ta) σ H a := ⟨fun Q q => h.go _ ⟨a, rfl, q⟩⟩
theorem tb_and (h : TB t σ H a) (k : TB u σ H b) : TB (tAnd t u) σ H (a && b) := ⟨fun Q q => h.go _ (by
  cases a with
  | true => exact k.go _ q
  | false => exact q)⟩
theorem tb_or (h : TB t σ H a) (k : TB u σ H b) : TB (tOr t u) σ H (a || b) := ⟨fun Q q => h.go _ (by
  cases a with
  | true => exact q
  | false => exact k.go _ q)⟩
theorem tb_not (h : TB t σ H a) : TB (tNot t) σ H (!a) := ⟨fun Q q => h.go _ q⟩
theorem tv_is {w : V} (h : TV ta σ H v) (e : v = w) : TV ta σ H w := by rw [← e]; exact h
theorem st_if {c : TT} {t u : TS} {D : Ends} (h : TB c σ H b) (h1 : b = true → t D σ H) (h2 : b = false → u D σ H) : tIfS c t u D σ H := h.go _ (by
  cases b with
  | true => exact h1 rfl
  | false => exact h2 rfl)
theorem te_if {c : TT} (h : TB c σ H b) (h1 : b = true → ta σ H Q) (h2 : b = false → tb σ H Q) : tIf c ta tb σ H Q := h.go _ (by
  cases b with
  | true => exact h1 rfl
  | false => exact h2 rfl)
/-- isinstance(x, int) of data -/
def isInt : PyData → Bool
  | .int _ => true
  | .bool _ => true
  | _ => false
theorem tyx_dp {d : PyData} (h : Dp K H v d) (hd : imm d = true) : ∃ t : String, TyX K H v (.type t) ∧ (t = "int" ∧ (∃ i, d = .int i) ∨ t = "bool" ∧ (∃ b, d = .bool b) ∨ t = "str" ∧ (∃ x, d = .str x) ∨ t = "NoneType" ∧ d = .none ∨ t = "tuple" ∧ (∃ ds, d = .tuple ds)) := by
  cases h with
  | non => exact ⟨_, .base .non, .inr (.inr (.inr (.inl ⟨rfl, rfl⟩)))⟩
  | bl b => exact ⟨_, .base (.bl b), .inr (.inl ⟨rfl, b, rfl⟩)⟩
  | int i => exact ⟨_, .base (.int i), .inl ⟨rfl, i, rfl⟩⟩
  | str x => exact ⟨_, .base (.str x), .inr (.inr (.inl ⟨rfl, x, rfl⟩))⟩
  | lst h1 h2 => simp [imm] at hd
  | tup h1 h2 =>
    refine ⟨"tuple", ?_, .inr (.inr (.inr (.inr ⟨rfl, _, rfl⟩)))⟩
    rcases h1 with (h1 | ⟨o, h1⟩) | ⟨o, its, n, hk, hc, _⟩
    · exact .base (.tup h1)
    · exact .fTuple h1
    · exact .kTuple hk hc
theorem kit_i1 : kitB "int" "int" = some true := by decide +kernel
theorem kit_i2 : kitB "bool" "int" = some true := by decide +kernel
theorem kit_i3 : kitB "str" "int" = some false := by decide +kernel
theorem kit_i4 : kitB "NoneType" "int" = some false := by decide +kernel
theorem kit_i5 : kitB "tuple" "int" = some false := by decide +kernel
theorem rd_isInt {d : PyData} (h : Im K H v d) (q : Q (.bl (isInt d)) H) : rIsi K [v, .ty "int"] H Q := by
  obtain ⟨t, ht, k⟩ := tyx_dp h.dp h.im
  refine ⟨v, .ty "int", _, _, isInt d, rfl, .ty "int", ht, ?_, q⟩
  rcases k with ⟨rfl, i, rfl⟩ | ⟨rfl, i, rfl⟩ | ⟨rfl, i, rfl⟩ | ⟨rfl, rfl⟩ | ⟨rfl, i, rfl⟩
  · exact kit_ty kit_i1
  · exact kit_ty kit_i2
  · exact kit_ty kit_i3
  · exact kit_ty kit_i4
  · exact kit_ty kit_i5
/-- t + u of tuples -/
theorem rd_cat {a b : Addr} {xs ys : List V} (ha : SqT K H a xs) (hb : SqT K H b ys) (hs : xs.length + ys.length ≤ sizeLine)
    (h : ∀ p H', Mv [] H H' → SqT K H' p (xs ++ ys) → Q (.ref p) H') : rAddG K (.ref a) (.ref b) H Q := by
  refine Or.inr (Or.inr (Or.inl ⟨a, b, xs, ys, rfl, rfl, ha, hb, hs, fun e => ?_, fun _ e => ?_, fun _ _ p np => ?_⟩))
  · subst e
    exact h b H .refl hb
  · subst e
    exact h a H .refl (by rw [List.append_nil]; exact ha)
  · exact h p _ (.new np) (.inl (.inl upd_same))
/-- list + list -/
theorem rd_catL {a b : Addr} {xs ys : List V} (ha : H a = some (.lst xs)) (hb : H b = some (.lst ys)) (hs : xs.length + ys.length ≤ sizeLine)
    (h : ∀ p H', H p = none → Mv [] H H' → H' p = some (.lst (xs ++ ys)) → Q (.ref p) H') : rAddG K (.ref a) (.ref b) H Q :=
  Or.inr (Or.inr (Or.inr ⟨a, b, xs, ys, rfl, rfl, ha, hb, hs, fun p np => h p _ np (.new np) upd_same⟩))
/-- an item of a list -/
theorem rd_ixL {a : Addr} {xs : List V} {i : Int} {v : V} (ha : SqL K H a xs) (h0 : 0 ≤ i) (hv : xs[i.toNat]? = some v) (h : Q v H) : rIx K (.ref a) (.int i) H Q := by
  obtain ⟨j, rfl⟩ := Int.eq_ofNat_of_zero_le h0
  exact Or.inl ⟨a, xs, j, v, rfl, rfl, ha, atI_nat hv, h⟩
theorem rd_ixT {a : Addr} {xs : List V} {i : Int} {v : V} (ha : SqT K H a xs) (h0 : 0 ≤ i) (hv : xs[i.toNat]? = some v) (h : Q v H) : rIx K (.ref a) (.int i) H Q := by
  obtain ⟨j, rfl⟩ := Int.eq_ofNat_of_zero_le h0
  exact Or.inr (Or.inl ⟨a, xs, j, v, rfl, rfl, ha, atI_nat hv, h⟩)
theorem rd_len {a : Addr} {xs : List V} (ha : SqL K H a xs ∨ SqT K H a xs) (h : Q (.int xs.length) H) : rLenG K [.ref a] H Q := Or.inl ⟨a, xs, rfl, ha, h⟩
/-- tuple(list) -/
theorem rd_tupOf {a : Addr} {xs : List V} (ha : SqL K H a xs) (h : ∀ p H', Mv [] H H' → SqT K H' p xs → Q (.ref p) H') : rTupOf K [.ref a] H Q :=
  ⟨a, xs, rfl, .inl ⟨ha, fun p np => h p _ (.new np) (.inl (.inl upd_same))⟩⟩
/-- list(x) -/
theorem rd_listOf {a : Addr} {xs : List V} (ha : SqL K H a xs ∨ SqT K H a xs) (h : ∀ p H', H p = none → Mv [] H H' → H' p = some (.lst xs) → Q (.ref p) H') : rListOf K [.ref a] H Q :=
  ⟨a, xs, rfl, ha, fun p np => h p _ np (.new np) upd_same⟩
/-- a written tuple, a written list -/
theorem rd_tup {ta : TA} (h : ta σ H fun xs H1 => xs.length ≤ sizeLine ∧ ∀ p H', H1 p = none → Mv [] H1 H' → SqT K H' p xs → Q (.ref p) H') (mono : ∀ {R S : List V → Hp → Prop}, (∀ xs H1, R xs H1 → S xs H1) → ta σ H R → ta σ H S) : tTup ta σ H Q :=
  mono (fun xs H1 k => ⟨k.1, fun p np => k.2 p _ np (.new np) (.inl (.inl upd_same))⟩) h
/-- t[1:], t[:1] of a tuple that is not empty -/
theorem rd_sl1 {a : Addr} {x : V} {xs : List V} (ha : SqT K H a (x :: xs)) (h : ∀ p H', Mv [] H H' → SqT K H' p xs → Q (.ref p) H') : rSlG K (.ref a) (some 1) none H Q := by
  have e : HT.sIx (x :: xs).length 0 (some 1) = 1 := by
    rw [show HT.sIx (x :: xs).length 0 (some 1) = min 1 (x :: xs).length from HT.sIx_nat _ 0 1, List.length_cons]
    omega
  refine Or.inr (Or.inl ⟨a, x :: xs, rfl, ha, fun z => ?_, fun _ p np => h p _ (.new np) (.inl (.inl ?_))⟩)
  · rw [e] at z
    omega
  · rw [upd_same]
    unfold cutV
    rw [e, HT.sIx_none, List.length_cons, Nat.add_sub_cancel]
    show some (HO.tup (xs.take xs.length)) = _
    rw [List.take_length]
theorem rd_slA {a : Addr} {x : V} {xs : List V} (ha : SqT K H a (x :: xs)) (h : ∀ p H', Mv [] H H' → SqT K H' p [x] → Q (.ref p) H') : rSlG K (.ref a) none (some 1) H Q := by
  have e : HT.sIx (x :: xs).length (x :: xs).length (some 1) = 1 := by
    rw [show HT.sIx (x :: xs).length (x :: xs).length (some 1) = min 1 (x :: xs).length from HT.sIx_nat _ _ 1, List.length_cons]
    omega
  refine Or.inr (Or.inl ⟨a, x :: xs, rfl, ha, fun z => ?_, fun _ p np => h p _ (.new np) (.inl (.inl ?_))⟩)
  · rw [e] at z
    have e0 : xs = [] := by
      cases xs with
      | nil => rfl
      | cons y ys =>
        have := z.2
        simp at this
    subst e0
    exact h a H .refl ha
  · rw [upd_same]
    unfold cutV
    rw [e, HT.sIx_none]
    rfl
end

/-! loops over a list or a tuple that stays -/
section
variable {K : PySem.W.Frag} {a : Addr} {xs : List V}
theorem for_seq {g : TG} {tb : TS} {D : Ends} {σ : L2.St} {H : Hp} (hS : SqL K H a xs ∨ SqT K H a xs) (Pv : Nat → L2.St → Hp → Prop) (h0 : Pv 0 σ H) (hk : ∀ i σ' H', Pv i σ' H' → Mv [] H H')
    (hs : ∀ i x σ' H', xs[i]? = some x → Pv i σ' H' → g x σ' H' fun σ2 H2 => tb { D with nx := Pv (i + 1), ct := Pv (i + 1), bk := D.nx } σ2 H2) (hd : ∀ σ' H', Pv xs.length σ' H' → D.nx σ' H') :
    ((∃ xs, SqL K H a xs) ∧ ∃ W : Nat → Nat → L2.St → Hp → Prop, (∃ m, W 0 m σ H) ∧ ∀ i m σ H, W i m σ H →
      ((Itl K a).stop i H ∧ D.nx σ H) ∨ ((Itl K a).go i H ∧ ∃ N : L2.St → Hp → Prop, (∀ σ' H', N σ' H' → ∃ m', m' < m ∧ W (i + 1) m' σ' H') ∧ ∀ x H', (Itl K a).yld i H x H' → g x σ H' fun σ2 H2 => tb { D with nx := N, ct := N, bk := D.nx } σ2 H2)) ∨
    ((∃ xs, SqT K H a xs) ∧ ∃ W : Nat → Nat → L2.St → Hp → Prop, (∃ m, W 0 m σ H) ∧ ∀ i m σ H, W i m σ H →
      ((Itt K a).stop i H ∧ D.nx σ H) ∨ ((Itt K a).go i H ∧ ∃ N : L2.St → Hp → Prop, (∀ σ' H', N σ' H' → ∃ m', m' < m ∧ W (i + 1) m' σ' H') ∧ ∀ x H', (Itt K a).yld i H x H' → g x σ H' fun σ2 H2 => tb { D with nx := N, ct := N, bk := D.nx } σ2 H2)) := by
  rcases hS with hS | hS
  · exact .inl ⟨⟨xs, hS⟩, for_list Pv h0 (fun i σ' H' _ p => (hk i σ' H' p).same.seq hS) hs hd⟩
  · exact .inr ⟨⟨xs, hS⟩, for_tup Pv h0 (fun i σ' H' _ p => (hk i σ' H' p).sqT hS) hs hd⟩
theorem lc_seq {g : TG} {tt : TT} {te : TE} {vs : List Nat} {σ : L2.St} {H : Hp} {Qd : Addr → Hp → Prop} (hS : SqL K H a xs ∨ SqT K H a xs) (Pv : Nat → Addr → Hp → Prop) (h0 : ∀ D, H D = none → Pv 0 D (upd H D (.lst [])))
    (hk : ∀ i D H', H D = none → Pv i D H' → Mv [] H H')
    (hs : ∀ D, H D = none → ∀ i x H', xs[i]? = some x → Pv i D H' → g x (wipe σ vs) H' fun σ2 H2 => wipe σ2 vs = wipe σ vs ∧ tt σ2 H2 fun b H3 =>
      if b = true then te σ2 H3 fun y H4 => ∃ acc, H4 D = some (.lst acc) ∧ acc.length < sizeLine ∧ Pv (i + 1) D (upd H4 D (.lst (acc ++ [y]))) else Pv (i + 1) D H3) (hd : ∀ D H', H D = none → Pv xs.length D H' → Qd D H') :
    ((∃ xs, SqL K H a xs) ∧ ∀ D, H D = none → ∃ W : Nat → Nat → Hp → Prop, (∃ m, W 0 m (upd H D (.lst []))) ∧ ∀ i m H, W i m H →
      ((Itl K a).stop i H ∧ Qd D H) ∨ ((Itl K a).go i H ∧ ∃ Nx : Hp → Prop, (∀ H', Nx H' → ∃ m', m' < m ∧ W (i + 1) m' H') ∧ ∀ x H', (Itl K a).yld i H x H' → g x (wipe σ vs) H' fun σ2 H2 => wipe σ2 vs = wipe σ vs ∧ tt σ2 H2 fun b H3 =>
        if b = true then te σ2 H3 fun y H4 => ∃ acc, H4 D = some (.lst acc) ∧ acc.length < sizeLine ∧ Nx (upd H4 D (.lst (acc ++ [y]))) else Nx H3)) ∨
    ((∃ xs, SqT K H a xs) ∧ ∀ D, H D = none → ∃ W : Nat → Nat → Hp → Prop, (∃ m, W 0 m (upd H D (.lst []))) ∧ ∀ i m H, W i m H →
      ((Itt K a).stop i H ∧ Qd D H) ∨ ((Itt K a).go i H ∧ ∃ Nx : Hp → Prop, (∀ H', Nx H' → ∃ m', m' < m ∧ W (i + 1) m' H') ∧ ∀ x H', (Itt K a).yld i H x H' → g x (wipe σ vs) H' fun σ2 H2 => wipe σ2 vs = wipe σ vs ∧ tt σ2 H2 fun b H3 =>
        if b = true then te σ2 H3 fun y H4 => ∃ acc, H4 D = some (.lst acc) ∧ acc.length < sizeLine ∧ Nx (upd H4 D (.lst (acc ++ [y]))) else Nx H3)) := by
  rcases hS with hS | hS
  · exact .inl ⟨⟨xs, hS⟩, fun D nD => lc_list (Pv · D) (h0 D nD) (fun i H' _ p => (hk i D H' nD p).same.seq hS) (hs D nD) (fun H' p => hd D H' nD p)⟩
  · exact .inr ⟨⟨xs, hS⟩, fun D nD => lc_tup (Pv · D) (h0 D nD) (fun i H' _ p => (hk i D H' nD p).sqT hS) (hs D nD) (fun H' p => hd D H' nD p)⟩
end
section
variable {K : PySem.W.Frag} {H : Hp} {Q : VK}
theorem rd_slT {a : Addr} {xs : List V} {lo hi : Option Int} (ha : SqT K H a xs) (h : ∀ p H', Mv [] H H' → SqT K H' p (cutV xs lo hi) → Q (.ref p) H') : rSlG K (.ref a) lo hi H Q := by
  refine Or.inr (Or.inl ⟨a, xs, rfl, ha, fun z => h a H .refl ?_, fun _ p np => h p _ (.new np) (.inl (.inl upd_same))⟩)
  have e : cutV xs lo hi = xs := by
    unfold cutV
    rw [z.1, z.2, List.drop_zero, Nat.sub_zero, List.take_length]
  rw [e]
  exact ha
theorem cut_hi (xs : List V) (k : Nat) : cutV xs none (some (k : Int)) = xs.take k := by
  unfold cutV
  rw [HT.sIx_none, HT.sIx_nat, List.drop_zero, Nat.sub_zero, List.take_eq_take_iff]
  omega
theorem cut_lo (xs : List V) (k : Nat) : cutV xs (some (k : Int)) none = xs.drop k := by
  unfold cutV
  rw [HT.sIx_none, HT.sIx_nat]
  by_cases h : k ≤ xs.length
  · rw [Nat.min_eq_left h, List.take_of_length_le (by rw [List.length_drop]; omega)]
  · rw [Nat.min_eq_right (by omega), List.drop_of_length_le (Nat.le_refl _), List.drop_of_length_le (by omega)]
    simp
end
end Fm
namespace Fm
open PySem PySem.Spec PyProof.Rows L2 HT
/-! t[:0:-1] of a tuple -/
section
variable {prog : Program} {w : World} {A : Around} {E : Value → Shared → Prop} {s : Shared}
theorem back_adjust (n : Nat) : Builtin.Slice.sliceAdjust none (some 0) (-1) (n : Int) = ((n : Int) - 1, min 0 ((n : Int) - 1)) := by
  unfold Builtin.Slice.sliceAdjust
  simp only [show ((-1 : Int) < 0) from by decide, if_true, show ¬ ((0 : Int) < 0) from by decide, if_false]
theorem back_places (n : Nat) : Builtin.Slice.slicePlaces ((n : Int) - 1) (min 0 ((n : Int) - 1)) (-1) = n - 1 := by
  unfold Builtin.Slice.slicePlaces
  simp only [show ¬ ((-1 : Int) > 0) from by decide, if_false, show (- -1 : Int) = 1 from by decide, Int.ediv_one]
  split <;> omega
theorem back_applied {sl : Addr} {vu vs : Value} {n : Nat} {Q : Int × Int × Nat → Shared → Prop} (hs : s.heap.IsSliceOf sl .none vu vs) (pu : IsPart vu (some 0)) (ps : IsPart vs (some (-1)))
    (h : Q ((n : Int) - 1, -1, n - 1) s) : wpAny (model prog w) A (Builtin.Slice.sliceApplied (.ref sl) (pure (n : Int))) Q E s := by
  obtain ⟨os, hos, hcs, hds⟩ := id hs
  unfold Builtin.Slice.sliceApplied Builtin.Slice.sliceFields
  refine wpAny_bind (wpAny_bind (wpAny_field hos hds (x := .none) rfl (wpAny_bind (wpAny_field hos hds (x := vu) rfl (wpAny_bind (wpAny_field hos hds (x := vs) rfl (wpAny_pure ?_)))))))
  refine wpAny_bind (slicePart_ ps ?_)
  show wpAny _ _ (if ((-1 : Int) == 0) = true then _ else _) _ _ s
  rw [if_neg (by decide)]
  refine wpAny_bind (slicePart_none (wpAny_bind (slicePart_ pu (wpAny_bind (wpAny_pure ?_)))))
  show wpAny _ _ (match Builtin.Slice.sliceAdjust none (some 0) (-1) (n : Int) with | (lo, hi) => pure (lo, (-1 : Int), Builtin.Slice.slicePlaces lo hi (-1))) _ _ s
  rw [back_adjust n]
  show wpAny _ _ (pure ((n : Int) - 1, (-1 : Int), Builtin.Slice.slicePlaces ((n : Int) - 1) (min 0 ((n : Int) - 1)) (-1))) _ _ s
  rw [back_places]
  exact wpAny_pure h
theorem fm_congr {α β : Type} {f g : α → Option β} : ∀ {l : List α}, (∀ m ∈ l, f m = g m) → l.filterMap f = l.filterMap g
  | [], _ => rfl
  | x :: l, h => by
    rw [List.filterMap_cons, List.filterMap_cons, h x List.mem_cons_self, fm_congr fun m hm => h m (List.mem_cons_of_mem _ hm)]
theorem back_pick (y : Value) (l : List Value) : ((List.range l.length).filterMap fun (m : Nat) => (y :: l).toArray[((((y :: l).toArray.size : Nat) : Int) - 1 + (m : Int) * (-1)).toNat]?).toArray = l.reverse.toArray := by
  congr 1
  have e : ∀ m ∈ List.range l.length, (y :: l).toArray[((((y :: l).toArray.size : Nat) : Int) - 1 + (m : Int) * (-1)).toNat]? = l[l.length - 1 - m]? := by
    intro m hm
    have hm := List.mem_range.mp hm
    have e1 : ((((y :: l).toArray.size : Nat) : Int) - 1 + (m : Int) * (-1)).toNat = (l.length - 1 - m) + 1 := by
      simp only [List.size_toArray, List.length_cons]
      omega
    rw [e1]
    simp
  rw [fm_congr e]
  apply List.ext_getElem?
  intro i
  have e2 : (List.range l.length).filterMap (fun m => l[l.length - 1 - m]?) = (List.range l.length).filterMap (fun m => l.reverse[m]?) := by
    apply fm_congr
    intro m hm
    have hm := List.mem_range.mp hm
    rw [List.getElem?_reverse hm]
  rw [e2]
  have e3 : (List.range l.length).filterMap (fun m => l.reverse[m]?) = l.reverse := by
    have := PySem.W.krv_all l.reverse.toArray
    simpa using this
  rw [e3]
theorem getItem_back {t sl : Addr} {y : Value} {l : List Value} {vu vs : Value} {Q : Value → Shared → Prop} (ht : IsTup s.heap t (y :: l).toArray) (hs : s.heap.IsSliceOf sl .none vu vs) (pu : IsPart vu (some 0)) (ps : IsPart vs (some (-1)))
    (hz : l.length ≤ sizeLine) (h : Q (.ref s.heap.objs.size) { s with heap := s.heap.push { cls := .type "tuple", data := .seq l.reverse.toArray } }) : wpAny (model prog w) A (getItem (.ref t) (.ref sl)) Q E s := by
  obtain ⟨os, hos, hcs, hds⟩ := id hs
  have hTs : s.TypeIs (.ref sl) "slice" := ⟨os, hos, hcs⟩
  have hfit : sizeOk (.seq l.reverse.toArray) := by
    show l.reverse.toArray.size ≤ sizeLine
    rw [List.size_toArray, List.length_reverse]
    exact hz
  unfold getItem
  try with_reducible refine wpAny_holding ?_
  first | refine wpAny_bind (wpAny_pure ?_) | skip
  refine wpAny_bind (wpAny_sequenceKey ht.typeIs (by decide) ?_)
  refine wpAny_bind (wpAny_callSpecial?_slot (name := Str.ofString "__getitem__") ht.typeIs PyProof.Rows.slot_tuple_getitem
    (wpAny_call_entry PyProof.Rows.slot_tuple_getitem ht.typeIs entry_tuple_getitem ?_ (args_tuple_getitem _ _)))
  show wpAny _ _ (Builtin.Tuple.tupleItemsOf (.ref t) >>= _) _ _ s
  refine wpAny_bind (tupleItemsOf_ ht (wpAny_bind (wpAny_typeOf hTs ?_)))
  rw [if_pos (by decide)]
  refine wpAny_bind (back_applied hs pu ps ?_)
  have hno : ¬ (((((y :: l).toArray.size : Nat) : Int) - 1 == 0 && (-1 : Int) == 1 && ((y :: l).toArray.size - 1) == (y :: l).toArray.size) = true) := by
    simp
  show wpAny _ _ (if ((((y :: l).toArray.size : Nat) : Int) - 1 == 0 && (-1 : Int) == 1 && ((y :: l).toArray.size - 1) == (y :: l).toArray.size) = true then _ else _) _ _ s
  rw [if_neg hno]
  have e : (y :: l).toArray.size - 1 = l.length := by simp
  rw [e, back_pick]
  first
    | exact wpAny_bind (m := Builtin.Tuple.tupleExact _) (wpAny_newObj_type (wpAny_pure ⟨_, rfl, wpAny_pure h⟩) hfit)
    | exact wpAny_bind (m := Builtin.Tuple.tupleExact _) (wpAny_newObj_type (wpAny_bind (wpAny_pure (wpAny_pure ⟨_, rfl, wpAny_pure h⟩))) hfit)
    | exact wpAny_bind (wpAny_bind (m := Builtin.Tuple.tupleExact _) (wpAny_newObj_type (wpAny_pure (wpAny_pure ⟨_, rfl, wpAny_pure h⟩)) hfit))
    | exact wpAny_bind (wpAny_bind (m := Builtin.Tuple.tupleExact _) (wpAny_newObj_type (wpAny_pure ⟨_, rfl, wpAny_pure h⟩) hfit))
end
section
variable {X : Cx}
def tBack (K : PySem.W.Frag) (te : TE) : TE := fun σ H Q => te σ H fun x H1 => ∃ a y ys, x = .ref a ∧ SqT K H1 a (y :: ys) ∧ ∀ p, H1 p = none → Q (.ref p) (upd H1 p (.tup ys.reverse))
theorem pe_slice3 {e : Expr} {te : TE} {k k0 : Nat} {p0 p1 p2 p3 pos : Pos} (he : PE X e te) :
    PE X (.Subscript e (.Slice none (some (.Constant (.int 0) k0 p0)) (some (.UnaryOp .USub (.Constant (.int 1) k p1) p2)) p3) pos) (tBack X.K te) := by
  refine ⟨fun pins s σ H Q I h => Subscript_ (thn (he.run pins s σ H _ I h) ?_)⟩
  rintro v s1 ⟨x, H1, I1, r1, a, y, ys, rfl, hx, q⟩
  cases r1
  have hup : PO X (some (.Constant (.int 0) k0 p0)) (tPart (tC (.int 0))) := po_some pe_int
  have hst : PO X (some (.UnaryOp .USub (.Constant (.int 1) k p1) p2)) (tPart (tUn (rU fun i => .int (-i)) (tC (.int 1)))) := po_some (pe_un un_neg pe_int)
  refine wpAny_Slice (thn (po_none.run pins s1 σ H1 (fun o H2 => o = none ∧ H2 = H1) I1 ⟨rfl, rfl⟩) ?_)
  rintro vl s2 ⟨l, H2, I2, pl, rfl, rfl⟩
  refine thn (hup.run pins s2 σ H2 (fun o H3 => o = some 0 ∧ H3 = H2) I2 ⟨0, rfl, rfl, rfl⟩) ?_
  rintro vu s3 ⟨u, H3, I3, pu, rfl, rfl⟩
  refine thn (hst.run pins s3 σ H3 (fun o H4 => o = some (-1) ∧ H4 = H3) I3 ⟨1, rfl, -1, rfl, rfl, rfl⟩) ?_
  rintro vs s4 ⟨o, H4, I4, ps, rfl, rfl⟩
  have I5 : Inv X pins σ H4 { s4 with heap := s4.heap.push { cls := .type "slice", data := .fields #[vl, vu, vs] } } := I4.kept (t' := s4.toks) fun b ob q => Heap.get?_push_of_some _ q
  obtain ⟨its, r, ht, hz⟩ := I5.tuple hx
  cases pl
  cases r with
  | @cons _ uy _ us ry rs =>
    have hl := rs.length
    show wpAny (model X.prog X.w) X.A (subscriptTail e (.Slice none (some (.Constant (.int 0) k0 p0)) (some (.UnaryOp .USub (.Constant (.int 1) k p1) p2)) p3) (.ref a) (.ref s4.heap.objs.size)) (EP X pins σ Q) X.xe { s4 with heap := s4.heap.push { cls := .type "slice", data := .fields #[.none, vu, vs] } }
    refine tail_any (ops := [.ref a, .ref s4.heap.objs.size]) ht.typeIs (PyProof.Rows.slot_tuple_getitem.lookup) ?_ (by with_unfolding_all rfl)
    have hz' : us.length ≤ sizeLine := by
      rw [List.length_cons] at hz
      omega
    refine getItem_back ht (Heap.IsSliceOf.new _ .none vu vs) pu ps hz' ?_
    refine ⟨.ref _, _, I5.laid (t' := s4.toks) (o := .tup ys.reverse) (fun b ob q => Heap.get?_push_of_some _ q) (Nat.le_refl _) ?_, rfl, q _ (I5.hok.fresh (Nat.le_refl _))⟩
    exact ⟨by rw [List.length_reverse]; omega, _, Vals.reverse rs, IsTup.new _ _⟩
end
end Fm
namespace Fm
open PySem PySem.Spec PyProof.Rows L2
/-! set(xs) of a list of ints -/
section
variable {P : Program} {w : World} {A : Around} {E : Value → Shared → Prop} {s : Shared}
/-- the empty set as it is laid -/
abbrev eset (w : World) : Obj := { cls := .type "set", dict := none, data := .set #[] 0 (.fresh 0 0 (!w.params.followText "set-order")) }
abbrev hset (w : World) (h : Heap) : Heap := h.push (eset w)
set_option maxHeartbeats 8000000 in
theorem set_of_list {l : Addr} {its : Array Value} (ns : List Int) {Q : Value → Shared → Prop} (hh : A.handled = none) (hl : s.heap.IsList l its) (hi : IntsAre its.toList ns) (hb : ns.length + 1 < scanBound)
    (h : ∀ (g : Heap) (tk c : Nat), SetR w g s.heap.objs.size (fun j => decide (j ∈ ns)) c → (∀ b o, s.heap.get? b = some o → g.get? b = some o) → Q (.ref s.heap.objs.size) { s with heap := g, toks := tk }) :
    wpAny (model P w) A (call (.type "set") [.ref l]) Q E s := by
  have hn : its.size = ns.length := by rw [← Array.length_toList]; exact IntsAre.length hi
  obtain ⟨mc, mt, mro⟩ := F.called_set.mro
  have mk1 := F.called_set.made
  have mk2 := F.called_set.sub
  refine wpAny_call (codeAny_of_tree (show wpAny _ _ (callAny (.type "set") _) _ _ _ from wpAny_pure ⟨Code.quiet_builtin _ (by decide +kernel), codeAny_builtin F.entry_type_call ?_⟩))
  rw [Around.under_plain (weight_type_call_type "set" [.ref l] []) rfl]
  have mk3 := F.called_set.notType
  have mk4 := F.called_set.canCreate
  have mk5 := F.typeCall_set_1 (.ref l)
  repeat (any_goals (first | assumption | wp_step))
  refine codeAny_mono (code_set_led1 (w := w) (s := s) (.ref l) (E := E)
    (Q₁ := fun obj s₁ => obj = .ref s.heap.objs.size ∧ s₁ = { s with heap := hset w s.heap }) ⟨rfl, rfl⟩) fun r s₁ hr => ?_
  match r, hr with
  | .error e, hr => exact hr
  | .ok (.ret obj), hr =>
    obtain ⟨rfl, rfl⟩ := hr
    have here : (hset w s.heap).get? s.heap.objs.size = some (eset w) := Heap.get?_push_size _ rfl
    have isS : Shared.TypeIs { s with heap := hset w s.heap } (.ref s.heap.objs.size) "set" := ⟨_, here, rfl⟩
    have in1 := F.called_set.init.lookup
    have in2 := F.called_set.init.bind (.ref s.heap.objs.size)
    repeat (any_goals (first | assumption | wp_step))
    have goes : codeAny (model P w) A.in1 (.call (.builtin "set.__init__") ⟨[.ref s.heap.objs.size, .ref l], []⟩) (wants (fun r s₂ => r = .none ∧ ∃ g tk c,
        s₂ = { s with heap := g, toks := tk } ∧ SetR w g s.heap.objs.size (fun j => decide (j ∈ ns)) c ∧ ∀ b o, s.heap.get? b = some o → g.get? b = some o) E) { s with heap := hset w s.heap } := by
      refine codeAny_call_builtin F.called_set.init.plain F.entry_set_init (check_set_init_1 isS ?_)
      obtain ⟨⟨oc, od, dt, sl⟩, hol, hcl, nl, hdl⟩ := id hl
      simp only at hcl hdl
      subst hcl hdl
      have lt := Heap.lt_size hol
      have hol2 : (hset w s.heap).get? l = some _ := Heap.get?_push_of_some _ hol
      have hl2 : (hset w s.heap).IsList l its := ⟨_, hol2, rfl, nl, rfl⟩
      have no1 := F.sub_list_set
      have no2 := F.sub_list_frozenset
      have no3 : (Value.type "list" == Value.type "dict") = false := by decide
      unfold Builtin.«set.__init__» noKeywords Builtin.Frozenset.updateFrom
      generalize hPI : pyIter = PI
      wp_walk
      subst hPI
      refine wpAny_pyIter_list hl2 (wpAny_bind (wpAny_runValue ?_))
      have sz2 : (hset w s.heap).objs.size = s.heap.objs.size + 1 := Heap.size_push ..
      have neI : l ≠ (hset w s.heap).objs.size := by
        rw [sz2]
        exact Nat.ne_of_lt (Nat.lt_succ_of_lt lt)
      have notIn : s.heap.objs.size ∉ [(hset w s.heap).objs.size, l] := by
        rw [sz2]
        intro z
        rcases List.mem_cons.mp z with z | z
        · exact Nat.ne_of_lt (Nat.lt_succ_self _) z
        · exact Nat.ne_of_gt lt (List.mem_singleton.mp z)
      have val : ∀ (i : Nat) (v : Value), its[i]? = some v → ∃ k t, ns[i]? = some k ∧ v = .int k t := fun i v hv => by
        have hi' : i < ns.length := by
          rw [← hn]
          exact (Array.getElem?_eq_some_iff.mp hv).1
        obtain ⟨t, e⟩ := PyProof.Rows.IntsAre.int_at hi i v (by rw [Array.getElem?_toList]; exact hv)
        have e2 : ns.getD i 0 = ns[i] := by rw [List.getD_eq_getElem?_getD, List.getElem?_eq_getElem hi']; rfl
        exact ⟨ns[i], t, List.getElem?_eq_getElem hi', by rw [e, e2]⟩
      have hh3 : A.in1.in1.in1.handled = none := by simp [hh]
      refine set_update_ints ((Walks.list hh3 _ l neI its).toS) s.heap.objs.size notIn ns hn hb val (its.size - 0) 0 _ (by omega) (Nat.zero_le _) ?st ?s0 ?fin
      case st => exact ⟨⟨_, Heap.get?_push_size _ rfl, rfl, rfl⟩, hl2.push _⟩
      case s0 => exact ⟨0, Nat.le_refl 0, setR_new_at (Heap.get?_push_of_some _ here)⟩
      case fin =>
        rintro ⟨g, gg, dd, tk, oo⟩ c' mv hc' hS'
        have e1 : gg = s.gens := mv.gens
        have e2 : dd = s.drawn := mv.drawn
        have e3 : oo = s.os := mv.os
        subst e1 e2 e3
        refine wpAny_pure (show wpAny _ _ (ret Value.none) _ _ _ from wpAny_pure ⟨rfl, g, tk, c', rfl, hS', fun b o e => ?_⟩)
        have b0 := Heap.lt_size e
        refine mv.heap b o (fun z => ?_) (Heap.get?_push_of_some _ (Heap.get?_push_of_some _ e))
        rcases List.mem_cons.mp z with z | z
        · exact Nat.ne_of_lt b0 z
        · have z2 := List.mem_singleton.mp z
          rw [sz2] at z2
          exact Nat.ne_of_lt (Nat.lt_succ_of_lt b0) z2
    refine codeAny_mono goes fun r₂ s₂ hr₂ => ?_
    match r₂, hr₂ with
    | .error e, hr₂ => exact hr₂
    | .ok (.ret r), hr₂ =>
      obtain ⟨rfl, g, tk, c', rfl, hS', hk'⟩ := hr₂
      repeat (any_goals (first | assumption | wp_step))
      exact h _ _ _ hS' hk'
end
section
variable {X : Cx}
/-- set(xs): its numbers; sorted(set) -/
def rSetOfL (K : PySem.W.Frag) (w : World) : List V → Hp → VK → Prop := fun xs H Q => ∃ (l : Addr) (ns : List Int), xs = [V.ref l] ∧ SqL K H l (ns.map V.int) ∧ ns.length ≤ 4000 ∧
  ∀ p (n : Nat) (ks : List Int), H p = none → ks.Nodup → ks.length = n → (∀ k, k ∈ ks ↔ k ∈ ns) → Q (.ref p) (upd H p (SetO w p (fun j => decide (j ∈ ns)) n))
theorem cr_setG (hc : X.calm = true) : CallR X (.type "set") (rSetOfL X.K X.w) := by
  intro pins s σ H xs us Q I r h
  obtain ⟨l, ns, rfl, hl, hb, q⟩ := h
  rw [Vals.ref1 r]
  obtain ⟨its, rv, pl, hz⟩ := I.list hl
  refine set_of_list ns (I.ok.hd hc) pl.isList (by simpa using intsAre_of rv) (Nat.lt_of_le_of_lt (Nat.succ_le_succ hb) (by decide)) fun g tk c R hk => ?_
  obtain ⟨o, es, ep, t, h1, h2, h3, h4, h5, h6, h7, h8, h9, h10⟩ := id R
  refine ⟨.ref _, upd H s.heap.objs.size (SetO X.w s.heap.objs.size (fun j => decide (j ∈ ns)) c), I.laid (t' := tk) hk (Nat.le_refl _) (setO_new R), rfl, ?_⟩
  refine q _ c (es.toList.map keyOf) (I.hok.fresh (Nat.le_refl _)) h5 (by rw [List.length_map, Array.length_toList]; exact h9) fun k => ?_
  rw [← h6 k]
  simp
theorem cr_sortedG (hc : X.calm = true) : CallR X (.builtin "sorted") (fun xs H Q => rSortedSet X.w xs H Q ∨ rSorted X.K xs H Q) := CallR.or (cr_sortedSet hc) cr_sorted
end
end Fm
namespace Fm
open PySem PySem.Spec PyProof.Rows L2
/-! data that can be compared and shown -/
mutual
def fine : PyData → Prop
  | .none => True
  | .bool _ => True
  | .int i => i.natAbs < 10 ^ 40
  | .str x => PyData.strOk x = true
  | .list xs => fineAll xs
  | .tuple xs => fineAll xs
  | .dict _ => False
def fineAll : List PyData → Prop
  | [] => True
  | x :: xs => fine x ∧ fineAll xs
end
mutual
/-- what its text may come to -/
def wl : PyData → Nat
  | .none => 4
  | .bool _ => 5
  | .int _ => 41
  | .str x => 10 * x.length + 2
  | .list xs => wls xs + 2
  | .tuple xs => wls xs + 2
  | .dict _ => 0
def wls : List PyData → Nat
  | [] => 0
  | x :: xs => wl x + 2 + wls xs
end
theorem fineAll_iff : ∀ {xs : List PyData}, fineAll xs ↔ ∀ x ∈ xs, fine x
  | [] => by simp [fineAll]
  | x :: xs => by simp [fineAll, fineAll_iff]
theorem listText_le : ∀ ts : List Str, (listText ts).length ≤ piled ts + 2
  | [] => by rw [listText_nil]; decide
  | t :: r => by
    have h := textFrom_length_pos r 1 (("[" : Str) ++ ("" : String) ++ t) (Nat.succ_pos 0)
    have e : ((("[" : Str) ++ ("" : String) ++ t)).length = 1 + t.length := by
      rw [strLen_append, strLen_append]
      rfl
    have x1 : (listText (t :: r)).length = (textFrom 1 (("[" : Str) ++ ("" : String) ++ t) r).length + 1 := by
      show (textFrom 1 (("[" : Str) ++ ("" : String) ++ t) r ++ "]").length = _
      rw [strLen_append]
      rfl
    rw [x1, h, e, piled_cons]
    omega
theorem tupleText_le (ts : List Str) : (tupleText ts).length ≤ piled ts + 2 := by
  have e3 : (((if ts.length == 1 then ",)" else ")" : String) : Str)).length ≤ 2 := by split <;> decide +kernel
  have e1 : ((("(" : String) : Str)).length = 1 := rfl
  unfold tupleText
  rw [strLen_append, strLen_append, e1]
  cases ts with
  | nil => decide +kernel
  | cons t r =>
    have := join_length_add (t :: r) (by simp)
    omega
mutual
theorem shown_le : ∀ d : PyData, fine d → d.shown.length ≤ wl d
  | .none, _ => by simp only [PyData.shown]; decide
  | .bool b, _ => by cases b <;> (simp only [PyData.shown]; decide)
  | .int i, h => by
    simp only [PyData.shown, wl]
    rw [PySem.ofString_length]
    exact int_text_length_le10 (k := 40) (by decide) h
  | .str x, h => by
    simp only [PyData.shown, wl]
    refine StrLaws.reprText_len x fun c hc => ?_
    have h' : x.cps.all (· < 0x110000) = true := h
    rw [Array.all_eq_true_iff_forall_mem] at h'
    have := h' c (by simpa using hc)
    simp at this
    omega
  | .list xs, h => by
    have := shown_les xs h
    have := listText_le (PyData.shownAll xs)
    simp only [PyData.shown, wl]
    omega
  | .tuple xs, h => by
    have := shown_les xs h
    have := tupleText_le (PyData.shownAll xs)
    simp only [PyData.shown, wl]
    omega
  | .dict _, h => h.elim
theorem shown_les : ∀ xs : List PyData, fineAll xs → piled (PyData.shownAll xs) ≤ wls xs
  | [], _ => by simp [PyData.shownAll, piled, wls]
  | x :: xs, h => by
    have h1 := shown_le x h.1
    have h2 := shown_les xs h.2
    simp only [PyData.shownAll, wls]
    rw [piled_cons]
    omega
end
mutual
theorem fine_lay : ∀ d : PyData, fine d → d.canLay0 = true ∧ d.showable = true ∧ d.hasDict = false
  | .none, _ => by simp [PyData.canLay0, PyData.showable, PyData.hasDict]
  | .bool b, _ => by simp [PyData.canLay0, PyData.showable, PyData.hasDict]
  | .int i, h => by
    refine ⟨by simp [PyData.canLay0], ?_, by simp [PyData.hasDict]⟩
    have h' : i.natAbs < 10 ^ 40 := h
    have h2 : i.natAbs < 2 ^ 200 := Nat.lt_trans h' (by decide)
    simp only [PyData.showable, decide_eq_true_eq]
    exact Nat.lt_trans (PySem.Flt.log2_lt_of (by decide) h2) (by decide)
  | .str x, h => ⟨by simp only [PyData.canLay0]; exact h, by simp [PyData.showable], by simp [PyData.hasDict]⟩
  | .list xs, h => by simpa [PyData.canLay0, PyData.showable, PyData.hasDict] using fine_lays xs h
  | .tuple xs, h => by simpa [PyData.canLay0, PyData.showable, PyData.hasDict] using fine_lays xs h
  | .dict _, h => h.elim
theorem fine_lays : ∀ xs : List PyData, fineAll xs → PyData.canLayAll0 xs = true ∧ PyData.showableAll xs = true ∧ PyData.hasDictAll xs = false
  | [], _ => by simp [PyData.canLayAll0, PyData.showableAll, PyData.hasDictAll]
  | x :: xs, h => by
    obtain ⟨a, b, c⟩ := fine_lay x h.1
    obtain ⟨a', b', c'⟩ := fine_lays xs h.2
    simp [PyData.canLayAll0, PyData.showableAll, PyData.hasDictAll, a, b, c, a', b', c']
end
structure Shw (d : PyData) : Prop where
  fi : fine d
  dp : d.depth ≤ 60
  wl : wl d ≤ 16000000
theorem Shw.shaped {d : PyData} (h : Shw d) : SeqAt.shaped d = true := by
  show (d.canLay0 && decide (d.depth ≤ 64)) = true
  have := h.dp
  rw [(fine_lay d h.fi).1, decide_eq_true (by omega)]
  rfl
theorem Shw.len {d : PyData} (h : Shw d) : d.shown.length ≤ sizeLine := by
  have := shown_le d h.fi
  have := h.wl
  have e : sizeLine = 16777216 := rfl
  omega
theorem Shw.eqv {d : PyData} (h : Shw d) : PyData.eqv d d = true := SeqAt.eqv_refl d (fine_lay d h.fi).1
theorem eqv_nil (xs : List PyData) : PyData.eqv (.list xs) (.list []) = xs.isEmpty := by
  cases xs <;> simp [PyData.eqv, PyData.eqvAll]
/-! of terms -/
theorem nm_ok {x : Str} (h : Nm x) : PyData.strOk x = true := by
  show x.cps.all (· < 0x110000) = true
  rw [Array.all_eq_true_iff_forall_mem]
  intro c hc
  have := h.2.2 c (by simpa using hc)
  simp
  omega
mutual
theorem fine_d {P : Int → Prop} (h : ∀ i, P i → i.natAbs < 10 ^ 40) : ∀ t : Tm, t.ok P → fine t.d
  | .var i, k => h i k
  | .op x ts, k => by
    simp only [Tm.d, fine, fineAll]
    exact ⟨nm_ok k.1, fine_ds h ts k.2.2⟩
theorem fine_ds {P : Int → Prop} (h : ∀ i, P i → i.natAbs < 10 ^ 40) : ∀ ts : List Tm, Tm.oks P ts → fineAll (Tm.ds ts)
  | [], _ => trivial
  | t :: ts, k => ⟨fine_d h t k.1, fine_ds h ts k.2⟩
end
mutual
theorem depth_d : ∀ t : Tm, t.d.depth = t.dep
  | .var _ => by simp [Tm.d, PyData.depth, Tm.dep]
  | .op _ ts => by simp [Tm.d, PyData.depth, PyData.depthAll, Tm.dep, depth_ds ts]
theorem depth_ds : ∀ ts : List Tm, PyData.depthAll (Tm.ds ts) = Tm.deps ts
  | [] => by simp [Tm.ds, PyData.depthAll, Tm.deps]
  | t :: ts => by simp [Tm.ds, PyData.depthAll, Tm.deps, depth_d t, depth_ds ts]
end
mutual
theorem wl_d {P : Int → Prop} : ∀ t : Tm, t.ok P → wl t.d ≤ t.cst + 41 * t.lv
  | .var _, _ => by simp [Tm.d, wl, Tm.cst, Tm.lv]
  | .op x ts, k => by
    have h1 := wl_ds ts k.2.2
    have h2 := k.1.2.1
    simp only [Tm.d, wl, wls, Tm.cst, Tm.lv]
    omega
theorem wl_ds {P : Int → Prop} : ∀ ts : List Tm, Tm.oks P ts → wls (Tm.ds ts) ≤ Tm.csts ts + 41 * Tm.lvs ts
  | [], _ => by simp [Tm.ds, wls]
  | t :: ts, k => by
    have h1 := wl_d t k.1
    have h2 := wl_ds ts k.2
    simp only [Tm.ds, wls, Tm.csts, Tm.lvs]
    omega
end
end Fm
namespace Fm
open PySem PySem.Spec PyProof.Rows L2
/-! the end: a law whose def asks for reprs -/
section
variable {P : Program} {w : World} {K : PySem.W.Frag} {mg mb : Str → Option Value} {k : Nat} {fa a : Addr} {fd : FuncData} {x : Str} {sp : Sp} {s : Shared} {vs : List Value} {ns : List Int}
/-- from a heap that knows nothing but, perhaps, the script -/
theorem from_heap (KX : K.In s.heap) (hg0 : s.heap.Ns mainGlobals mg) (hb : s.heap.Ns builtinsNs mb) (hbb : ∀ y : Str, y ≠ "__name__" → mb y = bootBuiltins y) (hlim : s.heap.NoLimit) (hg : s.gens = #[])
    (ha : s.heap.get? a = some { cls := .type "list", data := .seq vs.toArray }) (hr : Room k callerA) (F : ∀ base : Heap, K.In base → base.Ns mainGlobals mg → FnOkG P w K mg base CX0 k fa fd [x] sp)
    (hbind : ∀ (t : Shared) (u : Value), BindsTo t fd ⟨[u], []⟩ [(x, u)]) (H : Hp) (hO : Only H) (hok : HOk P w H s.heap) (hA : ∀ b, H b ≠ none → b = a) (hK : H a ≠ none → K.lookup a = none)
    (hsp : sp [.ref a] H (fun v _ => v = .bl true) fun _ _ _ => False) :
    codeAny (model P w) callerA (.call (.ref fa) ⟨[.ref a], []⟩) (fun r t => r = .ok (.ret (.bool true)) ∧ OldK s.heap t.heap ∧ t.os = s.os ∧ AllBare t.gens) s := by
  have free : ∀ {b : Addr} {o : Obj} {es : Array DictEntry} {ep : Nat}, s.heap.get? b = some o → o.data = .dict es ep → H b = none := by
    intro b o es ep e d
    cases q : H b with
    | none => rfl
    | some u =>
      have z := hA b (by rw [q]; exact Option.some_ne_none u)
      rw [z, ha] at e
      cases e
      exact nomatch d
  have ns : ∀ {b : Addr} {m : Str → Option Value}, s.heap.Ns b m → (hidT s.heap H).Ns b m := by
    rintro b m ⟨o, es, ep, e, d, r⟩
    exact ⟨o, es, ep, hidT_get e (free e d), d, r⟩
  have kin : K.In (hidT s.heap H) := by
    intro b o e
    refine hidT_get (KX b o e) ?_
    cases q : H b with
    | none => rfl
    | some u =>
      have z := hA b (by rw [q]; exact Option.some_ne_none u)
      rw [z] at q e
      rw [hK (by rw [q]; exact Option.some_ne_none u)] at e
      cases e
  have lim : (hidT s.heap H).NoLimit := by
    obtain ⟨mc, l1, l2⟩ := hlim
    exact ⟨mc, ns l1, l2⟩
  have env : Env0 P w K mg (hidT s.heap H) callerA [] s H :=
    ⟨rfl, ⟨kin, ns hg0, ⟨mb, ns hb, hbb⟩, lim⟩, fun b o e => of_hidT e, Nat.le_of_eq (hidT_size _ _), trivial, (fun b z => absurd (show b ∈ ([] : List Addr) from z) List.not_mem_nil), hok, .of_eq hg⟩
  have run := (F _ kin (ns hg0)).run callerA [] s H ⟨[.ref a], []⟩ [.ref a] [.ref a] _ _ rfl hr env (hbind s (.ref a)) (.cons rfl .nil) hsp
  refine codeAny_mono run fun r t h => ?_
  match r, h with
  | .error e, h => exact False.elim h
  | .ok (.ret u), h =>
    obtain ⟨v, H', os, bare, un, hok', r', q⟩ := h
    have q' : v = .bl true := q
    rw [q'] at r'
    obtain rfl : u = Value.bool true := r'
    refine ⟨rfl, OldK.of_keep fun b o e => ?_, os, bare⟩
    rcases hO b with z | ⟨ob, xs, z⟩
    · exact un.keep b o e z (fun y => absurd (show b ∈ ([] : List Addr) from y) List.not_mem_nil) (fun y => nomatch y)
    · obtain ⟨e1, _⟩ := hok b _ z
      obtain ⟨e2, _⟩ := hok' b _ (un.frzs b ob _ z)
      rw [e1] at e
      cases e
      exact e2
theorem law_callG (KX : K.In s.heap) (hg0 : s.heap.Ns mainGlobals mg) (hb : s.heap.Ns builtinsNs mb) (hbb : ∀ y : Str, y ≠ "__name__" → mb y = bootBuiltins y) (hlim : s.heap.NoLimit) (hg : s.gens = #[])
    (ha : s.heap.get? a = some { cls := .type "list", data := .seq vs.toArray }) (hi : IntsAre vs ns) (hl : ns.length ≤ sizeLine) (hr : Room k callerA)
    (F : ∀ base : Heap, K.In base → base.Ns mainGlobals mg → FnOkG P w K mg base CX0 k fa fd [x] sp) (hbind : ∀ (t : Shared) (u : Value), BindsTo t fd ⟨[u], []⟩ [(x, u)])
    (hsp : ∀ H : Hp, SqL K H a (ns.map V.int) → sp [.ref a] H (fun v _ => v = .bl true) fun _ _ _ => False) :
    codeAny (model P w) callerA (.call (.ref fa) ⟨[.ref a], []⟩) (fun r t => r = .ok (.ret (.bool true)) ∧ OldK s.heap t.heap ∧ t.os = s.os ∧ AllBare t.gens) s := by
  have rv := vals_ints hi
  have hlen : (ns.map V.int).length ≤ sizeLine := by
    rw [List.length_map]
    exact hl
  cases hk : K.lookup a with
  | some o =>
    have e := KX a o hk
    rw [ha] at e
    cases e
    refine from_heap KX hg0 hb hbb hlim hg ha hr F hbind (fun _ => none) (fun _ => .inl rfl) (fun b u z => nomatch z) (fun b z => absurd rfl z) (fun z => absurd rfl z) (hsp _ ?_)
    exact .inr ⟨_, vs.toArray, _, hk, rfl, rfl, rfl, by rw [List.size_toArray, hi.length]; exact hl, by simpa using rv⟩
  | none =>
    have at_ : ∀ b, (if b = a then some (HO.frz { cls := .type "list", data := .seq vs.toArray } (.lst (ns.map V.int))) else none) ≠ none → b = a := by
      intro b z
      by_cases e : b = a
      · exact e
      · rw [if_neg e] at z
        exact absurd rfl z
    refine from_heap KX hg0 hb hbb hlim hg ha hr F hbind (fun b => if b = a then some (.frz { cls := .type "list", data := .seq vs.toArray } (.lst (ns.map V.int))) else none) (fun b => ?_) (fun b u z => ?_) at_ (fun _ => hk)
      (hsp _ (.inl (.inr ⟨_, if_pos rfl⟩)))
    · by_cases e : b = a
      · exact .inr ⟨_, _, if_pos e⟩
      · exact .inl (if_neg e)
    · have e : b = a := at_ b (by
        have z' : (if b = a then some (HO.frz { cls := .type "list", data := .seq vs.toArray } (.lst (ns.map V.int))) else none) = some u := z
        rw [z']
        exact Option.some_ne_none u)
      subst e
      have z' := (if_pos rfl).symm.trans z
      cases z'
      exact ⟨ha, hlen, vs, _, rv, ha⟩
end
theorem walk_G {l : PySem.W.OpenLaw} {n k : Nat} {q : Program} {loose : List Str} {XP : (Str → Option Value) → Heap → Prop} {YP : World → Heap → Prop} {d : DefRec} {K : Params → PySem.W.Frag} {sp : PySem.W.Frag → Sp} {x : Str}
    (hn : l.most = some n) (hn2 : n ≤ sizeLine) (hdf : d.params.defaults = []) (hr : Room k callerA) (hY : ∀ (w : World) (h : Heap), YP w h → (K w.params).In h)
    (F : ∀ (w : World) (mg : Str → Option Value) (fa : Addr) (h : Heap), (K w.params).In h → h.Ns mainGlobals mg → mg d.name = some (.ref fa) →
      ∃ fd : FuncData, (∀ (t : Shared) (u : Value), BindsTo t fd ⟨[u], []⟩ [(x, u)]) ∧ ∀ base : Heap, (K w.params).In base → base.Ns mainGlobals mg → FnOkG l.prog w (K w.params) mg base CX0 k fa fd [x] (sp (K w.params)))
    (hsp : ∀ (K : PySem.W.Frag) (H : Hp) (a : Addr) (ns : List Int), ns.length ≤ n → SqL K H a (ns.map V.int) → sp K [.ref a] H (fun v _ => v = .bl true) fun _ _ _ => False) :
    PySem.W.WalkO q loose XP YP l.row.toRowW d [] (fun f vs => PySem.call f vs) := by
  refine Att.attach_call hn hdf fun w s₀ s₁ mg mb fa o pm cd doc a vs ns G Y ho hd hcd hmg hobj hints hlen hgens => ?_
  obtain ⟨fd, hb, hF⟩ := F w mg fa _ (hY w _ Y) G.T.g hmg
  exact law_callG (hY w _ Y) G.T.g G.T.b G.T.builtins G.T.nolimit hgens hobj hints (Nat.le_trans hlen hn2) hr hF hb fun H hS => hsp _ H a ns hlen hS
end Fm
namespace Fm
open PySem PySem.Spec PyProof.Rows L2
/-! a list of whatever, beside the empty one -/
section
variable {X : Cx}
def rNeNil (K : PySem.W.Frag) : R2 := fun x y H Q => ∃ (a b : Addr) (xs : List V), x = .ref a ∧ y = .ref b ∧ SqL K H a xs ∧ SqL K H b [] ∧ Q (.bl (!xs.isEmpty)) H
def rEqNil (K : PySem.W.Frag) : R2 := fun x y H Q => ∃ (a b : Addr) (xs : List V), x = .ref a ∧ y = .ref b ∧ SqL K H a xs ∧ SqL K H b [] ∧ Q (.bl xs.isEmpty) H
theorem op_neNil (hu : X.A.units < cLine) : OpR X (compareOp .NotEq) (rNeNil X.K) := by
  intro pins s σ H x y v u Q I rx ry h
  obtain ⟨a, b, xs, rfl, rfl, ha, hb, q⟩ := h
  obtain rfl : v = Value.ref a := rx
  obtain rfl : u = Value.ref b := ry
  obtain ⟨i1, r1, p1, _⟩ := I.list ha
  obtain ⟨i2, r2, p2, _⟩ := I.list hb
  have l1 := r1.length
  have l2 : i2 = [] := List.eq_nil_of_length_eq_zero (by have := r2.length; simpa using this.symm)
  subst l2
  cases xs with
  | nil =>
    have l3 : i1 = [] := List.eq_nil_of_length_eq_zero (by simpa using l1.symm)
    subst l3
    exact SeqAt.RcNeAt.lists (e := fun _ => true) p1.isList p2.isList rfl hu (fun j j1 _ => absurd j1 (Nat.not_lt_zero j)) X.prog X.w X.xe _ ⟨.bl false, H, I, rfl, q⟩
  | cons z zs =>
    refine SeqAt.RcNeAt.lists_lengths p1.isList p2.isList ?_ hu X.prog X.w X.xe _ ⟨.bl true, H, I, rfl, q⟩
    simp only [List.length_cons] at l1
    simp [bne_iff_ne]
    intro z
    rw [z] at l1
    simp at l1
theorem op_eqNil (hu : X.A.units < cLine) : OpR X (compareOp .Eq) (rEqNil X.K) := by
  intro pins s σ H x y v u Q I rx ry h
  obtain ⟨a, b, xs, rfl, rfl, ha, hb, q⟩ := h
  obtain rfl : v = Value.ref a := rx
  obtain rfl : u = Value.ref b := ry
  obtain ⟨i1, r1, p1, _⟩ := I.list ha
  obtain ⟨i2, r2, p2, _⟩ := I.list hb
  have l1 := r1.length
  have l2 : i2 = [] := List.eq_nil_of_length_eq_zero (by have := r2.length; simpa using this.symm)
  subst l2
  cases xs with
  | nil =>
    have l3 : i1 = [] := List.eq_nil_of_length_eq_zero (by simpa using l1.symm)
    subst l3
    exact SeqAt.RcAt.lists (e := fun _ => true) p1.isList p2.isList rfl hu (fun j j1 _ => absurd j1 (Nat.not_lt_zero j)) X.prog X.w X.xe _ ⟨.bl true, H, I, rfl, q⟩
  | cons z zs =>
    refine SeqAt.RcAt.lists_lengths p1.isList p2.isList ?_ hu X.prog X.w X.xe _ ⟨.bl false, H, I, rfl, q⟩
    simp only [List.length_cons] at l1
    simp [bne_iff_ne]
    intro z
    rw [z] at l1
    simp at l1
/-- i not in range(lo, hi) -/
theorem op_notIn_rng : OpR X (compareOp .NotIn) (fun x y H Q => ∃ i a lo hi, x = V.int i ∧ y = V.ref a ∧ H a = some (.rng lo hi) ∧ Q (.bl (!decide (lo ≤ i ∧ i < hi))) H) := by
  intro pins s σ H x y v u Q I rx ry h
  obtain ⟨i, a, lo, hi, rfl, rfl, ha, q⟩ := h
  obtain ⟨k, rfl⟩ := rx
  obtain rfl : u = Value.ref a := ry
  obtain ⟨t1, t2, t3, hob⟩ := I.hok a _ ha
  show wpAny _ _ (do return Value.bool (!(← contains (Value.ref a) (Value.int i k)))) _ _ s
  refine wpAny_bind (wpAny_contains_slot (T := "range") ⟨_, hob, rfl⟩ F.slot_range_contains (call_meets F.slot_range_contains ⟨_, hob, rfl⟩ F.entry_range_contains (F.args_range_contains_2 _ _) (q_contains a lo hi i t1 t2 t3 k) ⟨hob, wpAny_truthy_bool (wpAny_pure ⟨.bl _, H, I, rfl, by rw [place1]; exact q⟩)⟩))
/-- x is not True, x a bool or an int -/
def rNotB : R2 := fun x y H Q => ∃ b : Bool, y = .bl b ∧ ((∃ a : Bool, x = .bl a ∧ Q (.bl (!decide (a = b))) H) ∨ (∃ i : Int, x = .int i ∧ Q (.bl true) H))
theorem op_notB : OpR X (compareOp .IsNot) rNotB := by
  intro pins s σ H x y v u Q I rx ry h
  obtain ⟨b, rfl, h⟩ := h
  rcases h with ⟨a, rfl, q⟩ | ⟨i, rfl, q⟩
  · exact op_isnot_bl pins s σ H _ _ _ _ Q I rx ry ⟨a, b, rfl, rfl, q⟩
  · obtain ⟨t, rfl⟩ := rx
    cases (show u = Value.bool b from ry)
    exact wpAny_isNot_other rfl (fun z => nomatch z) ⟨.bl true, H, I, rfl, q⟩
end
end Fm
/-! enumerate of a tuple -/
namespace Fm
open PySem PySem.Spec PyProof.Rows L2
section
variable {prog : Program} {w : World} {A : Around} {E : Value → Shared → Prop} {s : Shared}
theorem nx_tup_item {it t : Addr} {i : Nat} {items : Array Value} {x : Value} {Q : Value → Shared → Prop} (hit : s.heap.IsTupleIter it t i) (ht : s.heap.IsTuple t items) (hx : items[i]? = some x)
    (hQ : ∀ h', h'.IsTupleIter it t (i + 1) → Heap.SameBut it s.heap h' → Q x { s with heap := h' }) : wpAny (model prog w) A (Builtin.SmallTypes.nextOf (.ref it)) Q E s := by
  obtain ⟨o, ho, hc, hd⟩ := id hit
  obtain ⟨ol, hol, _, nl, hdl⟩ := ht
  unfold Builtin.SmallTypes.nextOf
  refine wpAny_bind (wpAny_callSpecial?_slot (name := Str.ofString "__next__") hit.typeIs PySem.F.slot_tuple_iterator_next
    (wpAny_call_entry PySem.F.slot_tuple_iterator_next hit.typeIs PySem.F.entry_tuple_iterator_next ?_ (PySem.F.args_tuple_iterator_next_1 _)))
  show wpAny (model prog w) _ (field (.ref it) 0 >>= _) _ _ s
  refine wpAny_bind (wpAny_field ho hd (x := .ref t) rfl ?_)
  show wpAny (model prog w) _ (if (Value.ref t == Value.none) = true then _ else _) _ _ s
  rw [if_neg (show ¬ ((Value.ref t == Value.none) = true) from Bool.false_ne_true)]
  show wpAny (model prog w) _ (field (.ref it) 1 >>= _) _ _ s
  refine wpAny_bind (wpAny_field ho hd (x := .int i 0) rfl ?_)
  show wpAny (model prog w) _ (seqItems? (.ref t) >>= _) _ _ s
  refine wpAny_bind (wpAny_seqItems hol hdl ?_)
  simp only [Int.toNat_natCast, hx]
  refine wpAny_bind (wpAny_setField ho hd (by simp) (wpAny_pure ⟨x, rfl, wpAny_pure (hQ _ ?_ (Heap.SameBut.update ..))⟩))
  refine ⟨_, Heap.get?_update_self _ ho (Obj.isFreed_of_fields (Obj.data_mapFields hd _)), (Obj.cls_mapFields ..).trans hc, ?_⟩
  rw [Obj.data_mapFields hd]
  simp [rawInt]
theorem nx_tup_end {it t : Addr} {i : Nat} {items : Array Value} {Q : Value → Shared → Prop} (hh : A.handled = none) (hit : s.heap.IsTupleIter it t i) (ht : s.heap.IsTuple t items) (hx : items[i]? = none)
    (hE : ∀ h' e, Heap.ExtBut it s.heap h' → (∃ o, h'.get? e = some o ∧ o.cls = .type "StopIteration") → E (.ref e) { s with heap := h' }) : wpAny (model prog w) A (Builtin.SmallTypes.nextOf (.ref it)) Q E s := by
  obtain ⟨o, ho, hc, hd⟩ := id hit
  obtain ⟨ol, hol, _, nl, hdl⟩ := ht
  unfold Builtin.SmallTypes.nextOf
  refine wpAny_bind (wpAny_callSpecial?_slot (name := Str.ofString "__next__") hit.typeIs PySem.F.slot_tuple_iterator_next
    (wpAny_call_entry PySem.F.slot_tuple_iterator_next hit.typeIs PySem.F.entry_tuple_iterator_next ?_ (PySem.F.args_tuple_iterator_next_1 _)))
  show wpAny (model prog w) _ (field (.ref it) 0 >>= _) _ _ s
  refine wpAny_bind (wpAny_field ho hd (x := .ref t) rfl ?_)
  show wpAny (model prog w) _ (if (Value.ref t == Value.none) = true then _ else _) _ _ s
  rw [if_neg (show ¬ ((Value.ref t == Value.none) = true) from Bool.false_ne_true)]
  show wpAny (model prog w) _ (field (.ref it) 1 >>= _) _ _ s
  refine wpAny_bind (wpAny_field ho hd (x := .int i 0) rfl ?_)
  show wpAny (model prog w) _ (seqItems? (.ref t) >>= _) _ _ s
  refine wpAny_bind (wpAny_seqItems hol hdl ?_)
  simp only [Int.toNat_natCast, hx]
  refine wpAny_bind (wpAny_rule (wpAny_bind (wpAny_setField ho hd (by simp) ?_)))
  show wpAny (model prog w) _ (newExc (.type "StopIteration") [] >>= _) _ _ _
  refine wpAny_bind ?_
  simp only [newExc, newTuple]
  refine wpAny_bind (wpAny_newObj_type ?_ (by size_fits))
  refine wpAny_bind (m := firstArgMember _ _) (wpAny_of_eq (a := Value.none) (by first | rfl | (simp only [firstArgMember]; rfl)) ?_)
  refine wpAny_newObj_type ?_ (by size_fits)
  simp only [raiseNew]
  refine wpAny_bind (wpAny_handled ?_)
  first | rw [show A.in1.handled = none from hh] | rw [hh]
  refine wpAny_bind (wpAny_pure (wpAny_throw ?_))
  exact hE _ _ (((Heap.SameBut.update ..).extBut.push _).push _) ⟨_, Heap.get?_push_size _ rfl, rfl⟩
end
theorem draws_tup {prog : Program} {w : World} {A : Around} (hh : A.handled = none) (it t : Addr) (hne : t ≠ it) (items : Array Value) :
    Draws prog w A it [it, t] items.size (fun i v => items[i]? = some v) (fun i h => h.IsTupleIter it t i ∧ h.IsTuple t items) where
  live := fun _ _ st => let ⟨o, ho, _⟩ := st.1; ⟨o, ho⟩
  frame := fun _ _ _ st hk => ⟨st.1.at fun o e => hk it (by simp) o e, let ⟨o, ho, r⟩ := st.2; ⟨o, hk t (by simp) o ho, r⟩⟩
  item := fun i s Q E hi st hQ => by
    refine nx_tup_item st.1 st.2 (x := items[i]) (by simp [hi]) fun h' hit' hs' => ?_
    exact hQ _ h' s.toks (by simp [hi]) ⟨hit', let ⟨o, ho, r⟩ := st.2; ⟨o, (hs'.2 t hne).trans ho, r⟩⟩ hs'
  done := fun s Q E st hE => nx_tup_end hh st.1 st.2 (by simp) hE
theorem enum_newT (l : Addr) (items : Array Value) (n : Nat) (dct : Option Addr) (sl : Array (Option Value)) :
    Meets (Builtin.«enumerate.__new__» ⟨[.type "enumerate", .ref l], []⟩) (fun _ R s => s.heap.get? l = some { cls := .type "tuple", dict := dct, data := .seq items n, slots := sl } ∧
      R (.ok (.ret (.ref (s.heap.push { cls := .type "tuple_iterator", data := .fields #[.ref l, .int 0 0] }).objs.size)))
        { s with heap := (s.heap.push { cls := .type "tuple_iterator", data := .fields #[.ref l, .int 0 0] }).push { cls := .type "enumerate", data := .fields #[.none, .bool false, .ref s.heap.objs.size, rawInt 0, .none, .none] } }) :=
  .of_wp fun prog w A R s h => by
    obtain ⟨hp, g, d, tk, os⟩ := s
    obtain ⟨hl, h⟩ := h
    have hsub := sub_enumerate
    have hL : Heap.IsTuple (Shared.heap ⟨hp, g, d, tk, os⟩) l items := ⟨_, hl, rfl, n, rfl⟩
    wp_walk using AutoSeq1.wpAny_loadPart' hl
    refine wpAny_stack_any fun st => wpAny_pure ?_
    split
    · rename_i c _ _ _ _ _
      cases (c == Value.type "enumerate")
      · wp_walk using AutoSeq1.wpAny_loadPart' hl, wpAny_pyIter_tuple hL
        exact ⟨_, rfl, h⟩
      · wp_walk using AutoSeq1.wpAny_loadPart' hl, wpAny_pyIter_tuple hL
        exact ⟨_, rfl, h⟩
    · wp_walk using AutoSeq1.wpAny_loadPart' hl, wpAny_pyIter_tuple hL
      exact ⟨_, rfl, h⟩
theorem call_enumT {prog : Program} {w : World} {A : Around} {E : Value → Shared → Prop} {s : Shared} {l : Addr} {items : Array Value} {Q : Value → Shared → Prop} (hL : s.heap.IsTuple l items)
    (h : ∀ h', IsEnum h' (s.heap.objs.size + 1) s.heap.objs.size 0 .none → h'.IsTupleIter s.heap.objs.size l 0 → h'.objs.size = s.heap.objs.size + 2 →
      (∀ b o, s.heap.get? b = some o → h'.get? b = some o) → Q (.ref (s.heap.objs.size + 1)) { s with heap := h' }) :
    wpAny (model prog w) A (call (.type "enumerate") [.ref l]) Q E s := by
  obtain ⟨⟨c, dct, dt, sl⟩, hl, hc, n, hd⟩ := hL
  simp only at hc hd
  subst hc hd
  refine callType_new PySem.F.called_enumerate (by decide) (PySem.F.typeCall_enumerate_1 _) (PySem.F.newCall_enumerate_1 _) (fun obj => PySem.F.args_object_init_2 obj _) PySem.F.entry_enumerate_new (enum_newT l items n dct sl) ⟨hl, ?_⟩
  have hz : (s.heap.push { cls := .type "tuple_iterator", data := .fields #[.ref l, .int 0 0] }).objs.size = s.heap.objs.size + 1 := Heap.size_push ..
  show _ ∧ _
  rw [hz]
  have he : IsEnum ((s.heap.push { cls := .type "tuple_iterator", data := .fields #[.ref l, .int 0 0] }).push { cls := .type "enumerate", data := .fields #[.none, .bool false, .ref s.heap.objs.size, rawInt 0, .none, .none] }) (s.heap.objs.size + 1) s.heap.objs.size 0 .none := by
    have := Heap.get?_push_size (s.heap.push { cls := .type "tuple_iterator", data := .fields #[.ref l, .int 0 0] })
      (o := { cls := .type "enumerate", data := .fields #[.none, .bool false, .ref s.heap.objs.size, rawInt 0, .none, .none] }) rfl
    rw [hz] at this
    exact this
  refine ⟨⟨_, he, rfl⟩, h _ he ⟨_, Heap.get?_push_of_some _ (Heap.get?_push_size _ rfl), rfl, rfl⟩ (by rw [Heap.size_push, hz]) fun b o x => Heap.get?_push_of_some _ (Heap.get?_push_of_some _ x)⟩
theorem enum_endT {prog : Program} {w : World} {A : Around} {E : Value → Shared → Prop} {s : Shared} {e it l : Addr} {i : Nat} {items : Array Value} {old : Value} {Q : Option Value → Shared → Prop} (hh : A.handled = none)
    (he : IsEnum s.heap e it i old) (hit : s.heap.IsTupleIter it l i) (hl : s.heap.IsTuple l items) (hx : items[i]? = none) (hQ : ∀ h', Heap.ExtBut it s.heap h' → Q none { s with heap := h' }) : wpAny (model prog w) A (pyNext (.ref e)) Q E s := by
  have hT : s.TypeIs (.ref e) "enumerate" := ⟨_, he, rfl⟩
  unfold pyNext
  refine wpAny_bind (wpAny_attempt (wpAny_callSpecial?_slot (name := Str.ofString "__next__") hT PySem.F.slot_enumerate_next
    (wpAny_call_entry PySem.F.slot_enumerate_next hT PySem.F.entry_enumerate_next ?_ (PySem.F.args_enumerate_next_1 _))))
  show wpAny (model prog w) _ (field (.ref e) 2 >>= _) _ _ _
  refine wpAny_bind (wpAny_field he rfl (x := .ref it) rfl ?_)
  refine wpAny_bind (nx_tup_end hh hit hl hx fun h' x he' hx' => ?_)
  obtain ⟨o, ho, hc⟩ := hx'
  refine wpAny_bind (wpAny_isInstance (T := "StopIteration") (b := true) ⟨o, ho, hc⟩ isSubtype_stop ?_)
  exact wpAny_pure (hQ _ he')
/-- the tuple at a, its items in new pairs -/
def IteT (K : PySem.W.Frag) (a : Addr) : It :=
  ⟨fun i H => ∃ (xs : List V) (x : V), SqT K H a xs ∧ xs[i]? = some x, fun i H v H' => ∃ T x, v = .ref T ∧ H T = none ∧ H' = upd H T (.tup [.int (i : Nat), x]) ∧ ∀ xs, SqT K H a xs → xs[i]? = some x, fun i H => ∃ xs : List V, SqT K H a xs ∧ xs.length ≤ i⟩
theorem turn_enumT {P : Program} {w : World} {K : PySem.W.Frag} {elts : List Expr} {kk : Nat} {tpos : Pos} (a e it : Addr) (hai : a ≠ it) (hae : a ≠ e) :
    Turn P w K (.Tuple elts kk tpos) (IteT K a) [e, it] e (fun i h => (∃ old, IsEnum h e it ((i : Nat) : Int) old) ∧ h.IsTupleIter it a i ∧ e ≠ it) where
  mem := by simp
  obj := fun i h st b hb => by
    obtain ⟨⟨old, he⟩, ⟨o, ho, hc, hd⟩, _⟩ := st
    have e' : b = e ∨ b = it := by simpa using hb
    rcases e' with z | z
    · rw [z]; exact ⟨_, he, fun v q => nomatch q⟩
    · rw [z]; exact ⟨o, ho, fun v q => by rw [hd] at q; cases q⟩
  keep := fun i h h' st k => let ⟨⟨old, he⟩, hi, hne⟩ := st; ⟨⟨old, k e (by simp) _ he⟩, hi.at fun o q => k it (by simp) o q, hne⟩
  item := by
    intro X hP hw hK hc i pins s σ H E I hf st hg
    subst hP hw hK
    obtain ⟨⟨old, he⟩, hit, hne⟩ := st
    obtain ⟨xs, x, hq, hx⟩ := hg
    obtain ⟨its, rv, p, hz⟩ := I.tuple hq
    obtain ⟨u, hu, ru⟩ := rv.get hx
    have hT0 : s.heap.IsTuple a its.toArray := p
    have hel : e < s.heap.objs.size := Heap.lt_size he
    have hil : it < s.heap.objs.size := by obtain ⟨_, q, _⟩ := hit; exact Heap.lt_size q
    have hiz : i < its.toArray.size := by
      rw [List.size_toArray]
      exact (List.getElem?_eq_some_iff.mp hu).1
    refine wpAny_pyNext_enum_itemD (draws_tup (show X.A.in1.handled = none from I.ok.hd hc) it a hai its.toArray) he ⟨hit, hT0⟩ hiz hne (by simp [hne, hae.symm]) fun x' h' tk hP' ho hst' hT hsz hk => ?_
    have ex : x' = u := by
      have : its.toArray[i]? = some x' := hP'
      rw [List.getElem?_toArray, hu] at this
      exact (Option.some.inj this).symm
    subst ex
    refine ⟨_, rfl, wpAny_letOwnedTupleGo_enum (s := { s with heap := h', toks := tk + 1 }) ho fun h'' he' sb => ?_⟩
    have hT2 : h''.get? s.heap.objs.size = some { cls := .type "tuple", data := .seq #[.int i tk, x'] } := (sb.2 _ (Nat.ne_of_gt hel)).trans hT
    have new : ObjOk X.prog X.w (upd H s.heap.objs.size (.tup [.int (i : Nat), x])) h'' s.heap.objs.size (.tup [.int (i : Nat), x]) :=
      ⟨by show 2 ≤ sizeLine; decide, [.int i tk, x'], .cons ⟨_, rfl⟩ (.cons ru .nil), ⟨_, hT2, rfl, _, rfl⟩⟩
    have I1 : Inv X pins σ (upd H s.heap.objs.size (.tup [.int (i : Nat), x])) { s with heap := h'', toks := tk + 1 } :=
      I.turnedNew (ch := [e, it]) (fun b ob hb q => (sb.2 b (fun z => hb (by simp [z]))).trans (hk b ob (fun z => hb (by simp [z])) (fun z => hb (by simp [z])) q)) hf (Nat.le_refl _) new
    refine ⟨.ref s.heap.objs.size, _, I1, rfl, ⟨_, x, rfl, I.hok.fresh (Nat.le_refl _), rfl, fun ys hy => by rw [I.tuple_inj hy hq]; exact hx⟩, ⟨⟨x', ?_⟩, hst'.1.at fun o q => (sb.2 it (Ne.symm hne)).trans q, hne⟩, fun b hb => ?_⟩
    · have e1 : ((i + 1 : Nat) : Int) = (i : Int) + 1 := by omega
      rw [e1]
      exact he'
    · have hb' : b < s.heap.objs.size := by
        have e' : b = e ∨ b = it := by simpa using hb
        rcases e' with z | z
        · rw [z]; exact hel
        · rw [z]; exact hil
      rw [upd_ne (Nat.ne_of_lt hb')]
      exact (hf b hb).1
  done := by
    intro X hP hw hK hc i pins s σ H E I hf st hg
    subst hP hw hK
    obtain ⟨⟨old, he⟩, hit, hne⟩ := st
    obtain ⟨xs, hq, hx⟩ := hg
    obtain ⟨its, rv, p, hz⟩ := I.tuple hq
    obtain ⟨f0, f1, f2, f3, f4, f5⟩ := hf it (by simp)
    have hl := rv.length
    have hT0 : s.heap.IsTuple a its.toArray := p
    exact enum_endT (I.ok.hd hc) he hit hT0 (by simp; omega) fun h' eb => ⟨rfl, I.turned (t' := s.toks) (fun b o hb q => eb b o hb q) f0 f1 f3 f4 f5⟩
  self := fun A i s Q E st h => let ⟨⟨_, he⟩, _⟩ := st; wpAny_pyIter_enum he h
def iEnumG (K : PySem.W.Frag) (ta : TA) : TI := fun σ H R => ta σ H fun vs H1 => ∃ a xs, vs = [.ref a] ∧ ((SqL K H1 a xs ∧ R (Ite K a) H1) ∨ (SqT K H1 a xs ∧ R (IteT K a) H1))
theorem bt_enumerate : bootBuiltins "enumerate" = some (.type "enumerate") := by decide +kernel
theorem pi_enumG {X : Cx} {e : Expr} {ta : TA} {p pos tpos : Pos} {elts : List Expr} {kk : Nat} (hg : Gl X "enumerate") (hm : X.mg "enumerate" = none) (ha : PA X [e] ta) (hs : starEach [e] X.env = [(false, eval e X.env)] := by rfl) :
    PI X (.Tuple elts kk tpos) (.Call (.Name "enumerate" p) [e] [] pos) (iEnumG X.K ta) := by
  refine ⟨fun pins s σ H R I h => ?_⟩
  refine Call_ (ld_blt I hg hm bt_enumerate (PyProof.Rows.callWith_type1 (thn (ha.run pos pins s σ H _ I h) fun us s1 ⟨vs, H1, I1, r1, q1⟩ => ?_) hs rfl))
  obtain ⟨a, xs, rfl, q⟩ := q1
  obtain rfl := Vals.ref1 r1
  have fp : ∀ b ∈ [s1.heap.objs.size + 1, s1.heap.objs.size], FpOk X pins H1 b := fun b hb => by
    have hle : s1.heap.objs.size ≤ b := by
      rcases (show b = s1.heap.objs.size + 1 ∨ b = s1.heap.objs.size by simpa using hb) with z | z <;> omega
    exact I1.fpOk hle (I1.hok.fresh hle)
  rcases q with ⟨hq, q⟩ | ⟨hq, q⟩
  · obtain ⟨its, rv, p', hz⟩ := I1.list hq
    refine call_enumerate_list p'.isList fun h' he hit hsz hk => wpAny_pyIter_enum he ?_
    have I2 : Inv X pins σ H1 { s1 with heap := h' } := I1.kept (t' := s1.toks) hk
    exact ⟨s1.heap.objs.size + 1, [s1.heap.objs.size + 1, s1.heap.objs.size], _, _, H1, rfl, I2, turn_enum a (s1.heap.objs.size + 1) s1.heap.objs.size, ⟨⟨.none, he⟩, hit, Nat.succ_ne_self _⟩, fp, q⟩
  · obtain ⟨its, rv, p', hz⟩ := I1.tuple hq
    have hT0 : s1.heap.IsTuple a its.toArray := p'
    have hal : a < s1.heap.objs.size := by
      obtain ⟨o, ho, _⟩ := hT0
      exact Heap.lt_size ho
    refine call_enumT hT0 fun h' he hit hsz hk => wpAny_pyIter_enum he ?_
    have I2 : Inv X pins σ H1 { s1 with heap := h' } := I1.kept (t' := s1.toks) hk
    exact ⟨s1.heap.objs.size + 1, [s1.heap.objs.size + 1, s1.heap.objs.size], _, _, H1, rfl, I2, turn_enumT a (s1.heap.objs.size + 1) s1.heap.objs.size (Nat.ne_of_lt hal) (Nat.ne_of_lt (Nat.lt_succ_of_lt hal)), ⟨⟨.none, he⟩, hit, Nat.succ_ne_self _⟩, fp, q⟩
/-- a loop over enumerate of a list or tuple that stays -/
theorem for_enumG {K : PySem.W.Frag} {a : Addr} {xs : List V} {g : TG} {tb : TS} {D : Ends} {σ : L2.St} {H : Hp} {R : Prop} (hS : SqL K H a xs ∨ SqT K H a xs) (Pv : Nat → L2.St → Hp → Prop) (h0 : Pv 0 σ H) (hk : ∀ i σ' H', Pv i σ' H' → Mv [] H H')
    (hs : ∀ i x T σ' H', xs[i]? = some x → Pv i σ' H' → H' T = none → g (.ref T) σ' (upd H' T (.tup [.int (i : Nat), x])) fun σ2 H2 => tb { D with nx := Pv (i + 1), ct := Pv (i + 1), bk := D.nx } σ2 H2) (hd : ∀ σ' H', Pv xs.length σ' H' → D.nx σ' H') :
    (SqL K H a xs ∧ ∃ W : Nat → Nat → L2.St → Hp → Prop, (∃ m, W 0 m σ H) ∧ ∀ i m σ H, W i m σ H →
      ((Ite K a).stop i H ∧ D.nx σ H) ∨ ((Ite K a).go i H ∧ ∃ N : L2.St → Hp → Prop, (∀ σ' H', N σ' H' → ∃ m', m' < m ∧ W (i + 1) m' σ' H') ∧ ∀ x H', (Ite K a).yld i H x H' → g x σ H' fun σ2 H2 => tb { D with nx := N, ct := N, bk := D.nx } σ2 H2)) ∨
    (SqT K H a xs ∧ ∃ W : Nat → Nat → L2.St → Hp → Prop, (∃ m, W 0 m σ H) ∧ ∀ i m σ H, W i m σ H →
      ((IteT K a).stop i H ∧ D.nx σ H) ∨ ((IteT K a).go i H ∧ ∃ N : L2.St → Hp → Prop, (∀ σ' H', N σ' H' → ∃ m', m' < m ∧ W (i + 1) m' σ' H') ∧ ∀ x H', (IteT K a).yld i H x H' → g x σ H' fun σ2 H2 => tb { D with nx := N, ct := N, bk := D.nx } σ2 H2)) := by
  rcases hS with hS | hS
  · refine .inl ⟨hS, fun i m σ H => m = xs.length - i ∧ i ≤ xs.length ∧ Pv i σ H, ⟨xs.length, by simp, Nat.zero_le _, h0⟩, ?_⟩
    rintro i m σ H ⟨rfl, hi, p⟩
    have q := (hk i σ H p).same.seq hS
    by_cases hlt : i < xs.length
    · refine .inr ⟨⟨xs, xs[i], q, by simp [hlt]⟩, Pv (i + 1), fun σ' H' p' => ⟨xs.length - (i + 1), by omega, rfl, hlt, p'⟩, fun x H' y => ?_⟩
      obtain ⟨T, x', rfl, hT, rfl, y⟩ := y
      exact hs i x' T σ _ (y xs q) p hT
    · have e : i = xs.length := by omega
      subst e
      exact .inl ⟨⟨xs, q, Nat.le_refl _⟩, hd σ H p⟩
  · refine .inr ⟨hS, fun i m σ H => m = xs.length - i ∧ i ≤ xs.length ∧ Pv i σ H, ⟨xs.length, by simp, Nat.zero_le _, h0⟩, ?_⟩
    rintro i m σ H ⟨rfl, hi, p⟩
    have q := (hk i σ H p).sqT hS
    by_cases hlt : i < xs.length
    · refine .inr ⟨⟨xs, xs[i], q, by simp [hlt]⟩, Pv (i + 1), fun σ' H' p' => ⟨xs.length - (i + 1), by omega, rfl, hlt, p'⟩, fun x H' y => ?_⟩
      obtain ⟨T, x', rfl, hT, rfl, y⟩ := y
      exact hs i x' T σ _ (y xs q) p hT
    · have e : i = xs.length := by omega
      subst e
      exact .inl ⟨⟨xs, q, Nat.le_refl _⟩, hd σ H p⟩
end Fm
namespace Fm
open PySem PySem.Spec PyProof.Rows L2 SlX
section
variable {X : Cx}
/-- dict(d) -/
def rDictD : List V → Hp → VK → Prop := fun xs H Q => ∃ (a : Addr) (kvs : List (L2.Key × V)), xs = [.ref a] ∧ H a = some (.dK kvs) ∧ ∀ p, H p = none → Q (.ref p) (upd H p (.dK kvs))
theorem call_dictD : CallR X (.type "dict") rDictD := by
  intro pins s σ H xs us Q I r h
  obtain ⟨a, kvs, rfl, ha, q⟩ := h
  obtain rfl := Vals.ref1 r
  obtain ⟨z, hd, vs, kv, hD⟩ := dk_of I.hok ha
  refine PySem.kt_call_dict hd hD (by rw [← kv.length]; exact z) fun h' hm hs => ?_
  have hk : ∀ b o, s.heap.get? b = some o → h'.get? b = some o := fun b o e => (hs.2 b (Nat.ne_of_lt (Heap.lt_size e))).trans (Heap.get?_push_of_some _ e)
  have hm' : (s.heap.objs.size == sysModules) = false := beq_eq_false_iff_ne.mpr (Nat.ne_of_gt I.big)
  exact ⟨.ref s.heap.objs.size, _, I.laid (t' := s.toks) hk (Nat.le_refl _) (show ObjOk X.prog X.w _ _ _ (.dK kvs) from ⟨z, hm', vs, kv, hm⟩), rfl, q _ (I.hok.fresh (Nat.le_refl _))⟩
/-- len(set(x)), x a list or tuple of ints -/
def tLenSetG (K : PySem.W.Frag) (ta : TE) : TE := fun σ H Q => ta σ H fun x H1 => ∃ (l : Addr) (ns : List Int), x = .ref l ∧ (SqL K H1 l (ns.map V.int) ∨ SqT K H1 l (ns.map V.int)) ∧ ns.length ≤ 4000 ∧
  ∀ ks : List Int, ks.Nodup → (∀ k, k ∈ ks ↔ k ∈ ns) → Q (.int ks.length) H1
theorem pe_lenSetG {a : Expr} {ta : TE} {p p2 q pos : Pos} (hc : X.calm = true) (hg : Gl X "len") (hm : X.mg "len" = none) (hg2 : Gl X "set") (hm2 : X.mg "set" = none) (ha : PE X a ta)
    (na : starEach [a] X.env = (false, eval a X.env) :: starEach [] X.env := by rfl) : PE X (.Call (.Name "len" p) [.Call (.Name "set" p2) [a] [] q] [] pos) (tLenSetG X.K ta) := by
  refine ⟨fun pins s σ H Q I h => ?_⟩
  refine Call_ (ld_blt I hg hm PySem.boot_len ?_)
  refine PyProof.Rows.callWith_builtin1 (PyProof.Rows.args_cons ?_ rfl) rfl rfl
  refine Call_ (ld_blt I hg2 hm2 PyProof.Rows.boot_set ?_)
  refine PyProof.Rows.callWith_type1 (PyProof.Rows.args_cons (thn (ha.run pins s σ H _ I h) fun v s1 ⟨x, H1, I1, r1, q1⟩ => PyProof.Rows.args_nil ?_) na) na rfl
  obtain ⟨l, ns, rfl, hq, hl, q1⟩ := q1
  cases r1
  have hb : ns.length + 1 < scanBound := Nat.lt_of_le_of_lt (Nat.succ_le_succ hl) (by decide)
  have fin : ∀ (h' : Heap) (tk c : Nat), SetR X.w h' s1.heap.objs.size (fun j => decide (j ∈ ns)) c → (∀ b o, s1.heap.get? b = some o → h'.get? b = some o) →
      wpAny (model X.prog X.w) X.A (call (.builtin "len") [.ref s1.heap.objs.size]) (EP X pins σ Q) X.xe { s1 with heap := h', toks := tk } := by
    intro h' tk c R hk
    have I2 : Inv X pins σ H1 { s1 with heap := h', toks := tk } := I1.kept hk
    obtain ⟨o, es, ep, t, ho, hex, hd, h4, h5, h6, h7, h8, h9, h10⟩ := id R
    have hle : (es.toList.map keyOf).length = es.size := by rw [List.length_map, Array.length_toList]
    have hbd : (es.size : Int) < 2 ^ 63 := by
      have : scanBound < 2 ^ 62 := by decide
      omega
    refine PySem.call_len_set ho hex hd h8 hbd ⟨.int es.size, H1, I2.tok _, ⟨_, rfl⟩, ?_⟩
    have := q1 (es.toList.map keyOf) h5 fun k => by rw [← h6 k]; simp
    rw [hle] at this
    exact this
  rcases hq with hq | hq
  · obtain ⟨its, r, pl, hz⟩ := I1.list hq
    refine set_of_list ns (I1.ok.hd hc) pl.isList (by simpa using r.ints) hb fun h' tk c R hk => ?_
    exact PyProof.Rows.args_nil (fin h' tk c R hk)
  · obtain ⟨its, r, pl, hz⟩ := I1.tuple hq
    refine call_set_tupI ns (I1.ok.hd hc) (show s1.heap.IsTuple l its.toArray from pl) (by simpa using r.ints) hb fun h' tk c R _ hk => ?_
    exact PyProof.Rows.args_nil (fin h' tk c R hk)
/-- o.f = value as a target -/
def gSl (K : PySem.W.Frag) (to : TE) (f : Str) : TG := fun y σ H Q => to σ H fun x H2 => ∃ a C dx p vs i, x = .ref a ∧ Slt H2 a C dx vs ∧ SCls K C ∧ Slot1 K C f p i ∧ Q σ (slH H2 a C dx (putS i y vs))
theorem pg_sl {o : Expr} {to : TE} {f : Str} {pos : Pos} (ho : PE X o to) (ha : ∀ v, assign (.Attribute o f pos) X.env v = (do
      let ov ← holding [v] (eval o X.env)
      standAt pos.atName
      holding [v, ov] (setAttr ov f v)
      release [v, ov] []) := by intro _; rfl) : PG X (.Attribute o f pos) (gSl X.K to f) := by
  refine ⟨fun pins s σ H v u Q I r h => ?_⟩
  rw [ha]
  refine wpAny_bind (wpAny_holding (thn (ho.run pins s σ H _ I h) fun ov s1 ⟨x, H1, I1, r1, a, C, dx, p, vs, i, ex, hs, hc, ht, q1⟩ => ?_))
  subst ex
  obtain rfl : ov = Value.ref a := r1
  refine wpAny_bind (wpAny_standAt (wpAny_bind (wpAny_holding (setslot_ok I1 hs hc ht r fun s2 I2 => ?_))))
  exact wpAny_release ⟨σ, _, I2, q1⟩
end
theorem bt_ValueError : bootBuiltins "ValueError" = some (.type "ValueError") := by decide +kernel
theorem bt_min : bootBuiltins "min" = some (.builtin "min") := by decide +kernel
theorem fnR_of {P : Program} {w : World} {K : PySem.W.Frag} {mg : Str → Option Value} {base : Heap} {CX : CXT} {k : Nat} {f : Addr} {fd : FuncData} {ps : List Str} {sp : Sp} (F : FnOk P w K mg base CX k f fd ps sp) (b : Binds K fd ps []) : FnR P w K mg base CX k f sp := by
  intro A outer s H us vs Q E hr e0 r h
  have hl : us.length = ps.length := by rw [← r.length]; exact F.len _ _ _ _ h
  have kin : K.In s.heap := e0.mod.kin.keeps fun b o e => (e0.bs b o e).1
  have b' := b s us kin (by rw [List.append_nil]; exact hl)
  rw [List.append_nil] at b'
  exact F.run A outer s H ⟨us, []⟩ us vs Q E hr e0 b' r h
section
variable {X : Cx} {CX : CXT} {k : Nat} {C g : Addr} {fd : FuncData} {ps : List Str} {sp : Sp} {E : L2.St → XK} {m : Str} {pos apos : Pos} {e o : Expr} {es : List Expr} {ta : TE} {t : TA}
/-- o.m(..) where what is raised is wished for at the slots -/
def tMethSlS (C : Addr) (sp : Sp) (E : L2.St → XK) (ta : TE) (t : TA) : TE := fun σ H Q => ta σ H fun x H1 => ∃ a dx vs, x = .ref a ∧ Slt H1 a C dx vs ∧ t σ H1 fun ws H2 => sp (x :: ws) H2 Q (E σ)
theorem pe_methSlS {pl : Sem Bool} (he : PE X o ta) (c : SCls X.K C) (hm : Meth X.K C m g) (F : FnOk X.prog X.w X.K X.mg X.base CX k g fd ps sp) (hr : Room k X.A) (hb : Binds X.K fd ps []) (hx : ∀ σ, PassesAt CX X σ (E σ)) (ha : PA X (e :: es) t)
    (hst : starEach (e :: es) X.env = (false, eval e X.env) :: starEach es X.env := by rfl) (hpl : (backTo pos (starEach es X.env)).any (·.1) = false := by rfl)
    (ht : eval (.Call (.Attribute o m apos) (e :: es) [] pos) X.env = (do
      let ov ← eval o X.env
      standAt apos.atName
      let (f, first) ← holding [ov] (getMethod ov m pl)
      callWith pos f first (backTo pos (starEach (e :: es) X.env)) (backToKw pos (keywordEach [] X.env))) := by rfl) :
    PE X (.Call (.Attribute o m apos) (e :: es) [] pos) (tMethSlS C sp E ta t) := by
  refine ⟨fun pins s σ H Q I h => ?_⟩
  refine PySem.W.methodCall_KW (pl := pl) (thn (he.run pins s σ H _ I h) fun u s1 ⟨x, H1, I1, rx, a, dx, vs, ex, hsl, q⟩ => ?_) ht
  subst ex
  obtain rfl : u = Value.ref a := rx
  refine getmethsl_ok I1 hsl c hm ?_
  refine PySem.W.callWith_K (first := [.ref a]) (h₀ := X.base) I.ok.mod.kin hm.kp (thn (ha.run pos pins s1 σ H1 _ I1 q) fun us s2 ⟨ws, H2, I2, r, q2⟩ => ⟨I2.kIn, ?_⟩) hst hpl
  exact run_fnS (us := .ref a :: us) (vs := .ref a :: ws) F hr hb (hx σ) I2 (.cons rfl r) q2
end
section
variable {X : Cx}
/-- sorted: a dict's text keys, texts, ints -/
def rSortDk : List V → Hp → VK → Prop := fun xs H Q => ∃ (a : Addr) (kvs : List (L2.Key × V)) (ks : List Str), xs = [.ref a] ∧ Rd H a (.dK kvs) ∧ kvs.map (·.1) = ks.map Sum.inr ∧ ks.length < 64 ∧ ∀ ys p, ys.Perm ks → sortedS ys = true → H p = none → Q (.ref p) (upd H p (.lst (ys.map V.str)))
def rSortA (K : PySem.W.Frag) : List V → Hp → VK → Prop := fun xs H Q => rSortDk xs H Q ∨ (rSortedS K xs H Q ∨ rSorted K xs H Q)
theorem cr_sortA (hc : X.calm = true) : CallR X (.builtin "sorted") (rSortA X.K) := CallR.or (call_sortedD hc) (CallR.or cr_sortedS cr_sorted)
def rDictP (K : PySem.W.Frag) : List V → Hp → VK → Prop := fun xs H Q => ∃ (a : Addr) (ps : List Addr) (kvs : List (L2.Key × V)), xs = [.ref a] ∧ SqL K H a (ps.map V.ref) ∧ Paired (fun p kv => SqT K H p [kV kv.1, kv.2]) ps kvs ∧ ∀ p, H p = none → Q (.ref p) (upd H p (.dK (mergeK [] kvs)))
def rDictG (K : PySem.W.Frag) : List V → Hp → VK → Prop := fun xs H Q => rDictP K xs H Q ∨ rDictD xs H Q
theorem call_dictG (hc : X.calm = true) : CallR X (.type "dict") (rDictG X.K) := CallR.or (call_dictP hc) call_dictD
def rListG (K : PySem.W.Frag) : List V → Hp → VK → Prop := fun xs H Q => rListOf K xs H Q ∨ rListD xs H Q
theorem call_listA (hc : X.calm = true) : CallR X (.type "list") (rListG X.K) := CallR.or call_listG (call_list_dK hc)
end
theorem kitOne_self {K : PySem.W.Frag} (C : Addr) : PySem.W.kitOne K (.ref C) (.ref C) = some true := by
  unfold PySem.W.kitOne
  rw [if_pos (by simp)]
end Fm
/-! != of an instance whose class has an __eq__ of its own alone -/
namespace Fm
open PySem PySem.Spec PyProof.Rows L2 SlX
section
variable {prog : Program} {w : PySem.World} {A : Around} {E : Value → Shared → Prop} {s : Shared} {K : PySem.W.Frag} {x C f : Addr} {ox : Obj} {od : Option Obj} {b tb : Value}
theorem objNe (X : K.In s.heap) (I : PySem.W.InstAt s.heap x ox C od) (he : PySem.W.findIn K (.ref C) "__eq__" = some (some (.ref f))) (hf : PySem.W.isFn K (.ref f) = true) (hu : A.units < cLine) {Q : PySem.Fin → Shared → Prop}
    (hc : wpAny (model prog w) A (call (.ref f) [.ref x, b]) (fun v s' => ∃ k, v = .bool k ∧ Q (.done (.ret (.bool (!k)))) s') E s) : wpAny (model prog w) A (Builtin.«object.__ne__» ⟨[.ref x, b], []⟩) Q E s := by
  unfold Builtin.«object.__ne__»
  repeat (first
    | with_reducible refine wpAny_cRoomFor hu ?_
    | (refine wpAny_bind (m := callSpecialIfBound? (.ref x) (Str.ofString "__eq__") [b]) (PySem.W.ifBound_K X I he hf (wpAny_mono hc (fun r s' hr => by
          obtain ⟨k, rfl, q⟩ := hr
          repeat (first | exact q | exact wpAny_pure q | exact wpAny_truthy_bool q | (refine wpAny_bind (m := truthy (.bool _)) (wpAny_truthy_bool ?_)) | wp_step)) fun _ _ z => z)))
    | wp_step)
theorem ne_own {Q : Value → Shared → Prop} (hu : A.units + 1 < cLine) (X : K.In s.heap) (I : PySem.W.InstAt s.heap x ox C od) (hb : PySem.W.Looks (model prog w) s.heap (typeOf b) tb) (hn : PySem.W.notFirst K C tb = true)
    (hs : PySem.W.findIn K (.ref C) "__ne__" = some (some (.builtin "object.__ne__"))) (hm : PySem.W.mroIn K C (.type "object") = some true) (he : PySem.W.findIn K (.ref C) "__eq__" = some (some (.ref f))) (hf : PySem.W.isFn K (.ref f) = true)
    (h : wpAny (model prog w) A.in1 (call (.ref f) [.ref x, b]) (fun v s' => ∃ k, v = .bool k ∧ Q (.bool (!k)) s') E s) : wpAny (model prog w) A (richCompare .NotEq (.ref x) b) Q E s := by
  have sub : PySem.W.Looks (model prog w) s.heap (isInstance (.ref x) (.type "object")) true := I.type.andThen (PySem.W.looks_mroIn X hm)
  have body : wpAny (model prog w) A (call (.builtin "object.__ne__") [.ref x, b]) (fun v s' => v ≠ .notImplemented ∧ Q v s') E s := by
    refine wpAny_call (codeAny_call_builtin PySem.F.cmp_object.ne.plain PySem.F.cmpEntry_ne (@PySem.W.check_slot (model prog w) _ _ s "object.__ne__" "object" "__ne__" (.ref x) [b] [] _ PySem.F.cmpKind_ne PySem.F.cmpSplit_ne sub (PySem.F.cmpArgs_ne _ _) ?_))
    refine objNe (A := A.in1) X I he hf hu (wpAny_mono h (fun v s' hv => ?_) fun _ _ z => z)
    obtain ⟨k, rfl, q⟩ := hv
    exact ⟨k, rfl, (fun z => nomatch z), q⟩
  have one : wpAny (model prog w) A (tryCompare (.ref x) (cmpInfo .NotEq).2.1 b) (fun r s' => ∃ v, r = some v ∧ Q v s') E s := by
    unfold tryCompare
    refine wpAny_bind ?_
    simp only [callSpecialIfBound?, bindSpecialIfBound?]
    refine wpAny_holding (wpAny_bind (wpAny_bind (wpAny_bind (I.type.here ((PySem.W.looks_findIn X (show PySem.W.findIn K (.ref C) (cmpInfo .NotEq).2.1 = _ from hs)).here ?_)))))
    refine wpAny_bind (wpAny_askSetting (wpAny_ite ?_))
    split
    · rw [PySem.F.cmp_object.ne.bind]
      refine wpAny_bind (wpAny_pure (wpAny_pure ?_))
      show wpAny _ _ (call (.builtin "object.__ne__") [.ref x, b] >>= _) _ _ _
      refine wpAny_bind (wpAny_mono body (fun v s' hv => wpAny_pure ?_) fun _ _ z => z)
      obtain ⟨h1, h2⟩ := hv
      cases v <;> first | exact absurd rfl h1 | exact wpAny_pure ⟨_, rfl, h2⟩
    · rw [PySem.F.cmp_object.ne.bind]
      refine wpAny_tryCatch (wpAny_bind (wpAny_pure (wpAny_pure ?_)))
      show wpAny _ _ (call (.builtin "object.__ne__") [.ref x, b] >>= _) _ _ _
      refine wpAny_bind (wpAny_mono body (fun v s' hv => wpAny_pure ?_) fun _ _ z => z)
      obtain ⟨h1, h2⟩ := hv
      cases v <;> first | exact absurd rfl h1 | exact wpAny_pure ⟨_, rfl, h2⟩
  unfold richCompare
  simp only [oneThing_ref]
  refine wpAny_holding (wpAny_bind (wpAny_cRoomFor (Nat.lt_of_succ_lt hu) (wpAny_bind (I.type.here (wpAny_bind (hb.here ?_))))))
  split
  · rename_i q
    have e : PySem.W.subIn K tb (.ref C) = some false := by
      rcases Bool.or_eq_true_iff.mp hn with e | e
      · rw [beq_iff_eq.mp e] at q
        simp at q
      · exact beq_iff_eq.mp e
    refine wpAny_bind ((PySem.W.looks_subIn X e).here ?_)
    simp only [Bool.false_eq_true, if_false]
    refine wpAny_bind (wpAny_mono one (fun r s' z => ?_) fun _ _ z => z)
    obtain ⟨v, rfl, hq⟩ := z
    exact wpAny_pure hq
  · refine wpAny_bind (wpAny_pure ?_)
    simp only [Bool.false_eq_true, if_false]
    refine wpAny_bind (wpAny_mono one (fun r s' z => ?_) fun _ _ z => z)
    obtain ⟨v, rfl, hq⟩ := z
    exact wpAny_pure hq
end
section
variable {X : Cx} {CX : CXT} {pins : List (Addr × Obj)} {σ : L2.St} {H : Hp} {s : Shared} {C g : Addr} {n : Nat} {sp : Sp} {E : XK}
/-- what may stand at the other side -/
def Oth (K : PySem.W.Frag) (H : Hp) (C : Addr) (y : V) : Prop := (∃ b C' dy ws, y = .ref b ∧ Slt H b C' dy ws ∧ PySem.W.notFirst K C (.ref C') = true) ∨ ∃ tb, TyX K H y tb ∧ PySem.W.notFirst K C tb = true
theorem Oth.looks {y : V} {u : Value} (I : Inv X pins σ H s) (ry : RelV y u) (h : Oth X.K H C y) : ∃ tb, PySem.W.Looks (model X.prog X.w) s.heap (typeOf u) tb ∧ PySem.W.notFirst X.K C tb = true := by
  rcases h with ⟨b, C', dy, ws, rfl, hb, hn⟩ | ⟨tb, ht, hn⟩
  · cases (show u = Value.ref b from ry)
    obtain ⟨sl, od, _, J, _⟩ := slt_inst I hb
    exact ⟨_, J.type, hn⟩
  · obtain ⟨P, kx, hp, _⟩ := kit_of I ry ht
    exact ⟨tb, kx.ty _ _ I.kIn hp, hn⟩
def rOwnG (K : PySem.W.Frag) (C : Addr) (sp : Sp) (E : XK) : R2 := fun x y H Q => ∃ a dx vs, x = .ref a ∧ Slt H a C dx vs ∧ Oth K H C y ∧ sp [x, y] H Q E
theorem op_ownG (hs : PySem.W.findIn X.K (.ref C) "__eq__" = some (some (.ref g))) (hf : PySem.W.isFn X.K (.ref g) = true) (F : FnR X.prog X.w X.K X.mg X.base CX n g sp)
    (hr : Room n X.A) (hx : Passes CX X E) : OpR X (compareOp .Eq) (rOwnG X.K C sp E) := by
  intro pins s σ H x y v u Q I rx ry h
  obtain ⟨a, dx, vs, rfl, ha, ho, q⟩ := h
  cases (show v = Value.ref a from rx)
  obtain ⟨sl, od, _, J, _⟩ := slt_inst I ha
  obtain ⟨tb, L, hn⟩ := ho.looks I ry
  obtain ⟨m, hF⟩ := I.fr
  refine PySem.W.cmp_K (op := .Eq) (tb := tb) hr.units0 hF I.ok.mod.kin J L hn hs hf ?_
  refine wpAny_mono (wpAny_call (run_fnR (us := [.ref a, u]) (vs := [.ref a, y]) F hr hx I (.cons rfl (.cons ry .nil)) q)) (fun w s' z => ?_) fun _ _ x => x
  obtain ⟨z', H', I', rz, qz⟩ := z
  exact cmpback rz ⟨z', H', I', rz, qz⟩
def rNeOwn (K : PySem.W.Frag) (C : Addr) (sp : Sp) (E : XK) : R2 := fun x y H Q => ∃ a dx vs, x = .ref a ∧ Slt H a C dx vs ∧ Oth K H C y ∧ sp [x, y] H (fun z H' => ∃ k, z = .bl k ∧ Q (.bl (!k)) H') E
theorem op_neOwn (hne : PySem.W.findIn X.K (.ref C) "__ne__" = some (some (.builtin "object.__ne__"))) (hm : PySem.W.mroIn X.K C (.type "object") = some true) (hs : PySem.W.findIn X.K (.ref C) "__eq__" = some (some (.ref g))) (hf : PySem.W.isFn X.K (.ref g) = true)
    (F : FnR X.prog X.w X.K X.mg X.base CX n g sp) (hr : Room (n + 1) X.A) (hx : Passes CX X E) : OpR X (compareOp .NotEq) (rNeOwn X.K C sp E) := by
  intro pins s σ H x y v u Q I rx ry h
  obtain ⟨a, dx, vs, rfl, ha, ho, q⟩ := h
  cases (show v = Value.ref a from rx)
  obtain ⟨sl, od, _, J, _⟩ := slt_inst I ha
  obtain ⟨tb, L, hn⟩ := ho.looks I ry
  have hu : X.A.units + 1 < cLine := by have := hr.un; omega
  refine ne_own (tb := tb) hu I.kIn J L hn hne hm hs hf ?_
  refine wpAny_mono (wpAny_call (run_at (us := [.ref a, u]) (ws := [.ref a, y]) F (Room.in1 hr) I.env0.in1 hx I (.cons rfl (.cons ry .nil)) q)) (fun w s' z => ?_) fun _ _ x => x
  obtain ⟨z', H', I', rz, k, ek, qz⟩ := z
  subst ek
  cases (show w = Value.bool k from rz)
  exact ⟨k, rfl, .bl (!k), H', I', rfl, qz⟩
end
end Fm
/-! x * y of two instances of one class with slots that has a __mul__ of its own -/
namespace Fm
open PySem PySem.Spec PyProof.Rows L2 SlX
section
variable {prog : Program} {w : PySem.World} {A : Around} {E : Value → Shared → Prop} {s : Shared} {K : PySem.W.Frag} {x y C f : Addr} {ox oy : Obj} {od ody : Option Obj}
theorem special_own {name : Str} {args : List Value} {Q : Option Value → Shared → Prop} (X : K.In s.heap) (I : PySem.W.InstAt s.heap x ox C od) (hs : PySem.W.findIn K (.ref C) name = some (some (.ref f))) (hf : PySem.W.isFn K (.ref f) = true)
    (h : wpAny (model prog w) A (call (.ref f) (.ref x :: args)) (fun v => Q (some v)) E s) : wpAny (model prog w) A (callSpecial? (.ref x) name args) Q E s := by
  simp only [callSpecial?]
  unfold specialOf
  refine wpAny_bind (wpAny_bind (I.type.here ((PySem.W.looks_findIn X hs).here ?_)))
  refine wpAny_holding (wpAny_bind ((PySem.W.bind_fn X _ (beq_iff_eq.mp hf)).here (wpAny_bind (wpAny_mono h (fun v s' h' => wpAny_pure h') fun _ _ h' => h'))))
/-- what of the text it takes -/
structure MulC (K : PySem.W.Frag) (C f : Addr) : Prop where
  self : PySem.W.selfFirst K C = true
  find : PySem.W.findIn K (.ref C) "__mul__" = some (some (.ref f))
  fn : PySem.W.isFn K (.ref f) = true
theorem MulC.cls (h : MulC K C f) : ∃ cd rest, PySem.W.clsIn K C = some cd ∧ cd.mro = .ref C :: rest := by
  have h1 := h.self
  unfold PySem.W.selfFirst at h1
  cases e : PySem.W.clsIn K C with
  | none =>
    rw [e] at h1
    cases h1
  | some cd =>
    rw [e] at h1
    have h2 : cd.mro.head? = some (.ref C) := by simpa using h1
    cases e2 : cd.mro with
    | nil =>
      rw [e2] at h2
      cases h2
    | cons c rest =>
      rw [e2] at h2
      cases h2
      exact ⟨cd, rest, rfl, e2⟩
theorem fills_own (X : K.In s.heap) (h : MulC K C f) : PySem.W.Looks (model prog w) s.heap (fillsNumberSlot (.ref C) "mul") true := by
  obtain ⟨cd, rest, hc, hm⟩ := h.cls
  have hmro : PySem.W.Looks (model prog w) s.heap (mroOf (.ref C)) cd.mro := (PySem.W.looks_clsIn X hc).andThen .now
  unfold fillsNumberSlot
  simp only []
  refine hmro.andThen ?_
  rw [hm]
  simp only [List.anyM]
  have hd : dunder "mul" = (Str.ofString "__mul__") := by first | rfl | decide +kernel
  rw [hd]
  have h1 : PySem.W.Looks (model prog w) s.heap (typeLookup (.ref C) (Str.ofString "__mul__")) (some (.ref f)) := PySem.W.looks_findIn X h.find
  refine PySem.W.Looks.andThen (a := true) (PySem.W.Looks.andThen (a := true) (PySem.W.Looks.andThen h1 ?_) ?_) ?_
  · exact .now
  · exact .now
  · exact .now
theorem mul_own {Q : Value → Shared → Prop} (X : K.In s.heap) (I : PySem.W.InstAt s.heap x ox C od) (J : PySem.W.InstAt s.heap y oy C ody) (h : MulC K C f)
    (hc : wpAny (model prog w) A (call (.ref f) [.ref x, .ref y]) (fun v s' => v ≠ .notImplemented ∧ Q v s') E s) : wpAny (model prog w) A (binaryOp .Mult (.ref x) (.ref y)) Q E s := by
  unfold binaryOp
  refine wpAny_holding ?_
  simp only [Operator.info]
  refine wpAny_bind ?_
  unfold binaryOp1
  refine wpAny_bind (I.type.here (wpAny_bind (J.type.here (wpAny_bind ((fills_own X h).here ?_)))))
  simp only [beq_self_eq_true, if_true]
  refine wpAny_bind (wpAny_pure ?_)
  simp only [Bool.and_false, Bool.false_and, Bool.false_eq_true, if_false, Bool.not_false, Bool.and_true]
  refine wpAny_bind (wpAny_pure ?_)
  simp only [Bool.false_eq_true, if_false]
  have hd : dunder "mul" = (Str.ofString "__mul__") := by first | rfl | decide +kernel
  rw [hd]
  unfold tryMethod
  refine wpAny_bind (wpAny_bind (special_own X I h.find h.fn (wpAny_mono hc (fun v s' z => ?_) fun _ _ z => z)))
  obtain ⟨z1, z2⟩ := z
  cases v <;> first | exact absurd rfl z1 | exact wpAny_pure (wpAny_pure (wpAny_pure z2))
end
section
variable {X : Cx} {CX : CXT} {C g : Addr} {n : Nat} {sp : Sp} {E : XK}
def rMulOwn (K : PySem.W.Frag) (C : Addr) (sp : Sp) (E : XK) : R2 := fun x y H Q => ∃ a b dx dy vs ws, x = .ref a ∧ y = .ref b ∧ Slt H a C dx vs ∧ Slt H b C dy ws ∧ sp [x, y] H (fun z H' => (∃ r, z = .ref r) ∧ Q z H') E
theorem op_mulOwn (h : MulC X.K C g) (F : FnR X.prog X.w X.K X.mg X.base CX n g sp) (hr : Room n X.A) (hx : Passes CX X E) : OpR X (binaryOp .Mult) (rMulOwn X.K C sp E) := by
  intro pins s σ H x y v u Q I rx ry hq
  obtain ⟨a, b, dx, dy, vs, ws, rfl, rfl, ha, hb, q⟩ := hq
  cases (show v = Value.ref a from rx)
  cases (show u = Value.ref b from ry)
  obtain ⟨sl, od, _, J, _⟩ := slt_inst I ha
  obtain ⟨sl2, od2, _, J2, _⟩ := slt_inst I hb
  refine mul_own I.kIn J J2 h ?_
  refine wpAny_mono (wpAny_call (run_fnR (us := [.ref a, .ref b]) (vs := [.ref a, .ref b]) F hr hx I (.cons rfl (.cons rfl .nil)) q)) (fun w s' z => ?_) fun _ _ x => x
  obtain ⟨z', H', I', rz, ⟨r, rfl⟩, qz⟩ := z
  cases (show w = Value.ref r from rz)
  exact ⟨(fun e => nomatch e), .ref r, H', I', rfl, qz⟩
end
/-! ### x(..), x an instance whose class has a __call__ of its own -/
section
variable {prog : Program} {w : PySem.World} {A : Around} {E : Value → Shared → Prop} {s : Shared} {K : PySem.W.Frag} {x C f : Addr} {ox : Obj} {od : Option Obj}
theorem call_inst {us : List Value} {Q : Value → Shared → Prop} (X : K.In s.heap) (I : PySem.W.InstAt s.heap x ox C od) (hp : ox.data = .plain) (hs : PySem.W.findIn K (.ref C) "__call__" = some (some (.ref f))) (hf : PySem.W.isFn K (.ref f) = true) (hn : PySem.W.fnIn K f = true)
    (h : codeAny (model prog w) A (.call (.ref f) ⟨.ref x :: us, []⟩) (wants Q E) s) : wpAny (model prog w) A (call (.ref x) us) Q E s := by
  refine wpAny_call (codeAny_of_tree ?_)
  show wpAny _ _ (callAny (.ref x) _) _ _ _
  unfold callAny
  refine wpAny_bind (wpAny_load I.at_ ?_)
  rw [hp]
  simp only [callAny.viaDunder]
  unfold specialOf
  refine wpAny_bind (wpAny_bind (I.type.here ((PySem.W.looks_findIn X hs).here ?_)))
  refine wpAny_bind ((PySem.W.bind_fn X _ (beq_iff_eq.mp hf)).here ?_)
  simp only [callAny.plainCallee]
  unfold PySem.W.fnIn at hn
  split at hn
  · rename_i c d fd sl e
    refine wpAny_bind (wpAny_bind (wpAny_load (X _ _ e) (wpAny_pure ?_)))
    simp only [if_true]
    exact wpAny_pure ⟨rfl, h⟩
  · cases hn
theorem keeps_inst (hp : ox.data = .plain) (h : Heap) (I : h.get? x = some ox) : PySem.W.Looks (model prog w) h (keeperOf (.ref x)) .caller := by
  unfold keeperOf
  refine (PySem.W.Looks.ld (part := none) I).andThen ?_
  rw [hp]
  exact .now
end
section
variable {M : Model} {A : Around} {E : Value → Shared → Prop} {s : Shared}
theorem callWith_I {P : Heap → Prop} {f : Value} {pos : Pos} {args : List (Bool × Sem Value)} {Q : Value → Shared → Prop} (hplain : args.any (·.1) = false) (hk : ∀ h, P h → PySem.W.Looks M h (keeperOf f) Keeper.caller)
    (h : wpAny M A (evalArgs f true args []) (fun a s₁ => P s₁.heap ∧ wpAny M A (call f a.pos a.kw) Q E s₁) E s) : wpAny M A (callWith pos f [] args []) Q E s := by
  unfold callWith
  refine wpAny_bind (wpAny_holding (wpAny_mono h (fun a s₁ h₁ => wpAny_bind (wpAny_standAt ?_)) fun _ _ x => x))
  have L := hk _ h₁.1
  have hp : (args.any (·.1) || ([] : List (Option Str × Sem Value)).any (·.1.isNone)) = false := by rw [hplain]; rfl
  simp only [hp]
  refine wpAny_bind (L.here ?_)
  dsimp only
  refine wpAny_bind (wpAny_operate' (wpAny_mono h₁.2 (fun r s₂ hr => wpAny_bind (wpAny_holding (wpAny_point (wpAny_pure hr)))) fun _ _ x => x))
end
section
variable {X : Cx} {CX : CXT} {C g : Addr} {n : Nat} {sp : Sp} {E : XK}
def tCallI (C : Addr) (sp : Sp) (E : XK) (to : TE) (t : TA) : TE := fun σ H Q => to σ H fun x H1 => ∃ a, x = .ref a ∧ t σ H1 fun us H2 => ∃ dx vs, Slt H2 a C dx vs ∧ sp (.ref a :: us) H2 Q E
theorem pe_callI {o e : Expr} {to : TE} {t : TA} {pos : Pos} (hs : PySem.W.findIn X.K (.ref C) "__call__" = some (some (.ref g))) (hf : PySem.W.isFn X.K (.ref g) = true) (hn : PySem.W.fnIn X.K g = true) (F : FnR X.prog X.w X.K X.mg X.base CX n g sp) (hr : Room n X.A) (hx : Passes CX X E) (ho : PE X o to) (ha : PA X [e] t)
    (he0 : eval (.Call o [e] [] pos) X.env = (do callWith pos (← eval o X.env) [] (backTo pos (starEach [e] X.env)) (backToKw pos (keywordEach [] X.env))) := by rfl)
    (he : starEach [e] X.env = (false, eval e X.env) :: starEach [] X.env := by rfl) (hpl : (backTo pos (starEach [] X.env)).any (·.1) = false := by rfl) : PE X (.Call o [e] [] pos) (tCallI C sp E to t) := by
  refine ⟨fun pins s σ H Q I h => ?_⟩
  refine Call_ (thn (ho.run pins s σ H _ I h) fun u s1 ⟨x, H1, I1, r1, a, ex, q1⟩ => ?_) he0
  subst ex
  obtain rfl : u = Value.ref a := r1
  have hb : backTo pos (starEach [e] X.env) = (false, eval e X.env) :: backTo pos (starEach [] X.env) := by rw [he]; rfl
  rw [hb]
  refine callWith_I (P := fun h => ∃ ox, h.get? a = some ox ∧ ox.data = .plain) (by show (false || (backTo pos (starEach [] X.env)).any (·.1)) = false; rw [hpl]; rfl) (fun h hh => ?_) ?_
  · obtain ⟨ox, e1, e2⟩ := hh
    exact keeps_inst e2 h e1
  refine Calls.evalArgs_plain ?_
  rw [← hb]
  refine thn (ha.run pos pins s1 σ H1 _ I1 q1) fun us s2 ⟨vs, H2, I2, r2, dx, ws, hsl, q2⟩ => ?_
  obtain ⟨sl, od, _, J, _⟩ := slt_inst I2 hsl
  refine ⟨⟨_, J.at_, rfl⟩, ?_⟩
  refine call_inst I2.kIn J rfl hs hf hn ?_
  have hc := run_fnR (us := .ref a :: us) (vs := .ref a :: vs) F hr hx I2 (.cons rfl r2) q2
  exact hc
end
/-! ### repr(x), x an instance whose class has a __repr__ of its own -/
section
variable {X : Cx} {CX : CXT} {C g : Addr} {n : Nat} {fd : FuncData} {ps : List Str} {sp : Sp} {E : XK}
def rReprOwn (C : Addr) (sp : Sp) (E : XK) : List V → Hp → VK → Prop := fun xs H Q => ∃ a dx vs, xs = [V.ref a] ∧ Slt H a C dx vs ∧ sp [.ref a] H (fun z H' => (∃ t : Str, z = .str t) ∧ Q z H') E
theorem call_reprOwn (hs : PySem.W.findIn X.K (.ref C) "__repr__" = some (some (.ref g))) (hf : PySem.W.isFn X.K (.ref g) = true) (F : FnOkG X.prog X.w X.K X.mg X.base CX n g fd ps sp) (hb : Binds X.K fd ps []) (hgd : X.A.guards = some []) (hr : Room (n + 1) X.A) (hx : Passes CX X E) :
    CallR X (.builtin "repr") (rReprOwn C sp E) := by
  intro pins s σ H xs us Q I r h
  obtain ⟨a, dx, vs, rfl, hsl, q⟩ := h
  obtain ⟨u, rfl, ru⟩ := r.one
  cases (show u = Value.ref a from ru)
  obtain ⟨sl, od, _, J, _⟩ := slt_inst I hsl
  obtain ⟨m, hF⟩ := I.fr
  have hl : ([.ref a] : List Value).length = ps.length := by
    have := F.len _ _ _ _ q
    simpa using this
  refine PySem.W.repr_K (by have := (Room.in1 hr).un; omega) hF I.ok.mod.kin J hs hf (wpAny_mono (wpAny_call (codeAny_mono (F.run X.A.in1 X.stack s H ⟨[.ref a], []⟩ [.ref a] [.ref a] _ E hgd (Room.in1 hr) I.env0.in1 (by simpa using hb s [.ref a] I.kIn (by simpa using hl)) (.cons rfl .nil) q) (R' := fun r s' => match r with | .ok (.ret v) => EP X pins σ (fun z H' => (∃ t : Str, z = .str t) ∧ Q z H') v s' | .ok _ => False | .error e => X.xe e s') fun r s' hq => ?_)) (fun w s' z => ?_) fun _ _ x => x)
  · cases r with
    | error e => exact hx pins σ H s e s' I hq
    | ok fl =>
      cases fl with
      | ret u => exact I.after hq
      | next => exact False.elim hq
      | brk => exact False.elim hq
      | cont => exact False.elim hq
  · obtain ⟨z', H', I', rz, ⟨t, rfl⟩, qz⟩ := z
    obtain ⟨tk, rfl⟩ := rz
    exact ⟨.str t, H', I', ⟨tk, rfl⟩, qz⟩
end
/-! ### C.m(..), m a staticmethod of the class at C -/
structure SMet (K : PySem.W.Frag) (C : Addr) (mc : Value) (m : Str) (p g : Addr) : Prop where
  rd : ClX.CRead K C mc
  ty : PySem.W.typeIn K (.ref C) = some mc
  at_ : PySem.W.findCls K (.ref C) mc m = some (.get (.builtin "staticmethod.__get__") (.ref p) .none (.ref C))
  rc : ∃ rest, PySem.W.recIn K p "staticmethod" = some (.ref g :: rest)
  kp : PySem.W.keepIn K (.ref g) = true
def tSMeth (C : Addr) (sp : Sp) (E : XK) (ta : TE) (t : TA) : TE := fun σ H Q => ta σ H fun x H1 => x = .ref C ∧ t σ H1 fun vs H2 => sp vs H2 Q E
section
variable {X : Cx} {CX : CXT} {k : Nat} {C p g : Addr} {mc : Value} {sp : Sp} {E : XK} {o e : Expr} {es : List Expr} {m : Str} {pos apos : Pos} {ta : TE} {t : TA} {pl : Sem Bool}
theorem pe_smeth (he : PE X o ta) (c : SMet X.K C mc m p g) (F : FnR X.prog X.w X.K X.mg X.base CX k g sp) (hr : Room k X.A) (hx : Passes CX X E) (ha : PA X (e :: es) t)
    (hst : starEach (e :: es) X.env = (false, eval e X.env) :: starEach es X.env := by rfl) (hpl : (backTo pos (starEach es X.env)).any (·.1) = false := by rfl)
    (ht : eval (.Call (.Attribute o m apos) (e :: es) [] pos) X.env = (do
      let ov ← eval o X.env
      standAt apos.atName
      let (f, first) ← holding [ov] (getMethod ov m pl)
      callWith pos f first (backTo pos (starEach (e :: es) X.env)) (backToKw pos (keywordEach [] X.env))) := by rfl) :
    PE X (.Call (.Attribute o m apos) (e :: es) [] pos) (tSMeth C sp E ta t) := by
  refine ⟨fun pins s σ H Q I h => ?_⟩
  refine PySem.W.methodCall_KW (pl := pl) (thn (he.run pins s σ H _ I h) fun u s1 ⟨x, H1, I1, rx, ex, q⟩ => ?_) ht
  subst ex
  obtain rfl : u = Value.ref C := rx
  obtain ⟨rest, hrc⟩ := c.rc
  obtain ⟨mm, hF⟩ := I1.fr
  refine PySem.W.method_cls I1.kIn c.rd.ga (PySem.W.cls_sm hF I1.ok.mod.kin c.ty c.rd.rd c.at_ hrc rfl ?_)
  refine PySem.W.callWith_K (h₀ := X.base) I1.ok.mod.kin c.kp (thn (ha.run pos _ _ σ H1 _ (I1.tok _) q) fun us s3 ⟨vs, H2, I3, rv, q2⟩ => ⟨I3.kIn, ?_⟩) hst hpl
  exact wpAny_call (run_fnR F hr hx I3 rv q2)
end
/-! ### {e!r} of data in an f-string -/
def tFmtRD (K : PySem.W.Frag) (te : TE) : TE := fun σ H Q => te σ H fun x H1 => ∃ (a : Addr) (d : PyData), x = .ref a ∧ Dp K H1 (.ref a) d ∧ d.showable = true ∧ d.hasDict = false ∧ d.depth ≤ 60 ∧ d.shown.length ≤ sizeLine ∧ Q (.str d.shown) H1
section
variable {X : Cx}
theorem pe_fmtRD {e : Expr} {te : TE} {pos : Pos} (hg : X.A.guards = some []) (hu : X.A.units + 64 < cLine) (he : PE X e te) : PE X (.FormattedValue e 114 none pos) (tFmtRD X.K te) := by
  refine ⟨fun pins s σ H Q I h => ?_⟩
  refine wpAny_FormattedValue_repr (thn (he.run pins s σ H _ I h) fun v s1 hv => ?_)
  obtain ⟨x, H1, I1, r1, a, d, rfl, hd, hs, hn, hdp, hz, q⟩ := hv
  cases (show v = Value.ref a from r1)
  obtain ⟨as, R⟩ := Dp.reads I1 d (.ref a) _ hd rfl
  refine PySem.pyReprObj_of_reads R hs (fun c => by rw [hn] at c; cases c) hg (by omega) (fun _ _ e => e) (fun h' t tk hk => ?_) hz
  exact wpAny_formatField_str ⟨.str d.shown, H1, (I1.kept (h' := h') (t' := tk) hk), ⟨_, rfl⟩, q⟩ ⟨.str d.shown, H1, (I1.kept (h' := h') (t' := tk) hk).tok _, ⟨_, rfl⟩, q⟩ hz
end
/-! ### x * y where what __mul__ raises is wished for at the slots -/
section
variable {X : Cx} {CX : CXT} {C g : Addr} {k : Nat} {fd : FuncData} {ps : List Str} {sp : Sp} {E : L2.St → XK} {a b : Expr} {ta tb : TE} {pos : Pos}
def tMulS (C : Addr) (sp : Sp) (E : L2.St → XK) (ta tb : TE) : TE := fun σ H Q => ta σ H fun x H1 => tb σ H1 fun y H2 => ∃ p q dx dy vs ws, x = .ref p ∧ y = .ref q ∧ Slt H2 p C dx vs ∧ Slt H2 q C dy ws ∧ sp [.ref p, .ref q] H2 (fun z H' => (∃ r, z = .ref r) ∧ Q z H') (E σ)
theorem pe_mulS (h : MulC X.K C g) (F : FnOk X.prog X.w X.K X.mg X.base CX k g fd ps sp) (hr : Room k X.A) (hb : Binds X.K fd ps []) (hx : ∀ σ, PassesAt CX X σ (E σ)) (ha : PE X a ta) (hb2 : PE X b tb) : PE X (.BinOp a .Mult b pos) (tMulS C sp E ta tb) := by
  refine ⟨fun pins s σ H Q I hq => ?_⟩
  refine wpAny_BinOp (binT ha hb2 I hq fun v u s2 x y H2 I2 rx ry hq2 => ?_)
  obtain ⟨p, q, dx, dy, vs, ws, rfl, rfl, hp, hq', q2⟩ := hq2
  cases (show v = Value.ref p from rx)
  cases (show u = Value.ref q from ry)
  obtain ⟨sl, od, _, J, _⟩ := slt_inst I2 hp
  obtain ⟨sl2, od2, _, J2, _⟩ := slt_inst I2 hq'
  refine mul_own I2.kIn J J2 h ?_
  refine wpAny_mono (run_fnS (us := [.ref p, .ref q]) (vs := [.ref p, .ref q]) F hr hb (hx σ) I2 (.cons rfl (.cons rfl .nil)) q2) (fun w s' z => ?_) fun _ _ x => x
  obtain ⟨z', H', I', rz, ⟨r, rfl⟩, qz⟩ := z
  cases (show w = Value.ref r from rz)
  exact ⟨(fun e => nomatch e), .ref r, H', I', rfl, qz⟩
end
/-- a def by its place -/
theorem fnIn_of {K : PySem.W.Frag} {x q : Str} {st : Stmt} {f : Addr} {fd : FuncData} (F : Fun K x q st f fd) : PySem.W.fnIn K f = true := by
  obtain ⟨oc, od, kV, doc, pm, an, cdv, ct, osl, _, h, _⟩ := F.ex
  unfold PySem.W.fnIn
  rw [h]
structure StatAt (K : PySem.W.Frag) (C : Addr) (m q : Str) (st : Stmt) (ps : List Str) where
  f : Addr
  fd : FuncData
  F : Fun K m q st f fd
  p : Addr
  S : SMet K C (.type "type") m p f
  b : Binds K fd ps []
end Fm
/-! isinstance(x, (list, tuple)) where x may be an instance with slots; what is shown is a text -/
namespace Fm
open PySem PySem.Spec PyProof.Rows L2 SlX
/-- isinstance(x, (c1, c2, ..)), x an instance with slots or plain -/
def rIsiTX (K : PySem.W.Frag) : List V → Hp → VK → Prop := fun xs H Q => rIsiT K xs H Q ∨ ∃ (a C dx : Addr) (vs : List (Option V)) (tp : Addr) (cs : List V) (us : List Value) (b : Bool), xs = [.ref a, .ref tp] ∧ H tp = some (.tup cs) ∧ Paired ClsV cs us ∧ Slt H a C dx vs ∧ SCls K C ∧ SIsi K C ∧ PySem.W.kitAny K (.ref C) us = some b ∧ Q (.bl b) H
theorem call_isiTX {X : Cx} : CallR X (.builtin "isinstance") (rIsiTX X.K) := by
  intro pins s σ H xs us Q I r h
  rcases h with h | ⟨a, C, dx, vs, tp, cs, ws, b, rfl, hT, k, hsl, hc, hi, hk, q⟩
  · exact call_isiT pins s σ H xs us Q I r h
  · obtain ⟨u1, u2, rfl, r1, r2⟩ := r.two
    cases (show u1 = Value.ref a from r1)
    cases (show u2 = Value.ref tp from r2)
    obtain ⟨sl, od, _, J, _⟩ := slt_inst I hsl
    obtain ⟨_, its, rv, o, h1, h2, n, h3⟩ := (show ObjOk X.prog X.w H s.heap tp (.tup cs) from I.hok tp _ hT)
    have e3 := ClsV.all k rv
    subst e3
    obtain ⟨oc, od2, dt, sl2⟩ := o
    simp only at h2 h3
    subst h2 h3
    exact PySem.W.kia_tup (OwX.kitx_slt hc.ic (hc.get _) hi.ca hi.cn hi.ct hi.cm) I.kIn J h1 hk (fun z => nomatch z) fun tk => ⟨.bl b, H, I.tok _, rfl, q⟩
/-- neither a list nor a tuple -/
theorem kitAny_no {K : PySem.W.Frag} {C : Addr} (h1 : PySem.W.subIn K (.ref C) (.type "list") = some false) (h2 : PySem.W.subIn K (.ref C) (.type "tuple") = some false) : PySem.W.kitAny K (.ref C) [.type "list", .type "tuple"] = some false := by
  have k : ∀ T : String, PySem.W.kitMeta T = true → PySem.W.subIn K (.ref C) (.type T) = some false → PySem.W.kitOne K (.ref C) (.type T) = some false := fun T hm hs => by
    unfold PySem.W.kitOne
    rw [if_neg (by intro z; cases (of_decide_eq_true z))]
    show (if _ then _ else _) = _
    rw [if_pos hm]
    exact hs
  unfold PySem.W.kitAny
  rw [k "list" (by decide +kernel) h1]
  unfold PySem.W.kitAny
  rw [k "tuple" (by decide +kernel) h2]
  rfl
/-! what is shown is a text -/
def Txo (x : Str) : Prop := ∀ c ∈ x.cps.toList, c < 0x110000
theorem Txo.ok {x : Str} (h : Txo x) : PyData.strOk x = true := by
  show x.cps.all (· < 0x110000) = true
  rw [Array.all_eq_true_iff_forall_mem]
  intro c hc
  have := h c (by simpa using hc)
  simpa using this
theorem txo_of {x : Str} (h : PyData.strOk x = true) : Txo x := fun c hc => by
  have h' : x.cps.all (· < 0x110000) = true := h
  rw [Array.all_eq_true_iff_forall_mem] at h'
  simpa using h' c (by simpa using hc)
theorem Txo.app {x y : Str} (h : Txo x) (k : Txo y) : Txo (x ++ y) := fun c hc => by
  have e : (x ++ y).cps = x.cps ++ y.cps := rfl
  rw [e, Array.toList_append, List.mem_append] at hc
  exact hc.elim (h c) (k c)
theorem char_lt (c : Char) : c.toNat < 0x110000 := by
  have := c.valid
  have e : c.toNat = c.val.toNat := rfl
  rcases this with h | ⟨_, h⟩ <;> omega
theorem txo_str (s : String) : Txo (Str.ofString s) := fun c hc => by
  rw [Str.ofString_eq_toList] at hc
  obtain ⟨d, _, rfl⟩ := List.mem_map.mp (by simpa using hc)
  exact char_lt d
theorem repr_lt {q c : Nat} (hq : q < 0x110000) (hc : c < 0x110000) : ∀ d ∈ Builtin.Str.reprChar q c, d < 0x110000 := by
  have hx : ∀ w : Nat, ∀ d ∈ List.replicate (w - ((Nat.toDigits 16 c).map Char.toNat).length) 48 ++ (Nat.toDigits 16 c).map Char.toNat, d < 0x110000 := fun w d hd => by
    rcases List.mem_append.mp hd with h | h
    · have := (List.mem_replicate.mp h).2
      omega
    · obtain ⟨e, _, rfl⟩ := List.mem_map.mp h
      exact char_lt e
  intro d hd
  unfold Builtin.Str.reprChar at hd
  dsimp only at hd
  repeat' split at hd
  all_goals first
    | (simp only [List.mem_cons, List.not_mem_nil, or_false] at hd; omega)
    | (simp only [List.mem_append, List.mem_cons, List.not_mem_nil, or_false] at hd
       rcases hd with h | h
       · omega
       · exact hx _ d (List.mem_append.mpr h))
theorem fold_lt {q : Nat} (hq : q < 0x110000) : ∀ (l : List Nat) (acc : Array Nat), (∀ c ∈ l, c < 0x110000) → (∀ c ∈ acc.toList, c < 0x110000) → ∀ c ∈ (l.foldl (fun out c => out ++ (Builtin.Str.reprChar q c).toArray) acc).toList, c < 0x110000
  | [], acc, _, h, c, hc => h c hc
  | x :: l, acc, hl, h, c, hc => by
    refine fold_lt hq l _ (fun d hd => hl d (List.mem_cons_of_mem _ hd)) (fun d hd => ?_) c hc
    rw [Array.toList_append, List.mem_append] at hd
    exact hd.elim (h d) (repr_lt hq (hl x List.mem_cons_self) d)
theorem txo_repr {x : Str} (h : Txo x) : Txo (reprText x) := fun c hc => by
  unfold reprText at hc
  have hq : reprQuote x < 0x110000 := by
    unfold reprQuote
    split <;> omega
  rw [Array.toList_push, List.mem_append, ← Array.foldl_toList] at hc
  rcases hc with hc | hc
  · refine fold_lt hq x.cps.toList #[reprQuote x] h (fun d hd => ?_) c hc
    simp at hd
    omega
  · simp at hc
    omega
theorem txo_from : ∀ (ts : List Str) (k : Nat) (acc : Str), Txo acc → (∀ t ∈ ts, Txo t) → Txo (textFrom k acc ts)
  | [], _, acc, h, _ => h
  | t :: ts, k, acc, h, hs => by
    show Txo (textFrom (k + 1) (acc ++ (if k > 0 then ", " else "" : String) ++ t) ts)
    exact txo_from ts (k + 1) _ ((h.app (txo_str _)).app (hs t List.mem_cons_self)) fun u hu => hs u (List.mem_cons_of_mem _ hu)
theorem txo_join {sep : Str} (hsep : Txo sep) : ∀ ts : List Str, (∀ t ∈ ts, Txo t) → Txo (Str.join sep ts)
  | [], _ => fun c hc => by
    have e : (Str.join sep []).cps.toList = [] := rfl
    rw [e] at hc
    cases hc
  | [t], h => h t List.mem_cons_self
  | t :: u :: ts, h => by
    show Txo (t ++ sep ++ Str.join sep (u :: ts))
    exact ((h t List.mem_cons_self).app hsep).app (txo_join hsep (u :: ts) fun v hv => h v (List.mem_cons_of_mem _ hv))
mutual
theorem txo_shown : ∀ d : PyData, fine d → Txo d.shown
  | .none, _ => by simp only [PyData.shown]; exact txo_str _
  | .bool b, _ => by cases b <;> (simp only [PyData.shown]; exact txo_str _)
  | .int i, _ => by simp only [PyData.shown]; exact txo_str _
  | .str x, h => by simp only [PyData.shown]; exact txo_repr (txo_of h)
  | .list xs, h => by
    simp only [PyData.shown]
    unfold listText
    exact (txo_from _ _ _ (txo_str _) (txo_showns xs h)).app (txo_str _)
  | .tuple xs, h => by
    simp only [PyData.shown]
    unfold tupleText
    exact ((txo_str _).app (txo_join (txo_str _) _ (txo_showns xs h))).app (txo_str _)
  | .dict _, h => h.elim
theorem txo_showns : ∀ xs : List PyData, fineAll xs → ∀ t ∈ PyData.shownAll xs, Txo t
  | [], _, t, ht => by simp [PyData.shownAll] at ht
  | x :: xs, h, t, ht => by
    simp only [PyData.shownAll, List.mem_cons] at ht
    rcases ht with rfl | ht
    · exact txo_shown x h.1
    · exact txo_showns xs h.2 t ht
end
end Fm
/-! tuple * int, often (lines of the library's rule, turned to greater numbers) -/
namespace Fm
open PySem PySem.Spec PyProof.Rows L2
def rRepTB (K : PySem.W.Frag) : R2 := fun x y H Q => ∃ l k xs, x = .ref l ∧ y = .int k ∧ SqT K H l xs ∧ xs ≠ [] ∧ 2 ≤ k ∧ k ≤ 1000000 ∧ xs.length * k.toNat ≤ 1000000 ∧ ∀ p, H p = none → Q (.ref p) (upd H p (.tup (List.replicate k.toNat xs).flatten))
section
variable {X : Cx}
theorem op_repTB : OpR X (binaryOp .Mult) (rRepTB X.K) := by
  intro pins s σ H x y v u Q I rx ry h
  obtain ⟨l, k, xs, rfl, rfl, hT, hne, h1, h2, hz, q⟩ := h
  cases rx
  obtain ⟨t, rfl⟩ := ry
  obtain ⟨its, r, ⟨⟨cls, dd, data, sl⟩, ho, hc, n, hd⟩, hs⟩ := I.tuple hT
  simp only at hc hd
  subst hc hd
  have hle : its.length = xs.length := r.length.symm
  have hn : its ≠ [] := fun e => hne (by
    rw [e] at hle
    exact List.eq_nil_of_length_eq_zero hle.symm)
  have hi : its.toArray.isEmpty = false := by
    cases its with
    | nil => exact absurd rfl hn
    | cons a b => rfl
  have hsz0 : its.toArray.size = xs.length := by rw [List.size_toArray, hle]
  have hm : ((its.toArray.size : Nat) : Int) * k ≤ 1000000 := by
    rw [hsz0]
    have e : (k.toNat : Int) = k := by omega
    have e2 : ((xs.length * k.toNat : Nat) : Int) = (xs.length : Int) * k := by rw [Int.natCast_mul, e]
    omega
  have flen : (List.replicate k.toNat its).flatten.length ≤ sizeLine := by
    rw [PyProof.Rows.lm_len_rep_flat, hle, sizeLine_eq]
    have a1 : k.toNat * xs.length = xs.length * k.toNat := Nat.mul_comm _ _
    omega
  have c0 : (decide (k < -(2 ^ 63)) || decide (k ≥ 2 ^ 63)) = false := by
    rw [decide_eq_false (by omega), decide_eq_false (by omega)] <;> rfl
  have c1 : (its.toArray.isEmpty || k == 1) = false := by
    rw [hi, Bool.false_or]
    exact beq_eq_false_iff_ne.mpr (by omega)
  have c2 : (decide (k ≤ 0) || its.toArray.isEmpty) = false := by
    rw [hi, Bool.or_false]
    exact decide_eq_false (by omega)
  have c4 : Builtin.Tuple.tupleTooMany (((its.toArray.size : Nat) : Int) * k) = false := by
    unfold Builtin.Tuple.tupleTooMany
    rw [sizeLine_eq]
    exact decide_eq_false (by omega)
  refine wpAny_binaryOp_repeat_ref (T := "tuple") (U := "int") (by decide) ⟨_, ho, rfl⟩ (fun s' => typeIs_int s' k t) noFill_tuple_mul F.fills_int_mul F.slot_int_rmul repeat_tuple F.slot_int_index.lookup
    (call_meets F.slot_int_rmul (typeIs_int s k t) F.entry_int_rmul (F.args_int_rmul_2 _ _) (int_rmul_tuple k t l its.toArray n dd sl)
      ⟨ho, rfl, ⟨_, ho, rfl⟩, call_meets F.slot_tuple_mul ⟨_, ho, rfl⟩ F.entry_tuple_mul (F.args_tuple_mul_2 _ _) (tuple_mulW l its.toArray n dd sl k t c0 c1 c2 (by omega) c4 (by rw [size_rep, List.size_toArray]; exact flen)) ⟨ho, ?_⟩⟩)
  rw [size_rep]
  refine ⟨.ref s.heap.objs.size, _, I.laid (t' := s.toks) (o := .tup (List.replicate k.toNat xs).flatten) (fun b ob q => Heap.get?_push_of_some _ q) (Nat.le_refl _) ?_, rfl, q _ (I.hok.fresh (Nat.le_refl _))⟩
  exact ⟨by rw [PyProof.Rows.lm_len_rep_flat, sizeLine_eq]; have a1 : k.toNat * xs.length = xs.length * k.toNat := Nat.mul_comm _ _; omega, _, r.rep k.toNat, IsTup.new _ _⟩
end
end Fm
/-! sets of texts: set(xs), sorted(set) -/
namespace Fm
open PySem PySem.Spec PyProof.Rows L2
section
variable {P : Program} {w : World}
/-- two entries without a key in common -/
def Apart (P : Program) (w : World) (e f : Int × Value) : Prop := ∀ k : Str, (strKind P w).is k e.2 = true → (strKind P w).is k f.2 = true → False
theorem apart_symm {e f : Int × Value} (h : Apart P w e f) : Apart P w f e := fun k a b => h k b a
/-- a set of texts at a, that can be walked -/
def SetS (P : Program) (w : World) (h : Heap) (a : Addr) (S : Str → Bool) (n : Nat) : Prop := ∃ (o : Obj) (es : Array (Int × Value)) (ep : Nat) (t : SetTable), h.get? a = some o ∧ (o.ExactSet ∧ o.data = .set es ep t) ∧
  (ElemsOf (strKind P w) es.toList ∧ es.toList.Pairwise (Apart P w) ∧ ∀ k, S k = true ↔ ∃ e ∈ es.toList, (strKind P w).is k e.2 = true) ∧ (es.size < scanBound ∧ t.fits es.size = true ∧ es.size = n) ∧ Ris t.place.toList ∧ (w.params.followText "set-order" = true ∨ t.led = true)
theorem SetS.at {h h' : Heap} {a : Addr} {S : Str → Bool} {n : Nat} (R : SetS P w h a S n) (k : ∀ o, h.get? a = some o → h'.get? a = some o) : SetS P w h' a S n := by
  obtain ⟨o, es, ep, t, ho, r⟩ := R
  exact ⟨o, es, ep, t, k o ho, r⟩
theorem SetS.as {h : Heap} {a : Addr} {S S' : Str → Bool} {n : Nat} (R : SetS P w h a S n) (e : ∀ k, S' k = S k) : SetS P w h a S' n := by
  rw [funext e]
  exact R
theorem SetS.new {h : Heap} {a : Addr} {xs : List Str} (ho : h.get? a = some (eset w)) : SetS P w h a (fun k => decide (k ∈ xs.take 0)) 0 := by
  refine ⟨_, #[], 0, _, ho, ⟨⟨rfl, rfl, rfl⟩, rfl⟩, ⟨fun e he => by simp at he, .nil, fun k => by simp⟩, ⟨by decide, by rfl, rfl⟩, .nil, ?_⟩
  show _ ∨ (!w.params.followText "set-order") = true
  cases w.params.followText "set-order" with
  | true => exact .inl rfl
  | false => exact .inr rfl
abbrev rly (t : SetTable) (es : Array (Int × Value)) := relayAll t es (SetTable.grown es.size)
variable {A : Around} {E : Value → Shared → Prop} {s : Shared} {a : Addr} {S : Str → Bool} {n : Nat}
theorem sets_tail {g : Bool → Sem Unit} (hg : ∀ (b : Bool) (s1 : Shared) (Q : Unit → Shared → Prop), Q () s1 → wpAny (model P w) A (g b) Q E s1) {o : Obj} {es es1 : Array (Int × Value)} {ep : Nat} {t t2 : SetTable}
    (ho : s.heap.get? a = some o) (hx : o.ExactSet ∧ o.data = .set es ep t) (hE : ElemsOf (strKind P w) es1.toList ∧ es1.toList.Pairwise (Apart P w) ∧ ∀ k, S k = true ↔ ∃ e ∈ es1.toList, (strKind P w).is k e.2 = true)
    (hB : es1.size < scanBound) (hF : t2.fits es1.size = true) (hR : Ris t2.place.toList) (hL : w.params.followText "set-order" = true ∨ t2.led = true) {dm : Bool} {R : Option Bool → Shared → Prop}
    (fin : ∀ h', Heap.SameBut a s.heap h' → SetS P w h' a S es1.size → R (some true) { s with heap := h' }) :
    wpAny (model P w) A (do
      storeSet a es1 t2
      if (!dm && t2.tooFull) = true then do g (rly t2 es1).2.2; storeSet a (rly t2 es1).1 (rly t2 es1).2.1; pure (some true)
      else pure (some true)) R E s := by
  obtain ⟨hex, hd⟩ := hx
  obtain ⟨hE1, hE2, hE3⟩ := hE
  have put : ∀ {h : Heap} {o' : Obj} {e0 e1 : Array (Int × Value)} {ep' : Nat} {t0 t1 : SetTable}, h.get? a = some o' → o'.data = .set e0 ep' t0 → (h.update a (Obj.putSet e1 t1)).get? a = some { o' with data := .set e1 (ep' + 1) t1 } := fun hh hdd => store_at hh hdd
  refine wpAny_bind (wpAny_storeSet_of ho hd ?_ (fits_of_scanBound hB))
  have at1 := put (e1 := es1) (t1 := t2) ho hd
  have sb := Heap.SameBut.update s.heap a (Obj.putSet es1 t2)
  split
  · have q1 := relayAll_perm t2 es1 (SetTable.grown es1.size)
    have q2 := relayAll_fits t2 es1 (SetTable.grown es1.size)
    have q3 := relayAll_ris t2 es1 (SetTable.grown es1.size)
    have q4 := relayAll_led t2 es1 (SetTable.grown es1.size)
    rcases hz : relayAll t2 es1 (SetTable.grown es1.size) with ⟨f1, f2, f3⟩
    unfold rly
    rw [hz] at q1 q2 q3 q4 ⊢
    dsimp only at q1 q2 q3 q4 ⊢
    have hl : f1.size = es1.size := by rw [← Array.length_toList, q1.length_eq, Array.length_toList]
    refine wpAny_bind (hg _ _ _ (wpAny_bind (wpAny_storeSet_of at1 rfl ?_ (fits_of_scanBound (by rw [hl]; exact hB)))))
    refine wpAny_pure (fin _ (sb.trans (Heap.SameBut.update _ a _)) ⟨_, f1, _, f2, put at1 rfl, ⟨hex, rfl⟩, ⟨hE1.perm q1, (q1.pairwise_iff apart_symm).mpr hE2, fun k => ?_⟩, ⟨by rw [hl]; exact hB, q2, hl⟩, q3, hL.imp id fun z => q4.trans z⟩)
    rw [hE3 k]
    exact ⟨fun ⟨e, he, hk⟩ => ⟨e, q1.mem_iff.mpr he, hk⟩, fun ⟨e, he, hk⟩ => ⟨e, q1.mem_iff.mp he, hk⟩⟩
  · exact wpAny_pure (fin _ sb ⟨_, es1, _, t2, at1, ⟨hex, rfl⟩, ⟨hE1, hE2, hE3⟩, ⟨hB, hF, rfl⟩, hR, hL⟩)
theorem sets_add {k : Str} {tk : Tok} {Q : Bool → Shared → Prop} (R : SetS P w s.heap a S n) (room : n + 1 < scanBound)
    (fin : ∀ h', Heap.SameBut a s.heap h' → SetS P w h' a (fun j => S j || decide (j = k)) (if S k = true then n else n + 1) → Q (!S k) { s with heap := h' }) :
    wpAny (model P w) A (setAddHashed a (.str k tk) ((strKind P w).hash k)) Q E s := by
  obtain ⟨o, es, ep, t, ho, ⟨hex, hd⟩, ⟨hE1, hE2, hE3⟩, ⟨hB, hF, hN⟩, hR, hL⟩ := R
  have isk : (strKind P w).is k (.str k tk) = true := strKind_is P w k tk
  have sck : (Value.str k tk).scannable = true := rfl
  unfold setAddHashed setAddHashedIn
  refine wpAny_holding (wpAny_bind (wpAny_setState_of ho hd hF ?_))
  dsimp only
  rw [byScan_of sck hB hE1, if_pos rfl]
  unfold setAddByScan
  refine wpAny_bind (wpAny_bind (wpAny_rule (wpAny_bind (wpAny_setScan_of isk ho hd hF hE1 ?_))))
  rcases hfi : List.findIdx? (fun e : Int × Value => (strKind P w).is k e.2) es.toList with _ | j
  · dsimp only
    have no : ∀ e ∈ es.toList, (strKind P w).is k e.2 = true → False := fun e he z => by
      have := List.findIdx?_eq_none_iff.mp hfi e he
      rw [z] at this
      cases this
    have sk : S k = false := by
      cases z : S k with
      | false => rfl
      | true =>
        obtain ⟨e, he, hk⟩ := (hE3 k).mp z
        exact (no e he hk).elim
    have q1 := layNew_perm t es ((strKind P w).hash k) (.str k tk)
    have q2 := layNew_fits t es ((strKind P w).hash k) (.str k tk)
    have q3 := layNew_ris t es ((strKind P w).hash k) (.str k tk) hR
    have q4 := layNew_led t es ((strKind P w).hash k) (.str k tk)
    rcases hz : layNew t es ((strKind P w).hash k) (.str k tk) with ⟨f1, f2, dm, gv⟩
    rw [hz] at q1 q2 q3 q4
    dsimp only at q1 q2 q3 q4 ⊢
    rw [Array.toList_push] at q1
    have q5 : f1.toList.Perm (((strKind P w).hash k, Value.str k tk) :: es.toList) := q1.trans (List.perm_append_singleton _ _)
    have hl : f1.size = n + 1 := by rw [← Array.length_toList, q5.length_eq, List.length_cons, Array.length_toList, hN]
    have hE' : ElemsOf (strKind P w) f1.toList ∧ f1.toList.Pairwise (Apart P w) ∧ ∀ i, (S i || decide (i = k)) = true ↔ ∃ e ∈ f1.toList, (strKind P w).is i e.2 = true := by
      refine ⟨(hE1.push isk sck).perm q1, (q5.pairwise_iff apart_symm).mpr (.cons (fun e he j hj hje => ?_) hE2), fun i => ?_⟩
      · cases (strKind P w).inj _ j k hj isk
        exact no e he hje
      · rw [Bool.or_eq_true, decide_eq_true_eq, hE3 i]
        constructor
        · rintro (⟨e, he, hk⟩ | rfl)
          · exact ⟨e, q5.mem_iff.mpr (List.mem_cons_of_mem _ he), hk⟩
          · exact ⟨_, q5.mem_iff.mpr List.mem_cons_self, isk⟩
        · rintro ⟨e, he, hk⟩
          rcases List.mem_cons.mp (q5.mem_iff.mp he) with rfl | he
          · exact .inr ((strKind P w).inj _ i k hk isk)
          · exact .inl ⟨e, he, hk⟩
    have hL' : w.params.followText "set-order" = true ∨ f2.led = true := hL.imp id fun z => q4.trans z
    have fin' : ∀ h', Heap.SameBut a s.heap h' → SetS P w h' a (fun j => S j || decide (j = k)) f1.size → Q true { s with heap := h' } := fun h' sb r => by
      have := fin h' sb
      rw [sk] at this
      rw [hl] at r
      exact this r
    have hB' : f1.size < scanBound := by rw [hl]; exact room
    have gw : ∀ (b : Bool) {s1 : Shared} {Q' : Unit → Shared → Prop}, Q' () s1 → wpAny (model P w) A (match b with | true => rule "set.scan.the-table-gave-way" | false => pure ()) Q' E s1 := fun b s1 Q' q => by
      cases b
      · exact wpAny_pure q
      · exact wpAny_rule q
    refine wpAny_bind (gw _ ?_)
    split
    · refine wpAny_bind ?_
      rw [hashByValue_scannable 8 sck]
      refine wpAny_pure (sets_tail ?_ ho ⟨hex, hd⟩ hE' hB' ?_ ?_ ?_ ?_)
      · intro b s1 Q' q
        exact gw b q
      · first | (split <;> first | exact q2 | exact SetTable.fits_plain_off q2) | exact q2
      · first | (split <;> exact q3) | exact q3
      · first | (split <;> exact hL') | exact hL'
      · exact fun h' sb r => wpAny_pure (fin' h' sb r)
    · refine wpAny_bind (wpAny_pure ?_)
      rw [if_pos rfl]
      refine sets_tail ?_ ho ⟨hex, hd⟩ hE' hB' q2 q3 hL' ?_
      · intro b s1 Q' q
        exact gw b q
      · exact fun h' sb r => wpAny_pure (fin' h' sb r)
  · dsimp only
    obtain ⟨hj, pj, _⟩ := List.findIdx?_eq_some_iff_getElem.mp hfi
    have sk : S k = true := (hE3 k).mpr ⟨es.toList[j], List.getElem_mem hj, pj⟩
    have q := fin s.heap (Heap.SameBut.refl a s.heap) ⟨o, es, ep, t, ho, ⟨hex, hd⟩, ⟨hE1, hE2, fun i => ?_⟩, ⟨hB, hF, by rw [if_pos sk]; exact hN⟩, hR, hL⟩
    · rw [sk] at q
      exact wpAny_pure (wpAny_pure q)
    · rw [Bool.or_eq_true, decide_eq_true_eq, ← hE3 i]
      exact ⟨fun z => z.elim id fun e => by rw [e]; exact sk, .inl⟩
theorem sets_update {I : Addr} {fp wr : List Addr} {G : Array GenState → Array GenState → Prop} {m : Nat} {Pv : Nat → Value → Prop} {St : Nat → Shared → Prop} {R : Result → Shared → Prop}
    (W : WalksS P w A.in1 I fp wr G m Pv St) (a : Addr) (ha : a ∉ fp) (xs : List Str) (hm : m = xs.length) (hb : xs.length + 1 < scanBound) (hval : ∀ i v, Pv i v → ∃ k t, xs[i]? = some k ∧ v = .str k t) :
    ∀ (d i : Nat) (s : Shared), m - i = d → i ≤ m → St i s → (∃ c, c ≤ i ∧ SetS P w s.heap a (fun j => decide (j ∈ xs.take i)) c) →
      (∀ s' c, Moved (a :: wr) G s s' → c ≤ m → SetS P w s'.heap a (fun j => decide (j ∈ xs)) c → R (.ok (.ret .none)) s') → codeAny (model P w) A (.builtin "set.update.loop" ⟨[.ref a, .ref I], []⟩) R s := by
  have haw : a ∉ wr := fun z => ha (W.sub _ z)
  have more : ∀ b ∈ wr, b ∈ a :: wr := fun _ z => List.mem_cons_of_mem _ z
  intro d
  induction d with
  | zero =>
    rintro i s e1 e2 st ⟨c, hc, R0⟩ fin
    obtain rfl : i = m := by omega
    refine codeAny_builtin F.entry_set_update_loop ?_
    rw [Around.under_plainId F.plain_set_update_loop _]
    refine wpAny_bind (m := pyNext (.ref I)) (W.done s _ _ st fun s' mv => ?_)
    rw [List.take_of_length_le (by omega)] at R0
    exact wpAny_pure (fin s' c (mv.mono more) hc (R0.at fun o e => mv.heap a o haw e))
  | succ d ih =>
    rintro i s e1 e2 st ⟨c, hc, R0⟩ fin
    have lt : i < m := by omega
    refine codeAny_builtin F.entry_set_update_loop ?_
    rw [Around.under_plainId F.plain_set_update_loop _]
    refine wpAny_bind (m := pyNext (.ref I)) (W.item i s _ _ lt st fun v s' hP st' mv => ?_)
    obtain ⟨z, t, hz, rfl⟩ := hval i v hP
    have R1 := R0.at fun o e => mv.heap a o haw e
    refine wpAny_bind (m := holding [Value.str z t] (setAdd a (.str z t))) (wpAny_holding ?_)
    unfold setAdd
    refine wpAny_holding (wpAny_bind ((strKind P w).pyHash (k := z) (strKind_is P w z t) ?_))
    refine sets_add (s := { s' with toks := s'.toks + 1 }) R1 (by omega) fun g sb R2 => ?_
    have R3 : SetS P w g a (fun j => decide (j ∈ xs.take (i + 1))) (if decide (z ∈ xs.take i) = true then c else c + 1) := R2.as fun j => by
      rw [List.take_add_one, hz]
      simp [List.mem_append]
    have c3 : (if decide (z ∈ xs.take i) = true then c else c + 1) ≤ i + 1 := by split <;> omega
    have keep : ∀ b o, b ≠ a → s'.heap.get? b = some o → g.get? b = some o := fun b o hb e => by rw [sb.2 b hb]; exact e
    refine wpAny_pure ⟨plainId_quiet F.plain_set_update_loop _, ih (i + 1) _ (by omega) lt (W.frame _ s' _ _ st' (Nat.le_succ _) fun b hb o e => keep b o (fun z => ha (z ▸ hb)) e) ⟨_, c3, R3⟩ fun s2 c2 mv2 hc2 R4 => ?_⟩
    exact fin s2 c2 (Moved.trans W.gtrans ((mv.mono more).then_heap (Nat.le_succ _) fun b o hb e => keep b o (fun z => hb (z ▸ List.mem_cons_self)) e) mv2) hc2 R4
set_option maxHeartbeats 8000000 in
theorem set_of_strs {l : Addr} {its : Array Value} (xs : List Str) {Q : Value → Shared → Prop} (hh : A.handled = none) (hl : s.heap.IsList l its) (hi : StrsAre its.toList xs) (hb : xs.length + 1 < scanBound)
    (h : ∀ (g : Heap) (tk c : Nat), c ≤ xs.length → SetS P w g s.heap.objs.size (fun j => decide (j ∈ xs)) c → (∀ b o, s.heap.get? b = some o → g.get? b = some o) → Q (.ref s.heap.objs.size) { s with heap := g, toks := tk }) :
    wpAny (model P w) A (call (.type "set") [.ref l]) Q E s := by
  have hn : its.size = xs.length := by rw [← Array.length_toList]; exact StrsAre.length hi
  obtain ⟨mc, mt, mro⟩ := F.called_set.mro
  have mk1 := F.called_set.made
  have mk2 := F.called_set.sub
  refine wpAny_call (codeAny_of_tree (show wpAny _ _ (callAny (.type "set") _) _ _ _ from wpAny_pure ⟨Code.quiet_builtin _ (by decide +kernel), codeAny_builtin F.entry_type_call ?_⟩))
  rw [Around.under_plain (weight_type_call_type "set" [.ref l] []) rfl]
  have mk3 := F.called_set.notType
  have mk4 := F.called_set.canCreate
  have mk5 := F.typeCall_set_1 (.ref l)
  repeat (any_goals (first | assumption | wp_step))
  refine codeAny_mono (code_set_led1 (w := w) (s := s) (.ref l) (E := E)
    (Q₁ := fun obj s₁ => obj = .ref s.heap.objs.size ∧ s₁ = { s with heap := hset w s.heap }) ⟨rfl, rfl⟩) fun r s₁ hr => ?_
  match r, hr with
  | .error e, hr => exact hr
  | .ok (.ret obj), hr =>
    obtain ⟨rfl, rfl⟩ := hr
    have here : (hset w s.heap).get? s.heap.objs.size = some (eset w) := Heap.get?_push_size _ rfl
    have isS : Shared.TypeIs { s with heap := hset w s.heap } (.ref s.heap.objs.size) "set" := ⟨_, here, rfl⟩
    have in1 := F.called_set.init.lookup
    have in2 := F.called_set.init.bind (.ref s.heap.objs.size)
    repeat (any_goals (first | assumption | wp_step))
    have goes : codeAny (model P w) A.in1 (.call (.builtin "set.__init__") ⟨[.ref s.heap.objs.size, .ref l], []⟩) (wants (fun r s₂ => r = .none ∧ ∃ g tk c,
        s₂ = { s with heap := g, toks := tk } ∧ c ≤ xs.length ∧ SetS P w g s.heap.objs.size (fun j => decide (j ∈ xs)) c ∧ ∀ b o, s.heap.get? b = some o → g.get? b = some o) E) { s with heap := hset w s.heap } := by
      refine codeAny_call_builtin F.called_set.init.plain F.entry_set_init (check_set_init_1 isS ?_)
      obtain ⟨⟨oc, od, dt, sl⟩, hol, hcl, nl, hdl⟩ := id hl
      simp only at hcl hdl
      subst hcl hdl
      have lt := Heap.lt_size hol
      have hol2 : (hset w s.heap).get? l = some _ := Heap.get?_push_of_some _ hol
      have hl2 : (hset w s.heap).IsList l its := ⟨_, hol2, rfl, nl, rfl⟩
      have no1 := F.sub_list_set
      have no2 := F.sub_list_frozenset
      have no3 : (Value.type "list" == Value.type "dict") = false := by decide
      unfold Builtin.«set.__init__» noKeywords Builtin.Frozenset.updateFrom
      generalize hPI : pyIter = PI
      wp_walk
      subst hPI
      refine wpAny_pyIter_list hl2 (wpAny_bind (wpAny_runValue ?_))
      have sz2 : (hset w s.heap).objs.size = s.heap.objs.size + 1 := Heap.size_push ..
      have neI : l ≠ (hset w s.heap).objs.size := by
        rw [sz2]
        exact Nat.ne_of_lt (Nat.lt_succ_of_lt lt)
      have notIn : s.heap.objs.size ∉ [(hset w s.heap).objs.size, l] := by
        rw [sz2]
        intro z
        rcases List.mem_cons.mp z with z | z
        · exact Nat.ne_of_lt (Nat.lt_succ_self _) z
        · exact Nat.ne_of_gt lt (List.mem_singleton.mp z)
      have val : ∀ (i : Nat) (v : Value), its[i]? = some v → ∃ k t, xs[i]? = some k ∧ v = .str k t := fun i v hv => by
        obtain ⟨y, t, e1, e2⟩ := StrsAre.item hi i v (by rw [Array.getElem?_toList]; exact hv)
        exact ⟨y, t, e2, e1⟩
      have hh3 : A.in1.in1.in1.handled = none := by simp [hh]
      refine sets_update ((Walks.list hh3 _ l neI its).toS) s.heap.objs.size notIn xs hn hb val (its.size - 0) 0 _ (by omega) (Nat.zero_le _) ?st ?s0 ?fin
      case st => exact ⟨⟨_, Heap.get?_push_size _ rfl, rfl, rfl⟩, hl2.push _⟩
      case s0 => exact ⟨0, Nat.le_refl 0, .new (Heap.get?_push_of_some _ here)⟩
      case fin =>
        rintro ⟨g, gg, dd, tk, oo⟩ c' mv hc' hS'
        have e1 : gg = s.gens := mv.gens
        have e2 : dd = s.drawn := mv.drawn
        have e3 : oo = s.os := mv.os
        subst e1 e2 e3
        refine wpAny_pure (show wpAny _ _ (ret Value.none) _ _ _ from wpAny_pure ⟨rfl, g, tk, c', rfl, by omega, hS', fun b o e => ?_⟩)
        have b0 := Heap.lt_size e
        refine mv.heap b o (fun z => ?_) (Heap.get?_push_of_some _ (Heap.get?_push_of_some _ e))
        rcases List.mem_cons.mp z with z | z
        · exact Nat.ne_of_lt b0 z
        · have z2 := List.mem_singleton.mp z
          rw [sz2] at z2
          exact Nat.ne_of_lt (Nat.lt_succ_of_lt b0) z2
    refine codeAny_mono goes fun r₂ s₂ hr₂ => ?_
    match r₂, hr₂ with
    | .error e, hr₂ => exact hr₂
    | .ok (.ret r), hr₂ =>
      obtain ⟨rfl, g, tk, c', rfl, hc', hS', hk'⟩ := hr₂
      repeat (any_goals (first | assumption | wp_step))
      exact h _ _ _ hc' hS' hk'
end
end Fm
/-! own errors whose __init__ hands its argument on to the class above and keeps it in a field -/
namespace Fm
open PySem PySem.W PySem.Calls PyProof.Rows PySem.HandSPX
/-! the text of such an __init__ -/
abbrev xA (f : Str) (p1 p2 : Pos) : Arguments :=
  { posonlyargs := [], args := [{ arg := "self", annotation := none, pos := p1 }, { arg := f, annotation := none, pos := p2 }],
    vararg := none, kwonlyargs := [], kw_defaults := [], kwarg := none, defaults := [] }
abbrev xCall (f : Str) (q1 q2 q3 q4 q5 : Pos) : Expr := .Call (.Attribute (.Call (.Name "super" q1) [] [] q2) "__init__" q3) [.Name f q4] [] q5
abbrev xB (f : Str) (q1 q2 q3 q4 q5 q6 q7 q8 q9 q10 : Pos) : List Stmt :=
  [.Expr (xCall f q1 q2 q3 q4 q5) q6, .Assign [.Attribute (.Name "self" q7) f q8] (.Name f q9) q10]
abbrev xS (f : Str) : Scope :=
  { kind := .function, names := [(PySem.Str.ofString "self", .local), (f, .local), (PySem.Str.ofString "__class__", .free), (PySem.Str.ofString "super", .globalImplicit)],
    isGenerator := false, isCoroutine := false, more := [] }
/-- what the written part says of such a class, by name x with field f, at C -/
structure ExT (P : Program) (K : Frag) (mg : Str → Option Value) (x f : Str) (C : Addr) : Prop where
  gC : mg x = some (.ref C)
  cls : ∃ nm q N bs bm sn sub ab col dd k0 k1 k2 k3 k5, K.lookup C = some (excClassObj nm q C N bs bm true sn sub ab col dd k0 k1 k2 k3 k5 "ValueError.__new__") ∧ refsVE bm = true
  sa : findIn K (.ref C) "__setattr__" = some (some (.builtin "object.__setattr__"))
  no : findIn K (.ref C) f = some none
  kC : keepIn K (.ref C) = true
  exC : subIn K (.ref C) (.type "BaseException") = some true
  veC : subIn K (.ref C) (.type "ValueError") = some true
  tyC : typeIn K (.ref C) = some (.type "type")
  hdC : hasDictIn K C = true
  up : ks_superIn K C C "__init__" = some (some (.builtin "ValueError.__init__"))
  opq : nsIn K cStatics "thirdparty.any" = some none
  self : mroIn K C (.ref C) = some true
  fn : ∃ (fI cda cc : Addr) (oc : Value) (od : Option Addr) (kV doc pm : Value) (an : Option Addr) (ct : Value) (osl : Array (Option Value)) (p1 p2 q1 q2 q3 q4 q5 q6 q7 q8 q9 q10 : Pos) (ql : Str),
    findIn K (.ref C) "__init__" = some (some (.ref fI)) ∧ typeIn K (.ref fI) = some (.type "function") ∧
    K.lookup fI = some ⟨oc, od, .func (ksFn "__init__" ql (xA f p1 p2) (xB f q1 q2 q3 q4 q5 q6 q7 q8 q9 q10) (xS f) .none kV doc pm an (.ref cda) ct cc), osl⟩ ∧ codeIn K (.ref cda) ql = true ∧
    (∃ cl cld csl, K.lookup cc = some ⟨cl, cld, .cell (some (.ref C)), csl⟩) ∧
    ∃ ccl cdd vs ccs file tf, K.lookup cda = some ⟨ccl, cdd, .fields vs, ccs⟩ ∧ vs[2]? = some (.str file tf) ∧ ((P.main.file : Str) == file) = true ∧
    (∀ e v, bindArgs (ksFn "__init__" ql (xA f p1 p2) (xB f q1 q2 q3 q4 q5 q6 q7 q8 q9 q10) (xS f) .none kV doc pm an (.ref cda) ct cc) ⟨[.ref e, v], []⟩ = pure [((PySem.Str.ofString "self" : Str), .ref e), (f, v)]) ∧
    ∀ L : Addr, ∃ pl, eval (xCall f q1 q2 q3 q4 q5) (ksEnv ql (xS f) L fI (.ref cda) cc) = (do
      let ov ← attributeBase (.Call (.Name "super" q1) [] [] q2) "__init__" (ksEnv ql (xS f) L fI (.ref cda) cc) (eval (.Call (.Name "super" q1) [] [] q2) (ksEnv ql (xS f) L fI (.ref cda) cc))
      standAt q3.atName
      let (g, first) ← holding [ov] (getMethod ov "__init__" pl)
      callWith q5 g first (backTo q5 (starEach [.Name f q4] (ksEnv ql (xS f) L fI (.ref cda) cc))) [])
  top : (P.main.scope.names.lookup ("super" : Str)).isSome = false
  sup : mg "super" = none
  f1 : (("self" : Str) == f) = false
  f2 : (f == ("self" : Str)) = false
  f3 : (f == ("__debug__" : Str)) = false
  f4 : (("super" : Str) == f) = false
  f5 : (("__class__" : Str) == f) = false
/-- what such an __init__ leaves -/
structure XEnd (h h' : Heap) (x C dx : Addr) (f : Str) (v : Value) : Prop where
  keep : ∀ b o, b ≠ x → h.get? b = some o → h'.get? b = some o
  obj : ∃ t1 : Addr, h'.get? x = some { cls := .ref C, dict := some dx, data := .fields #[.ref t1, .none, .none, .none, .bool false, .none] }
  dbig : h.objs.size ≤ dx
  dne : dx ≠ x
  ns : h'.Ns1 dx (fun y => if y = f then some v else none)
section
variable {P : Program} {w : PySem.World} {A : Around} {E : Value → Shared → Prop} {R : Result → Shared → Prop} {s : Shared} {K : Frag} {mg : Str → Option Value} {C : Addr} {x f : Str}
theorem look_f (T1 : (("self" : Str) == f) = false) (v u : Value) : ([((PySem.Str.ofString "self" : Str), u), (f, v)].reverse.lookup f) = some v := by
  simp [List.lookup]
theorem look_self (T2 : (f == ("self" : Str)) = false) (T1 : (("self" : Str) == f) = false) (v u : Value) : ([((PySem.Str.ofString "self" : Str), u), (f, v)].reverse.lookup (PySem.Str.ofString "self")) = some u := by
  simp only [List.reverse_cons, List.reverse_nil, List.nil_append, List.singleton_append, List.lookup_cons]
  rw [show ((PySem.Str.ofString "self" : Str) == f) = false from T1]
  simp
theorem xs_f (T2 : (f == ("self" : Str)) = false) : (xS f).names.lookup f = some .local := by
  simp only [xS, List.lookup_cons]
  rw [show (f == (PySem.Str.ofString "self" : Str)) = false from T2]
  simp
theorem xs_self : (xS f).names.lookup (PySem.Str.ofString "self") = some .local := by
  simp only [xS, List.lookup_cons]
  simp
theorem xs_super (h : (("super" : Str) == f) = false) : (xS f).names.lookup ("super" : Str) = some .globalImplicit := by
  simp only [xS, List.lookup_cons, h]
  rw [show ((PySem.Str.ofString "super" : Str) == PySem.Str.ofString "self") = false by decide +kernel, show ((PySem.Str.ofString "super" : Str) == PySem.Str.ofString "__class__") = false by decide +kernel]
  simp
theorem xs_class (h : (("__class__" : Str) == f) = false) : (xS f).names.lookup ("__class__" : Str) = some .free := by
  simp only [xS, List.lookup_cons, h]
  rw [show ((PySem.Str.ofString "__class__" : Str) == PySem.Str.ofString "self") = false by decide +kernel]
  simp
/-- ValueError.__init__, bound to an error, is called -/
theorem vx_call {hp : Heap} {g : Array GenState} {d : Drawn} {t : Nat} {os : OsState} {u e t0 : Addr} {rest : List Value} {Q : Value → Shared → Prop} {nm q : Str} {N : Addr} {bs bm : List Value} {hdct : Bool} {sn : List Str} {sub : List Value} {ab : Bool} {col : Option Bool} {dd : Option Addr} {k0 k1 k2 k3 k5 : Option Value}
    (hC : hp.get? C = some (excClassObj nm q C N bs bm hdct sn sub ab col dd k0 k1 k2 k3 k5 "ValueError.__new__")) (he : hp.get? e = some (excO C t0)) (hu : hp.get? u = some (kxs_mw "ValueError.__init__" e)) (hz : rest.length ≤ sizeLine)
    (fin : ∀ h', (∀ b o, b ≠ e → hp.get? b = some o → h'.get? b = some o) → h'.get? e = some (excO C hp.objs.size) → Q .none ⟨h', g, d, t, os⟩) :
    wpAny (model P w) A (call (.ref u) rest) Q E ⟨hp, g, d, t, os⟩ := by
  refine wpAny_call (codeAny_of_tree ?_)
  show wpAny (model P w) A.in1 (callAny (.ref u) ⟨rest, []⟩) _ _ _
  simp only [callAny]
  refine wpAny_bind (wpAny_load hu ?_)
  simp only [kxs_mw]
  refine KFB.if_so (by decide) ?_
  refine wpAny_bind (check_bound_init PySem.F.excBase_ValueError.toExcCallFacts hC he rfl ?_)
  refine wpAny_bind (wpAny_pure (wpAny_pure ?_))
  refine ⟨plainId_quiet PySem.F.excBase_ValueError.init.plain _, codeAny_builtin PySem.F.excBase_ValueError.initEntry ?_⟩
  exact exc_init_tree (cls := .ref C) (t0 := t0) (dv := none) (c2 := .none) (c3 := .none) (b4 := .bool false) he hz fun h' k e' _ => fin h' k e'
theorem vx_init (T : ExT P K mg x f C) {e t0 fI : Addr} {v : Value} (X : K.In s.heap) (hG : s.heap.Ns mainGlobals mg) (hB : ∃ mb, s.heap.Ns builtinsNs mb ∧ ∀ y : Str, y ≠ "__name__" → mb y = bootBuiltins y) (hlim : s.heap.NoLimit)
    (hx : s.heap.get? e = some (excO C t0)) (hnx : K.lookup e = none) (hroom : A.depth < recursionLimit) (hI : findIn K (.ref C) "__init__" = some (some (.ref fI)))
    (hq : ∀ h' tk dx, XEnd s.heap h' e C dx f v → R (.ok (.ret .none)) { s with heap := h', toks := tk }) :
    codeAny (model P w) A (.call (.ref fI) ⟨[.ref e, v], []⟩) R s := by
  obtain ⟨fI', cda, cc, oc, od, kV, doc, pm, an, ct, osl, p1, p2, q1, q2, q3, q4, q5, q6, q7, q8, q9, q10, ql, hi, tI, ho, hcd, ⟨cl, cld, csl, hcell⟩, ccl, cdd, vs, ccs, file, tf, hcode, hvs, hfile, hbind, hev⟩ := T.fn
  obtain rfl : fI = fI' := by
    rw [hi] at hI
    cases hI
    rfl
  obtain ⟨nm, q, N, bs, bm, sn, sub, ab, col, dd, k0, k1, k2, k3, k5, hC, hbm⟩ := T.cls
  have hcl : clsIn K C = some { name := nm, bases := bs, mro := .ref C :: bm, ns := N, qualname := q, hasDict := true, slotNames := sn, subclasses := sub, abstract := ab, collection := col, hasDel := false } := by
    unfold clsIn
    rw [hC] <;> rfl
  obtain ⟨mb, hmb, hbt⟩ := hB
  have hxC : e ≠ C := fun z => by
    rw [z, hC] at hnx
    cases hnx
  have hkf : (ksEnv ql (xS f) s.heap.objs.size fI (.ref cda) cc).kindOf f = some .local := xs_f T.f2
  refine ks_codeAny_call_defAt (binds := [("self", .ref e), (f, v)]) hroom (X _ _ ho) rfl hlim (codeRec_of X hcd) rfl (BindsTo.of_eq (hbind _ _)) ?_ ?_ (fun h₁ hn hk₁ => ?_)
  · intro y hy
    simp only [xS, List.mem_cons, List.not_mem_nil, or_false] at hy
    rcases hy with rfl | rfl | rfl | rfl <;> exact fun z => nomatch z
  · intro y hy
    simp only [List.mem_cons, List.not_mem_nil, or_false] at hy
    rcases hy with rfl | rfl
    · rfl
    · exact xs_f T.f2
  · have X₁ : K.In h₁ := X.keeps hk₁
    have hx₁ := hk₁ _ _ hx
    have I₁ : InstAt h₁ e (excO C t0) C none := ⟨hx₁, rfl, rfl, trivial⟩
    obtain ⟨hp, g, dr, tk, os⟩ := s
    obtain ⟨pl, hev⟩ := hev hp.objs.size
    refine ks_wpAt_execs_cons (ks_wpAt_Expr_any (ks_wpAt_MethodCall (he := hev) ?_))
    refine ks_wpAt_super_base (env := ksEnv ql (xS f) hp.objs.size fI (.ref cda) cc) (ar := { arg := "self", annotation := none, pos := p1 }) ?_ ?_ (by decide) rfl (X₁ _ _ ho) rfl rfl rfl (X₁ _ _ hcode) rfl hvs hfile T.top ?_
    · exact xs_super T.f4
    · exact xs_class T.f5
    · refine ks_loadName_global rfl (xs_super T.f4) (loadGlobal_builtin (env := ksEnv ql (xS f) hp.objs.size fI (.ref cda) cc) (hG.keeps hk₁) T.sup (hmb.keeps hk₁) ((hbt _ (by decide +kernel)).trans (show bootBuiltins "super" = some (.type "super") by decide +kernel)) ⟨rfl, ?_⟩)
      refine wpAny_loadName_free rfl (xs_class T.f5) rfl ⟨_, X₁ _ _ hcell, rfl⟩ ?_
      refine wpAny_loadName_local rfl xs_self hn (look_self T.f2 T.f1 v (.ref e)) ?_
      refine ks_wpAny_isType_cls (X₁ _ _ hC) rfl ⟨rfl, ?_⟩
      refine ks_wpAny_call_super (X₁ _ _ hC) rfl hx₁ rfl (fun c z => nomatch z) (looks_mroIn X₁ T.self) (fun h₂ hso hk₂ => ?_)
      have X₂ : K.In h₂ := X₁.keeps hk₂
      have hx₂ := hk₂ _ _ hx₁
      have I₂ : InstAt h₂ e (excO C t0) C none := ⟨hx₂, rfl, rfl, trivial⟩
      refine kxs_getMethod kxs_ValueError hso (looks_opaque X₂ T.opq) (l₀ := .ref C :: bm) (fun A Q E s k q => wpAny_bind ((looks_clsIn X₂ hcl) A _ E s k (wpAny_pure q))) rfl X₂ (by have := T.up; unfold ks_superIn at this; rw [hcl] at this; exact this) (I₂.type.andThen (looks_subIn X₂ T.veC)) hxC (by decide) ?_
      have k₃ : ∀ b o, h₂.get? b = some o → (h₂.push (kxs_mw "ValueError.__init__" e)).get? b = some o := fun b o z => Heap.get?_push_of_some _ z
      have hu : (h₂.push (kxs_mw "ValueError.__init__" e)).get? h₂.objs.size = some (kxs_mw "ValueError.__init__" e) := Heap.get?_push_at rfl rfl
      have k03 : ∀ b o, hp.get? b = some o → (h₂.push (kxs_mw "ValueError.__init__" e)).get? b = some o := fun b o z => k₃ _ _ (hk₂ _ _ (hk₁ _ _ z))
      have n03 : (h₂.push (kxs_mw "ValueError.__init__" e)).Ns hp.objs.size (fun y => [((PySem.Str.ofString "self" : Str), Value.ref e), (f, v)].reverse.lookup y) := (hn.keeps hk₂).keeps k₃
      have z03 : h₂.objs.size < (h₂.push (kxs_mw "ValueError.__init__" e)).objs.size := by
        rw [Heap.size_push]
        exact Nat.lt_succ_self _
      generalize h₂.push (kxs_mw "ValueError.__init__" e) = h₃ at hu k03 n03 z03 ⊢
      refine kxs_callWith (i := "ValueError.__init__") (x := e) (by rfl) (evalArgs_plain ?_)
      refine Calls.spliced_cons (wpAny_Name (env := ksEnv ql (xS f) hp.objs.size fI (.ref cda) cc) (wpAny_loadName_local rfl hkf n03 (look_f T.f1 v (.ref e)) (Calls.spliced_nil ⟨hu, ?_⟩)) T.f3)
      refine vx_call (k03 _ _ (X _ _ hC)) (k03 _ _ hx) hu (by show 1 ≤ sizeLine; decide) fun h₄ k₄ hx₄ => ?_
      have k04 : ∀ b o, b ≠ e → hp.get? b = some o → h₄.get? b = some o := fun b o hb z => k₄ _ _ hb (k03 _ _ z)
      have X₄ : K.In h₄ := fun b o z => k04 b o (fun y => by rw [y, hnx] at z; cases z) (X _ _ z)
      have hLe : hp.objs.size ≠ e := Nat.ne_of_gt (Heap.lt_size hx)
      have n04 : h₄.Ns hp.objs.size (fun y => [((PySem.Str.ofString "self" : Str), Value.ref e), (f, v)].reverse.lookup y) := n03.at fun o z => k₄ _ _ hLe z
      show PySem.wpAt _ _ _ (execs _ _) _ _ _
      refine wpAt_of_wpAny (wpAny_execs_cons (plainObj_wpAny_Assign_Attribute (env := ksEnv ql (xS f) hp.objs.size fI (.ref cda) cc) ?_))
      refine wpAny_Name (env := ksEnv ql (xS f) hp.objs.size fI (.ref cda) cc) (wpAny_loadName_local rfl hkf n04 (look_f T.f1 v (.ref e)) ?_) T.f3
      refine wpAny_Name (env := ksEnv ql (xS f) hp.objs.size fI (.ref cda) cc) (wpAny_loadName_local rfl xs_self n04 (look_self T.f2 T.f1 v (.ref e)) ?_) (by decide)
      refine set_plain X₄ (ox := excO C h₃.objs.size) (od := none) ⟨hx₄, rfl, rfl, trivial⟩ T.sa ?_
      refine exc_osa X₄ hx₄ hcl (show refsVE (.ref C :: bm) = true from hbm) rfl T.no (fun h₅ tk₅ dx k₅ dn dne hx₅ hn₅ => ?_)
      have z4 : hp.objs.size < h₄.objs.size := n04.lt
      exact wpAny_execs_nil (hq h₅ tk₅ dx ⟨fun b o hb z => k₅ b o hb (k04 b o hb z), ⟨_, hx₅⟩, Nat.le_of_lt (Nat.lt_of_lt_of_le z4 dn), dne, hn₅⟩)
/-- such an error, made -/
structure XMade (h h' : Heap) (e C d : Addr) (f : Str) (v : Value) : Prop where
  keep : ∀ b o, h.get? b = some o → h'.get? b = some o
  new : h.objs.size ≤ e
  obj : ∃ t1 : Addr, h'.get? e = some { cls := .ref C, dict := some d, data := .fields #[.ref t1, .none, .none, .none, .bool false, .none] }
  dbig : h.objs.size ≤ d
  dne : d ≠ e
  ns : h'.Ns1 d (fun y => if y = f then some v else none)
theorem vx_made (T : ExT P K mg x f C) {v : Value} (X : K.In s.heap) (hG : s.heap.Ns mainGlobals mg) (hB : ∃ mb, s.heap.Ns builtinsNs mb ∧ ∀ y : Str, y ≠ "__name__" → mb y = bootBuiltins y) (hlim : s.heap.NoLimit)
    (hroom : A.depth + 1 < recursionLimit) (hq : ∀ h' tk e d, XMade s.heap h' e C d f v → R (.ok (.ret (.ref e))) { s with heap := h', toks := tk }) :
    codeAny (model P w) A (.call (.ref C) ⟨[v], []⟩) R s := by
  obtain ⟨nm, q, N, bs, bm, sn, sub, ab, col, dd, k0, k1, k2, k3, k5, hC, hbm⟩ := T.cls
  obtain ⟨fI, _, _, _, _, _, _, _, _, _, _, _, _, _, _, _, _, _, _, _, _, _, _, _, hi, tI, _⟩ := T.fn
  obtain ⟨hp, g, dr, tk, os⟩ := s
  have k : ∀ b o, hp.get? b = some o → ((hp.push (kdv_tup [v])).push (excO C hp.objs.size)).get? b = some o := fun b o z => Heap.get?_push_of_some _ (Heap.get?_push_of_some _ z)
  have hget : ((hp.push (kdv_tup [v])).push (excO C hp.objs.size)).get? (hp.objs.size + 1) = some (excO C hp.objs.size) := by heap_get
  have hnx : K.lookup (hp.objs.size + 1) = none := by
    cases z : K.lookup (hp.objs.size + 1) with
    | none => rfl
    | some o => exact absurd (Nat.lt_of_succ_lt (Heap.lt_size (show hp.get? (hp.objs.size + 1) = some o from X _ _ z))) (Nat.lt_irrefl _)
  obtain ⟨mb, hmb, hbt⟩ := hB
  refine call_own PySem.F.excBase_ValueError (fun X => refsVE_contains X bm hbm) (X _ _ hC) (looks_findIn X hi) (fun self => bind_fn X self tI) (by show 1 ≤ sizeLine; decide) ?_
  refine vx_init (s := ⟨(hp.push (kdv_tup [v])).push (excO C hp.objs.size), g, dr, tk, os⟩) T (X.keeps k) (hG.keeps k) ⟨mb, hmb.keeps k, hbt⟩ (hlim.keeps k) hget hnx hroom hi fun h' tk' dx M => ⟨rfl, ?_⟩
  have z : hp.objs.size + 1 + 1 ≤ dx := by
    have q := M.dbig
    simpa only [Heap.size_push] using q
  exact hq h' tk' (hp.objs.size + 1) dx ⟨fun b o y => M.keep b o (Nat.ne_of_lt (Nat.lt_succ_of_lt (Heap.lt_size y))) (k b o y), Nat.le_succ _, M.obj, (by show hp.objs.size ≤ dx; omega), M.dne, M.ns⟩
end
end Fm
/-! the rule for making and raising it -/
namespace Fm
open PySem PySem.Spec PyProof.Rows L2
theorem relO_one {v : V} {u : Value} (r : RelV v u) (f g : Str) : RelO (List.lookup g [(f, v)]) (if g = f then some u else none) := by
  by_cases hw : g = f
  · subst hw
    rw [if_pos rfl]
    rw [show List.lookup g [(g, v)] = some v by simp [List.lookup]]
    exact r
  · rw [if_neg hw]
    have q : (g == f) = false := by simpa using hw
    rw [show List.lookup g [(f, v)] = none by simp [List.lookup, q]]
    trivial
section
variable {X : Cx} {C : Addr} {x f : Str}
def tMkX (C : Addr) (f : Str) (ta : TA) : L2.St → Hp → XK → Prop := fun σ H Q => ta σ H fun vs H1 => ∃ v, vs = [v] ∧ ∀ d, H1 d = none → Q (.ref C) (some d) (upd H1 d (.xd [(f, v)]))
theorem pmk_x {a : Expr} {ta : TA} {p pos : Pos} {k : Nat} (T : ExT X.prog X.K X.mg x f C) (hr : Room k X.A) (ha : PA X [a] ta) (hg : Gl X x := by rfl) (hdb : (x == ("__debug__" : Str)) = false := by decide)
    (he : starEach (a :: []) X.env = (false, eval a X.env) :: starEach [] X.env := by rfl) (hpl : (backTo pos (starEach [] X.env)).any (·.1) = false := by rfl) :
    PMk X (.Call (.Name x p) [a] [] pos) (tMkX C f ta) := by
  intro pins s σ H Q I h
  refine wpAny_Call_Name_kw (ld_glob I hg T.gC ?_ hdb)
  refine PySem.W.callWith_K (h₀ := X.base) I.ok.mod.kin T.kC (thn (ha.run pos pins s σ H _ I h) fun us s1 hh => ?_) he hpl
  obtain ⟨vs, H1, I1, r1, v, rfl, q1⟩ := hh
  refine ⟨I1.kIn, ?_⟩
  obtain ⟨v', rfl, rv⟩ := r1.one
  have keepB : ∀ b o, X.base.get? b = some o → s1.heap.get? b = some o := fun b o z => (I1.env0.bs b o z).1
  have hG := I1.env0.mod.glob.keeps keepB
  obtain ⟨mb, hmb, hbt⟩ := I1.env0.mod.blt
  show wpAny _ _ (call (.ref C) [v']) _ _ _
  have hlim := I1.nolimit
  have hmb' := hmb.keeps keepB
  obtain ⟨hp, g, dr, tk, os⟩ := s1
  refine wpAny_call (vx_made T I1.kIn hG ⟨mb, hmb', hbt⟩ hlim (by have := hr.dp; omega) fun h' tk' e d M => ?_)
  show MkP X pins σ Q (.ref e) ⟨h', g, dr, tk', os⟩
  obtain ⟨t1, hoe⟩ := M.obj
  have hns := M.ns
  obtain ⟨G', g1, g2⟩ := restrict h' fun b => decide (b ≠ e)
  have gk : ∀ b, b ≠ e → G'.get? b = h'.get? b := fun b hb => g1 b (decide_eq_true hb)
  have ge : G'.get? e = none := g2 e (by simp)
  have old : ∀ b o, hp.get? b = some o → G'.get? b = some o := fun b o q => (gk b (Nat.ne_of_lt (Nat.lt_of_lt_of_le (Heap.lt_size q) M.new))).trans (M.keep b o q)
  have ob : ObjOk X.prog X.w (upd H1 d (.xd [(f, v)])) G' d (.xd [(f, v)]) := ⟨_, hns.at (fun o q => (gk d M.dne).trans q), fun y => relO_one rv f y⟩
  have J : Inv X pins σ (upd H1 d (.xd [(f, v)])) ⟨G', g, dr, tk', os⟩ := I1.laid (t' := tk') old M.dbig ob
  refine ⟨e, _, _, ⟨G', g, dr, tk', os⟩, _, .ref C, some d, rfl, J, fun b o q => ?_, ge, hoe, ⟨rfl, rfl⟩, rfl, rfl, ?_, rfl, I1.bare, raises_own T.exC T.tyC, q1 d (I1.hok.fresh M.dbig)⟩
  · by_cases hb : b = e
    · have q' : G'.get? b = some o := q
      rw [hb, ge] at q'
      cases q'
    · exact (gk b hb).symm.trans q
  · rw [upd_ne (Ne.symm M.dne)]
    exact I1.hok.fresh M.new
end
end Fm
/-! sorted(set(xs)) of texts; sum(lists, []); raise X() -/
namespace Fm
open PySem PySem.Spec PyProof.Rows L2
/-- the text of a value -/
def txtOf : Value → Str
  | .str k _ => k
  | _ => Str.empty
theorem strs_txt : ∀ vs : List Value, (∀ v ∈ vs, ∃ k t, v = .str k t) → StrsAre vs (vs.map txtOf)
  | [], _ => .nil
  | v :: vs, h => by
    obtain ⟨k, t, rfl⟩ := h v List.mem_cons_self
    exact .cons k t (strs_txt vs fun u hu => h u (List.mem_cons_of_mem _ hu))
theorem isStr_shape {P : Program} {w : World} {k : Str} {v : Value} (h : (PySem.strKind P w).is k v = true) : ∃ t, v = .str k t := Value.isStrOf_shape h
section
variable {P : Program} {w : World} {A : Around} {E : Value → Shared → Prop} {s : Shared} {a : Addr} {S : Str → Bool} {n : Nat}
theorem sorted_sets {Q : Value → Shared → Prop} (R : SetS P w s.heap a S n) (hh : A.handled = none) (h64 : n < 64)
    (fin : ∀ s' p (out : Array Value) (c : Nat) (xs : List Str), (∀ b o, s.heap.get? b = some o → s'.heap.get? b = some o) → s'.gens = s.gens ∧ s'.os = s.os → s.heap.objs.size ≤ p → s'.heap.get? p = some (seqObj "list" out c) → StrsAre out.toList xs →
      sortedS xs = true → xs.Nodup → (∀ k, k ∈ xs ↔ S k = true) → xs.length = n → Q (.ref p) s') : wpAny (model P w) A (call (.builtin "sorted") [.ref a]) Q E s := by
  obtain ⟨o, es, ep, t, ho, ⟨hex, hd⟩, ⟨hE1, hE2, hE3⟩, ⟨hB, hF, hN⟩, hR, hL⟩ := R
  refine Calls.call_function_entry kind_sorted plain_sorted entry_sorted (args_sorted1 _) ?_
  unfold Builtin.«sorted»
  refine wpAny_bind (m := checkCount "sorted" 1 1 _) (wpAny_pure (wpAny_bind (collect_set (A := A.in1) hh ⟨o, ho, hex.1, hd⟩ hF hB hR hL fun s1 vs k1 z1 g1 o1 pm => ?_)))
  have hvl : vs.length = n := by rw [pm.length_eq, List.length_map, Array.length_toList, hN]
  have shape : ∀ e ∈ es.toList, ∃ k t, e.2 = Value.str k t ∧ (PySem.strKind P w).is k e.2 = true := fun e he => by
    obtain ⟨⟨k, hk, _⟩, _⟩ := hE1 e he
    obtain ⟨t, ht⟩ := isStr_shape hk
    exact ⟨k, t, ht, hk⟩
  have hI : StrsAre vs (vs.map txtOf) := strs_txt vs fun v hv => by
    obtain ⟨e, he, rfl⟩ := List.mem_map.mp (pm.mem_iff.mp hv)
    obtain ⟨k, t, ht, _⟩ := shape e he
    exact ⟨k, t, ht⟩
  have pk : (vs.map txtOf).Perm (es.toList.map fun e => txtOf e.2) := by
    have q := pm.map txtOf
    rwa [List.map_map] at q
  have nd : (es.toList.map fun e => txtOf e.2).Nodup := by
    refine List.pairwise_map.mpr (List.Pairwise.imp_of_mem ?_ hE2)
    intro e f he hf hap q
    obtain ⟨k, t, ht, hk⟩ := shape e he
    obtain ⟨k2, t2, ht2, hk2⟩ := shape f hf
    rw [ht, ht2] at q
    have q' : k = k2 := q
    subst q'
    exact hap k hk hk2
  have mem : ∀ k, k ∈ (es.toList.map fun e => txtOf e.2) ↔ S k = true := fun k => by
    rw [hE3 k, List.mem_map]
    constructor
    · rintro ⟨e, he, rfl⟩
      obtain ⟨k, t, ht, hk⟩ := shape e he
      refine ⟨e, he, ?_⟩
      rw [ht]
      exact strKind_is P w k t
    · rintro ⟨e, he, hk⟩
      obtain ⟨t, ht⟩ := isStr_shape hk
      exact ⟨e, he, by rw [ht]; rfl⟩
  refine wpAny_bind (wpAny_newList ?_ (by rw [hvl, sizeLine_eq]; omega))
  have hoL : (s1.heap.push (seqObj "list" vs.toArray 0)).get? s1.heap.objs.size = some (seqObj "list" vs.toArray 0) := Heap.get?_push_size _ rfl
  refine wpAny_bind (wpAny_holding (wpAny_call_entry slot_list_sort ⟨_, hoL, rfl⟩ entry_list_sort (list_sort_treeK strKind_oneLt hoL hI.keysOf (fun v1 v2 r e => keyKind_strs (by rw [← e]; exact hI)) (by rw [hvl]; exact h64) fun st hp hs => ⟨_, rfl, ?_⟩) (args_list_sort _)))
  obtain ⟨xs, a1, a2, a3⟩ := sorted_out_str hI hp hs
  obtain ⟨c, hc⟩ := sortedHeap_at (vs := vs) (out := (arrOf st).map (·.2)) hoL
  have pn : xs.Perm (es.toList.map fun e => txtOf e.2) := a2.trans pk
  refine wpAny_pure ⟨_, rfl, fin _ s1.heap.objs.size _ c xs (fun b u e => ?_) ⟨g1, o1⟩ z1 hc a1 a3 (pn.nodup_iff.mpr nd) (fun k => by rw [pn.mem_iff, mem k]) ?_⟩
  · have q := k1 b u e
    have lt := Heap.lt_size q
    exact (sortedHeap_old (Nat.ne_of_lt lt) (by rw [size_push']; exact Nat.lt_succ_of_lt lt)).trans (Heap.get?_push_of_some _ q)
  · rw [pn.length_eq, List.length_map, Array.length_toList, hN]
end
/-- a set of texts, in the heap -/
def SetSO (P : Program) (w : World) (a : Addr) (S : Str → Bool) (n : Nat) : HO := .ext fun h => SetS P w h a S n
section
variable {X : Cx}
theorem setSO_new {P : Program} {w : World} {H : Hp} {h : Heap} {a : Addr} {S : Str → Bool} {n : Nat} (R : SetS P w h a S n) : ObjOk P w H h a (SetSO P w a S n) := by
  obtain ⟨o, _, _, _, ho, _⟩ := id R
  exact ⟨R, ⟨o, ho⟩, fun _ _ p k => SetS.at p k⟩
/-- set(xs) of a list of texts -/
def rSetOfS (K : PySem.W.Frag) (P : Program) (w : World) : List V → Hp → VK → Prop := fun xs H Q => ∃ (l : Addr) (ts : List Str), xs = [V.ref l] ∧ SqL K H l (ts.map V.str) ∧ ts.length ≤ 1000 ∧
  ∀ p (n : Nat), H p = none → n ≤ ts.length → Q (.ref p) (upd H p (SetSO P w p (fun j => decide (j ∈ ts)) n))
theorem cr_setS (hc : X.calm = true) : CallR X (.type "set") (rSetOfS X.K X.prog X.w) := by
  intro pins s σ H xs us Q I r h
  obtain ⟨l, ts, rfl, hl, hb, q⟩ := h
  rw [Vals.ref1 r]
  obtain ⟨its, rv, pl, hz⟩ := I.list hl
  refine set_of_strs ts (I.ok.hd hc) pl.isList (by simpa using rv.strs) (Nat.lt_of_le_of_lt (Nat.succ_le_succ hb) (by decide)) fun g tk c hc' R hk => ?_
  exact ⟨.ref _, upd H s.heap.objs.size (SetSO X.prog X.w s.heap.objs.size (fun j => decide (j ∈ ts)) c), I.laid (t' := tk) hk (Nat.le_refl _) (setSO_new R), rfl, q _ c (I.hok.fresh (Nat.le_refl _)) hc'⟩
/-- sorted(set of texts) -/
def rSortedSS (P : Program) (w : World) : List V → Hp → VK → Prop := fun vs H Q => ∃ (a : Addr) (S : Str → Bool) (n : Nat), vs = [V.ref a] ∧ H a = some (SetSO P w a S n) ∧ n < 64 ∧
  ∀ (xs : List Str) (p : Addr), sortedS xs = true → xs.Nodup → (∀ k, k ∈ xs ↔ S k = true) → xs.length = n → H p = none → Q (.ref p) (upd H p (.lst (xs.map V.str)))
theorem cr_sortedSS (hc : X.calm = true) : CallR X (.builtin "sorted") (rSortedSS X.prog X.w) := by
  intro pins s σ H vs us Q I r h
  obtain ⟨a, S, n, rfl, ha, h64, q⟩ := h
  rw [Vals.ref1 r]
  refine sorted_sets (I.hok a _ ha).1 (I.ok.hd hc) h64 fun s' p out c xs k go hp hg hi hs nd hm hl => ?_
  have hlen : (xs.map V.str).length ≤ sizeLine := by rw [List.length_map, hl, sizeLine_eq]; omega
  have hn : H p = none := I.hok.fresh hp
  have J : Inv X pins σ (upd H p (.lst (xs.map V.str))) { s with heap := s'.heap, gens := s'.gens, drawn := s'.drawn, toks := s'.toks } :=
    I.call (ch := []) (Un.laid k hp hn) (I.hok.laid k hp ⟨hlen, out.toList, c, vals_of_strs hi, hg⟩) (by rw [go.1]; exact I.bare) (fun _ z => nomatch z)
  have e : s' = { s with heap := s'.heap, gens := s'.gens, drawn := s'.drawn, toks := s'.toks } := by
    obtain ⟨_, o⟩ := go
    cases s'
    cases s
    cases o
    rfl
  rw [e]
  exact ⟨.ref p, _, J, rfl, q xs p hs nd hm hl hn⟩
end
/-! sum(lists, []) -/
section
variable {P : Program} {w : World} {A : Around} {E : Value → Shared → Prop} {s : Shared}
/-- a list at a, without a dict -/
abbrev LsAt (h : Heap) (a : Addr) (vs : List Value) : Prop := ∃ n, IsL h a vs.toArray n
theorem sums_loop {I : Addr} {fp wr : List Addr} {G : Array GenState → Array GenState → Prop} {m : Nat} {Pv : Nat → Value → Prop} {St : Nat → Shared → Prop} {R : Result → Shared → Prop}
    (W : WalksS P w A.in1 I fp wr G m Pv St) (S : Addr) (hS : S ∉ fp) (ls : List (Addr × List Value)) (hm : m = ls.length) (hsz : ((ls.map (·.2)).flatten).length ≤ sizeLine) (hval : ∀ i v, Pv i v → ∃ e, ls[i]? = some e ∧ v = .ref e.1)
    (hin : ∀ e ∈ ls, e.1 ∉ S :: wr) (hwr : ∀ i s, St i s → ∀ b ∈ wr, ∃ o, s.heap.get? b = some o) : ∀ (d i : Nat) (s : Shared) (t : Addr) (c : Nat), m - i = d → i ≤ m → St i s → s.heap.get? S = some { cls := .type "list", dict := none, data := .seq #[.ref t] c, slots := #[] } →
      t ≠ S → LsAt s.heap t (((ls.take i).map (·.2)).flatten) → t ∉ wr → (∀ e ∈ ls, LsAt s.heap e.1 e.2) →
      (∀ s' p, Moved (S :: wr) G s s' → LsAt s'.heap p ((ls.map (·.2)).flatten) → (i < m → s.heap.get? p = none) → (i = m → p = t) → R (.ok (.ret (.ref p))) s') → codeAny (model P w) A (.builtin "sum.loop" ⟨[.ref I, .ref S, rawInt 2, rawInt 0], []⟩) R s := by
  have hSw : S ∉ wr := fun z => hS (W.sub _ z)
  have more : ∀ b ∈ wr, b ∈ S :: wr := fun _ z => List.mem_cons_of_mem _ z
  intro d
  induction d with
  | zero =>
    intro i s t c e1 e2 st hs tS ht tw hls fin
    obtain rfl : i = m := by omega
    refine codeAny_builtin F.entry_sum_loop ?_
    rw [Around.under_plainId F.plain_sum_loop _]
    refine wpAny_bind (m := seqItems? (.ref S)) (wpAny_seqItems hs rfl ?_)
    refine wpAny_bind (m := tryCatch (pyNext (.ref I)) _) (wpAny_tryCatch (W.done s _ _ st fun s' mv => ?_))
    rw [List.take_of_length_le (by omega)] at ht
    obtain ⟨n, ht⟩ := ht
    exact wpAny_pure (fin s' t (mv.mono more) ⟨n, mv.heap _ _ tw ht⟩ (fun z => absurd z (Nat.lt_irrefl _)) fun _ => rfl)
  | succ d ih =>
    intro i s t c e1 e2 st hs tS ht tw hls fin
    have lt : i < m := by omega
    refine codeAny_builtin F.entry_sum_loop ?_
    rw [Around.under_plainId F.plain_sum_loop _]
    refine wpAny_bind (m := seqItems? (.ref S)) (wpAny_seqItems hs rfl ?_)
    refine wpAny_bind (m := tryCatch (pyNext (.ref I)) _) (wpAny_tryCatch (W.item i s _ _ lt st fun v s' hP st' mv => ?_))
    obtain ⟨e, he, rfl⟩ := hval i v hP
    have hem := List.mem_of_getElem? he
    have hew : e.1 ∉ wr := fun z => hin e hem (List.mem_cons_of_mem _ z)
    obtain ⟨n1, ht⟩ := ht
    obtain ⟨n2, hb⟩ := hls e hem
    have ht' := mv.heap _ _ tw ht
    have hb' := mv.heap _ _ hew hb
    have hs' := mv.heap _ _ hSw hs
    have tk : ((ls.take (i + 1)).map (·.2)).flatten = ((ls.take i).map (·.2)).flatten ++ e.2 := by
      rw [List.take_add_one, he, List.map_append, List.flatten_append]
      simp
    have hle : ((ls.take i).map (·.2)).flatten.length + e.2.length ≤ sizeLine := by
      rw [← List.length_append, ← tk]
      refine Nat.le_trans ?_ hsz
      conv => rhs; rw [← List.take_append_drop (i + 1) ls, List.map_append, List.flatten_append, List.length_append]
      omega
    show wpAny _ A.in1 (Sem.attempt (holding [Value.ref e.1] (binaryOp .Add (.ref t) (.ref e.1))) >>= _) _ _ s'
    refine wpAny_bind (wpAny_attempt (wpAny_holding (PySem.P.add_list ht' hb' ?_ (by rw [List.size_toArray, List.size_toArray]; exact hle))))
    have ea : (((ls.take i).map (·.2)).flatten).toArray ++ e.2.toArray = (((ls.take (i + 1)).map (·.2)).flatten).toArray := by rw [tk]; simp
    rw [ea]
    have lS := Heap.lt_size hs'
    have hs2 := Heap.get?_push_of_some ({ cls := .type "list", data := .seq (((ls.take (i + 1)).map (·.2)).flatten).toArray } : Obj) hs'
    have new := Heap.get?_push_size s'.heap (o := ({ cls := .type "list", data := .seq (((ls.take (i + 1)).map (·.2)).flatten).toArray } : Obj)) rfl
    have old : ∀ b o, s'.heap.get? b = some o → (s'.heap.push ({ cls := .type "list", data := .seq (((ls.take (i + 1)).map (·.2)).flatten).toArray } : Obj)).get? b = some o := fun b o z => Heap.get?_push_of_some _ z
    have sz : (s'.heap.push ({ cls := .type "list", data := .seq (((ls.take (i + 1)).map (·.2)).flatten).toArray } : Obj)).objs.size = s'.heap.objs.size + 1 := size_push' _ _
    generalize s'.heap.push ({ cls := .type "list", data := .seq (((ls.take (i + 1)).map (·.2)).flatten).toArray } : Obj) = g at hs2 new old sz ⊢
    have nS : s'.heap.objs.size ≠ S := Nat.ne_of_gt lS
    refine wpAny_bind (wpAny_updateSeq hs2 rfl ?_)
    refine wpAny_bind (wpAny_letGo ?_)
    have hs3 := Heap.get?_update_self (Obj.mapSeq fun _ => #[Value.ref s'.heap.objs.size]) hs2 rfl
    refine wpAny_bind (m := updateSeq S _) (wpAny_updateSeq hs3 rfl ?_)
    have hs4 := Heap.get?_update_self (Obj.mapSeq fun _ => #[Value.ref s'.heap.objs.size]) hs3 rfl
    have keep : ∀ b o, b ≠ S → g.get? b = some o → ((g.update S (Obj.mapSeq fun _ => #[Value.ref s'.heap.objs.size])).update S (Obj.mapSeq fun _ => #[Value.ref s'.heap.objs.size])).get? b = some o := fun b o hb z =>
      (Heap.get?_update_other _ _ (fun h : S = b => hb h.symm)).trans ((Heap.get?_update_other _ _ (fun h : S = b => hb h.symm)).trans z)
    have no : s'.heap.get? s'.heap.objs.size = none := by
      cases z : s'.heap.get? s'.heap.objs.size with
      | none => rfl
      | some o => exact absurd (Heap.lt_size z) (Nat.lt_irrefl _)
    have newW : s'.heap.objs.size ∉ wr := fun z => by
      obtain ⟨o, q⟩ := hwr _ _ st' _ z
      rw [no] at q
      cases q
    have st3 := W.frame _ s' ((g.update S (Obj.mapSeq fun _ => #[Value.ref s'.heap.objs.size])).update S (Obj.mapSeq fun _ => #[Value.ref s'.heap.objs.size])) s'.toks st' (Nat.le_refl _) fun b hb o z => keep b o (fun h => hS (h ▸ hb)) (old b o z)
    refine wpAny_pure ⟨plainId_quiet F.plain_sum_loop _, ih (i + 1) _ s'.heap.objs.size _ (by omega) lt st3 hs4 nS ⟨_, keep _ _ nS new⟩ newW ?_ ?_⟩
    · intro f hf
      obtain ⟨k, hk⟩ := hls f hf
      have hfS : f.1 ≠ S := fun z => hin f hf (z ▸ List.mem_cons_self)
      exact ⟨k, keep _ _ hfS (old _ _ (mv.heap _ _ (fun z => hin f hf (List.mem_cons_of_mem _ z)) hk))⟩
    · intro s2 p mv2 hp f1 f2
      refine fin s2 p (Moved.trans W.gtrans ((mv.mono more).then_heap (Nat.le_refl _) fun b o hb z => keep b o (fun h => hb (h ▸ List.mem_cons_self)) (old b o z)) mv2) hp (fun _ => ?_) (fun z => absurd z (Nat.ne_of_lt lt))
      have gone : ∀ q, s'.heap.get? q = none ∨ (((g.update S (Obj.mapSeq fun _ => #[Value.ref s'.heap.objs.size])).update S (Obj.mapSeq fun _ => #[Value.ref s'.heap.objs.size])).get? q = none) → q ∉ S :: wr → s.heap.get? q = none := fun q hq hn => by
        cases z : s.heap.get? q with
        | none => rfl
        | some o =>
          have z1 := mv.heap q o (fun h => hn (List.mem_cons_of_mem _ h)) z
          rcases hq with hq | hq
          · rw [z1] at hq
            cases hq
          · rw [keep q o (fun h => hn (h ▸ List.mem_cons_self)) (old q o z1)] at hq
            cases hq
      by_cases em : i + 1 < m
      · have f1 := f1 em
        refine gone p (.inr f1) fun z => ?_
        rcases List.mem_cons.mp z with rfl | z
        · rw [hs4] at f1
          cases f1
        · obtain ⟨o, q⟩ := hwr _ _ st3 _ z
          rw [f1] at q
          cases q
      · have e : p = s'.heap.objs.size := f2 (by omega)
        rw [e]
        refine gone _ (.inl no) fun z => ?_
        rcases List.mem_cons.mp z with z | z
        · exact nS z
        · exact newW z
theorem args_sumTwo (a b : Value) : argsOk "sum" ⟨[a, b], []⟩ := by unfold argsOk; kernel_rfl
theorem subL_str : isSubtype (.type "list") (.type "str") = pure false := by rw [isSubtype_type]; kernel_rfl
theorem subL_bytes : isSubtype (.type "list") (.type "bytes") = pure false := by rw [isSubtype_type]; kernel_rfl
theorem subL_barr : isSubtype (.type "list") (.type "bytearray") = pure false := by rw [isSubtype_type]; kernel_rfl
theorem sums_raw {l b : Addr} {ls : List (Addr × List Value)} {Q : Value → Shared → Prop} (hh : A.handled = none) (hl : s.heap.IsList l (ls.map fun e => Value.ref e.1).toArray) (hb : LsAt s.heap b []) (hls : ∀ e ∈ ls, LsAt s.heap e.1 e.2) (hsz : ((ls.map (·.2)).flatten).length ≤ sizeLine)
    (fin : ∀ h' tk p, (∀ a o, s.heap.get? a = some o → h'.get? a = some o) → LsAt h' p ((ls.map (·.2)).flatten) → (ls ≠ [] → s.heap.get? p = none) → (ls = [] → p = b) → Q (.ref p) { s with heap := h', toks := tk }) :
    wpAny (model P w) A (call (.builtin "sum") [.ref l, .ref b]) Q E s := by
  refine call_function_tree F.kind_sum F.plain_sum F.entry_sum (args_sumTwo _ _) ?_
  unfold Builtin.«sum»
  simp only [List.length_cons, List.length_nil]
  rw [if_neg (by decide)]
  refine wpAny_bind (wpAny_of_eq (show Builtin.Builtins.bindParams "sum" ["start"] 0 ⟨[.ref b], []⟩ = pure [some (.ref b)] from rfl) ?_)
  refine wpAny_bind (wpAny_pyIter_list hl ?_)
  obtain ⟨nb, hbo⟩ := hb
  have lS : l < s.heap.objs.size := by
    obtain ⟨o, ho, _⟩ := id hl
    exact Heap.lt_size ho
  have k1 : ∀ a o, s.heap.get? a = some o → (s.heap.push { cls := .type "list_iterator", data := .fields #[.ref l, .int 0 0] }).get? a = some o := fun a o z => Heap.get?_push_of_some _ z
  have it1 : (s.heap.push { cls := .type "list_iterator", data := .fields #[.ref l, .int 0 0] }).IsListIter s.heap.objs.size l 0 := ⟨_, Heap.get?_push_size _ rfl, rfl, rfl⟩
  have z1 : (s.heap.push { cls := .type "list_iterator", data := .fields #[.ref l, .int 0 0] }).objs.size = s.heap.objs.size + 1 := size_push' _ _
  have hl1 := hl.push ({ cls := .type "list_iterator", data := .fields #[.ref l, .int 0 0] } : Obj)
  generalize s.heap.push { cls := .type "list_iterator", data := .fields #[.ref l, .int 0 0] } = h1 at k1 it1 z1 hl1 ⊢
  have hb1 := k1 _ _ hbo
  have tb : Shared.TypeIs { s with heap := h1 } (.ref b) "list" := ⟨_, hb1, rfl⟩
  refine wpAny_bind (wpAny_pure ?_)
  simp only [List.forIn_cons, List.forIn_nil]
  refine wpAny_bind (wpAny_bind (wpAny_bind (wpAny_isInstance (T := "list") (b := false) tb subL_str ?_)))
  simp only [Bool.false_eq_true, if_false]
  refine wpAny_pure (wpAny_bind (wpAny_bind (wpAny_isInstance (T := "list") (b := false) tb subL_bytes ?_)))
  simp only [Bool.false_eq_true, if_false]
  refine wpAny_pure (wpAny_bind (wpAny_bind (wpAny_isInstance (T := "list") (b := false) tb subL_barr ?_)))
  simp only [Bool.false_eq_true, if_false]
  refine wpAny_pure (wpAny_pure (wpAny_bind (wpAny_newObj_type ?_)))
  have hh1 : A.in1.handled = none := by simp [hh]
  have neI : l ≠ s.heap.objs.size := Nat.ne_of_lt lS
  have W := (Walks.list (prog := P) (w := w) hh1 s.heap.objs.size l neI (ls.map fun e => Value.ref e.1).toArray).toS
  have bl : b < s.heap.objs.size := Heap.lt_size hbo
  have nS : h1.objs.size ∉ [s.heap.objs.size, l] := by
    rw [z1]
    intro z
    rcases List.mem_cons.mp z with z | z
    · exact Nat.ne_of_gt (Nat.lt_succ_self _) z
    · exact Nat.ne_of_gt (Nat.lt_succ_of_lt lS) (List.mem_singleton.mp z)
  have ltne : ∀ {x y : Addr}, Nat.lt x y → x ≠ y := fun h e => Nat.lt_irrefl _ (e ▸ h)
  have up1 : ∀ {x : Addr}, Nat.lt x s.heap.objs.size → Nat.lt x h1.objs.size := fun h => by rw [z1]; exact Nat.lt_succ_of_lt h
  have old2 : ∀ a o, h1.get? a = some o → (h1.push ({ cls := .type "list", data := .seq [Value.ref b].toArray } : Obj)).get? a = some o := fun a o z => Heap.get?_push_of_some _ z
  refine wpAny_pure ⟨plainId_quiet F.plain_sum_loop _, sums_loop W h1.objs.size nS ls (by simp) hsz (fun i v hv => ?_) (fun e he => ?_) (fun i s2 st b2 hb2 => ?_) (ls.length - 0) 0 _ b 0 (by simp) (Nat.zero_le _) ⟨it1.at fun o e => old2 _ _ e, hl1.push _⟩ (Heap.get?_push_size _ rfl) ?_ ⟨nb, old2 _ _ hb1⟩ ?_ (fun e he => ?_) ?_⟩
  · have hv' : (ls.map fun e => Value.ref e.1)[i]? = some v := by simpa using hv
    rw [List.getElem?_map] at hv'
    obtain ⟨e, he, rfl⟩ := Option.map_eq_some_iff.mp hv'
    exact ⟨e, he, rfl⟩
  · obtain ⟨k, hk⟩ := hls e he
    have := Heap.lt_size hk
    intro z
    rcases List.mem_cons.mp z with z | z
    · exact ltne (up1 this) z
    · exact ltne this (List.mem_singleton.mp z)
  · rw [List.mem_singleton] at hb2
    subst hb2
    obtain ⟨o, ho, _⟩ := st.1
    exact ⟨o, ho⟩
  · exact ltne (up1 bl)
  · rw [List.mem_singleton]
    exact ltne bl
  · obtain ⟨k, hk⟩ := hls e he
    exact ⟨k, old2 _ _ (k1 _ _ hk)⟩
  · rintro ⟨g, gg, dd, tk, oo⟩ p mv hp f1 f2
    have e1 : gg = s.gens := mv.gens
    have e2 : dd = s.drawn := mv.drawn
    have e3 : oo = s.os := mv.os
    subst e1 e2 e3
    refine fin g tk p (fun a o z => ?_) hp (fun ne => ?_) (fun e => f2 (by rw [e]; rfl))
    · have := Heap.lt_size z
      refine mv.heap a o (fun q => ?_) (old2 _ _ (k1 _ _ z))
      rcases List.mem_cons.mp q with q | q
      · exact ltne (up1 this) q
      · exact ltne this (List.mem_singleton.mp q)
    · have h0 : 0 < ls.length := List.length_pos_iff.mpr ne
      have := f1 (by simpa using h0)
      cases z : s.heap.get? p with
      | none => rfl
      | some o =>
        rw [old2 _ _ (k1 _ _ z)] at this
        cases this
end
section
variable {P : Program} {w : World} {fs ex : List Addr} {H : Hp} {h h' : Heap} {a : Addr} {o : HO}
theorem un_laid (k : ∀ b u, h.get? b = some u → h'.get? b = some u) (hp : h.get? a = none) (hn : H a = none) : Un fs ex H (upd H a o) h h' where
  keep := fun b u q _ _ _ => k b u q
  slot := fun b u q _ _ _ => ⟨u.slots, k b u q⟩
  free := fun b u q n _ => by
    rw [upd_ne (by rintro rfl; rw [hp] at q; cases q)]
    exact n
  there := fun b u q _ => ⟨u, k b u q⟩
  tups := fun b xs q => by
    rw [upd_ne (ne_of_none q hn)]
    exact q
  frzs := fun b u xs q => by
    rw [upd_ne (ne_of_none q hn)]
    exact q
  tbls := fun b ps q => ⟨#[], by rw [upd_ne (ne_of_none q hn), q]; simp⟩
theorem hok_laid (x : HOk P w H h) (k : ∀ b u, h.get? b = some u → h'.get? b = some u) (hn : H a = none) (new : ObjOk P w (upd H a o) h' a o) : HOk P w (upd H a o) h' := fun b u e => by
  by_cases hb : b = a
  · subst hb
    rw [upd_same] at e
    cases e
    exact new
  · rw [upd_ne hb] at e
    exact (x b u e).stay (fun c v _ q => k c v q) (fun c q => by rw [upd_ne (ne_of_none q hn)]; exact q) fun c xs q => by rw [upd_ne (ne_of_none q hn)]; exact q
end
section
variable {X : Cx}
/-- sum(xs, []): xs a list of lists -/
def rSumL (K : PySem.W.Frag) : List V → Hp → VK → Prop := fun vs H Q => ∃ (a b : Addr) (ls : List (Addr × List V)), vs = [.ref a, .ref b] ∧ SqL K H a (ls.map fun e => V.ref e.1) ∧ H b = some (.lst []) ∧ (∀ e ∈ ls, H e.1 = some (.lst e.2)) ∧ ((ls.map (·.2)).flatten).length ≤ sizeLine ∧
  (ls = [] → Q (.ref b) H) ∧ ∀ p, H p = none → Q (.ref p) (upd H p (.lst ((ls.map (·.2)).flatten)))
theorem cr_sumL (hc : X.calm = true) : CallR X (.builtin "sum") (rSumL X.K) := by
  intro pins s σ H vs us Q I r h
  obtain ⟨a, b, ls, rfl, ha, hb, hls, hsz, q0, q1⟩ := h
  obtain ⟨u1, u2, rfl, r1, r2⟩ := vals2 r
  cases (show u1 = Value.ref a from r1)
  cases (show u2 = Value.ref b from r2)
  obtain ⟨its, rv, hl, hz0⟩ := I.list ha
  obtain ⟨z, bits, nb, rb, hbl, eb⟩ := I.lstM hb
  obtain rfl : bits = [] := by cases rb; rfl
  have key : ∃ us : List (Addr × List Value), its = us.map (fun e => Value.ref e.1) ∧ us.length = ls.length ∧ (∀ e ∈ us, LsAt s.heap e.1 e.2) ∧ Vals ((ls.map (·.2)).flatten) ((us.map (·.2)).flatten) := by
    clear q0 q1 hsz ha hl hz0
    induction ls generalizing its with
    | nil =>
      cases rv
      exact ⟨[], rfl, rfl, by simp, .nil⟩
    | cons e ls ih =>
      cases rv with
      | cons r0 rv =>
        obtain ⟨us, e1, e2, e3, e4⟩ := ih (fun f hf => hls f (List.mem_cons_of_mem _ hf)) _ rv
        obtain ⟨_, it, n, rr, _, eo⟩ := I.lstM (hls e List.mem_cons_self)
        cases r0
        refine ⟨(e.1, it) :: us, by rw [e1]; rfl, by simp [e2], fun f hf => ?_, rr.append e4⟩
        rcases List.mem_cons.mp hf with rfl | hf
        · exact ⟨n, eo⟩
        · exact e3 f hf
  obtain ⟨us, rfl, e2, e3, e4⟩ := key
  refine sums_raw (I.ok.hd hc) hl.isList ⟨nb, eb⟩ e3 (by rw [← e4.length]; exact hsz) fun g tk p hk hp f1 f2 => ?_
  by_cases hn : ls = []
  · have hu : us = [] := by
      rw [hn] at e2
      exact List.length_eq_zero_iff.mp e2
    cases f2 hu
    exact ⟨.ref b, H, I.kept (t' := tk) hk, rfl, q0 hn⟩
  · have hu : us ≠ [] := fun z => hn (by rw [z] at e2; exact List.length_eq_zero_iff.mp e2.symm)
    have np := f1 hu
    obtain ⟨k, hp⟩ := hp
    exact ⟨.ref p, upd H p (.lst ((ls.map (·.2)).flatten)), (I.un (un_laid (o := .lst ((ls.map (·.2)).flatten)) hk np (I.hok.gone np)) (hok_laid (o := .lst ((ls.map (·.2)).flatten)) I.hok hk (I.hok.gone np) ⟨hsz, _, k, e4, hp⟩) : Inv X pins σ _ { s with heap := g, toks := tk }), rfl, q1 p (I.hok.gone np)⟩
end
/-! raise X(): an error class of the text without an __init__ of its own -/
abbrev veMro : List Value := [.type "ValueError", .type "Exception", .type "BaseException", .type "object"]
structure ExZ (K : PySem.W.Frag) (mg : Str → Option Value) (x : Str) (C : Addr) : Prop where
  gC : mg x = some (.ref C)
  exC : PySem.W.subIn K (.ref C) (.type "BaseException") = some true
  hdC : PySem.W.hasDictIn K C = true
  tyC : PySem.W.typeIn K (.ref C) = some (.type "type")
  kC : PySem.W.keepIn K (.ref C) = true
  q : PySem.W.excIn K C veMro "ValueError.__new__" = true
section
variable {X : Cx} {C : Addr} {x : Str}
theorem pmk_z {p pos : Pos} (T : ExZ X.K X.mg x C) (hg : Gl X x := by rfl) (hdb : (x == ("__debug__" : Str)) = false := by decide) : PMk X (.Call (.Name x p) [] [] pos) (fun _ H Q => Q (.ref C) none H) := by
  intro pins s σ H Q I h
  refine wpAny_Call_Name_kw (ld_glob I hg T.gC ?_ hdb)
  refine PySem.W.callWith_K0 I.kIn T.kC ?_
  obtain ⟨bm, N, nm, qn, bs, hdct, sn, sub, ab, col, dd, k0, k1, k2, k3, k5, mN, hC, hN, hni, tl⟩ := exc_obj I.kIn T.q
  exact wpAny_call_exc_subT PySem.F.excBase_ValueError tl hC hN hni (fun h' e hm => mk_of I hm (raises_own T.exC T.tyC) h (I.hok.gone hm.new)) (Nat.zero_le _)
end
theorem kitOne_exd {K : PySem.W.Frag} {C D : Addr} (h : PySem.W.subIn K (.ref D) (.ref C) = some false) (hne : D ≠ C) (hc : PySem.W.hasDictIn K C = true) (ht : PySem.W.typeIn K (.ref C) = some (.type "type")) : PySem.W.kitOne K (.ref D) (.ref C) = some false := by
  unfold PySem.W.kitOne
  rw [if_neg (by simpa using hne)]
  show (if _ then _ else _) = _
  rw [if_pos ?_]
  · exact h
  · rw [ht]
    obtain ⟨cd, e, _⟩ := PySem.W.any_some hc
    simp [e]
theorem kitOne_ve {K : PySem.W.Frag} {D : Addr} (h : PySem.W.subIn K (.ref D) (.type "ValueError") = some true) : PySem.W.kitOne K (.ref D) (.type "ValueError") = some true := by
  unfold PySem.W.kitOne
  rw [if_neg (by simp)]
  show (if PySem.W.kitMeta "ValueError" = true then PySem.W.subIn K (.ref D) (.type "ValueError") else none) = _
  rw [if_pos (by decide +kernel)]
  exact h
end Fm
/-! C(..) where what __init__ raises is wished for at the slots -/
namespace Fm
open PySem PySem.Spec PyProof.Rows L2 SlX
section
variable {X : Cx} {CX : CXT} {k : Nat} {f C : Addr} {fd : FuncData} {ps : List Str} {sp : Sp} {E : L2.St → XK} {x : Str} {p pos : Pos} {e : Expr} {es : List Expr} {t : TA}
theorem run_makeS {pins : List (Addr × Obj)} {σ : L2.St} {H : Hp} {s : Shared} {Q : VK} {us : List Value} {vs : List V} (M : Mk X.K C f) (F : FnOk X.prog X.w X.K X.mg X.base CX k f fd ps sp) (hr : Room (k + 1) X.A) (hb : Binds X.K fd ps [])
    (hx : PassesAt CX X σ (E σ)) (I : Inv X pins σ H s) (r : Vals vs us)
    (h : ∀ x dx, H x = none → H dx = none → dx ≠ x → sp (.ref x :: vs) (upd (upd H dx (.own x)) x (.ins C dx [])) (fun v H2 => v = .non ∧ Q (.ref x) H2) (E σ)) :
    wpAny (model X.prog X.w) X.A (call (.ref C) us) (EP X pins σ Q) X.xe s := by
  have hq := h (s.heap.objs.size + 1) s.heap.objs.size (I.hok.fresh (Nat.le_succ _)) (I.hok.fresh (Nat.le_refl _)) (Nat.ne_of_lt (Nat.lt_succ_self _))
  have I2 := Inv.made (C := C) I
  have r2 : Vals (V.ref (s.heap.objs.size + 1) :: vs) (Value.ref (s.heap.objs.size + 1) :: us) := .cons rfl r
  have hl : (Value.ref (s.heap.objs.size + 1) :: us).length = ps.length := by
    have e := r2.length
    rw [F.len _ _ _ _ hq] at e
    exact e.symm
  have b := hb { s with heap := (s.heap.push _).push _ } (Value.ref (s.heap.objs.size + 1) :: us) I2.kIn (by rw [List.append_nil]; exact hl)
  rw [List.append_nil] at b
  refine wpAny_call (make_map (f := f) I.kIn M.makes M.init (beq_iff_eq.mp M.fn) (codeAny_mono (F.run _ X.stack _ _ ⟨Value.ref (s.heap.objs.size + 1) :: us, []⟩ (Value.ref (s.heap.objs.size + 1) :: us) _ _ (E σ) (hr.make C us [])
    (I2.env0.make C us []) b r2 hq) fun r s' hq' => ?_))
  cases r with
  | error e => exact hx pins _ _ e s' I2 hq'
  | ok fl =>
    cases fl with
    | ret u =>
      obtain ⟨v, H', I3, rv, ev, q3⟩ := I2.after hq'
      subst ev
      exact ⟨rv, ⟨V.ref (s.heap.objs.size + 1), H', I3, rfl, q3⟩⟩
    | next => exact False.elim hq'
    | brk => exact False.elim hq'
    | cont => exact False.elim hq'
def tMakeS (C : Addr) (sp : Sp) (E : L2.St → XK) (t : TA) : TE := fun σ H Q => t σ H fun vs H1 => ∀ x dx, H1 x = none → H1 dx = none → dx ≠ x → sp (.ref x :: vs) (upd (upd H1 dx (.own x)) x (.ins C dx [])) (fun v H2 => v = .non ∧ Q (.ref x) H2) (E σ)
theorem pe_makeS (M : Mk X.K C f) (F : FnOk X.prog X.w X.K X.mg X.base CX k f fd ps sp) (hr : Room (k + 1) X.A) (hg : Gl X x) (hm : X.mg x = some (.ref C)) (hb : Binds X.K fd ps []) (hx : ∀ σ, PassesAt CX X σ (E σ))
    (ha : PA X (e :: es) t) (hdb : (x == ("__debug__" : Str)) = false := by decide) (he : starEach (e :: es) X.env = (false, eval e X.env) :: starEach es X.env := by rfl) (hpl : (backTo pos (starEach es X.env)).any (·.1) = false := by rfl) :
    PE X (.Call (.Name x p) (e :: es) [] pos) (tMakeS C sp E t) := by
  refine ⟨fun pins s σ H Q I h => ?_⟩
  refine wpAny_Call_Name_kw (ld_glob I hg hm ?_ hdb)
  refine PySem.W.callWith_K (h₀ := X.base) I.ok.mod.kin M.kp (thn (ha.run pos pins s σ H _ I h) fun us s1 ⟨vs, H1, I1, r, q⟩ => ⟨I1.kIn, ?_⟩) he hpl
  exact run_makeS M F hr hb (hx σ) I1 r q
end
end Fm
/-! a caught error: its class asked, its field read -/
namespace Fm
open PySem PySem.Spec PyProof.Rows L2
/-- a method of a class of the text -/
structure MethAt (K : PySem.W.Frag) (C : Addr) (m q : Str) (st : Stmt) (ps : List Str) where
  f : Addr
  fd : FuncData
  F : Fun K m q st f fd
  M : Meth K C m f
  b : Binds K fd ps []
/-- an error class without an __init__ of its own -/
structure ExN (K : PySem.W.Frag) (mg : Str → Option Value) (x : Str) (C : Addr) : Prop where
  gC : mg x = some (.ref C)
  exC : PySem.W.subIn K (.ref C) (.type "BaseException") = some true
  hdC : PySem.W.hasDictIn K C = true
  tyC : PySem.W.typeIn K (.ref C) = some (.type "type")
section
variable {X : Cx} {a : Addr} {oe : Obj} {cls : Value} {d : Option Addr} {pn : List (Addr × Obj)}
def rIsX (K : PySem.W.Frag) (a : Addr) (cls : Value) (d : Option Addr) : List V → Hp → VK → Prop := fun xs H Q => ∃ (D : Addr) (c : V) (cv : Value) (b : Bool), cls = .ref D ∧ ExcC K D ∧
  (d = none ∨ ∃ dd fs, d = some dd ∧ H dd = some (.xd fs)) ∧ xs = [.ref a, c] ∧ (∀ u, RelV c u → u = cv) ∧ PySem.W.kitOne K (.ref D) cv = some b ∧ Q (.bl b) H
theorem call_isX (hz : Zc cls d oe) (hf : ∃ vs, oe.data = .fields vs) : CallR (X.suite a ((a, oe) :: pn)) (.builtin "isinstance") (rIsX X.K a cls d) := by
  intro pins s σ H xs us Q I r h
  obtain ⟨D, c, cv, b, rfl, C, hd, rfl, hcv, e, q⟩ := h
  obtain ⟨u1, u2, rfl, rx, rt⟩ := vals2 r
  cases (show u1 = Value.ref a from rx)
  have ec := hcv _ rt
  subst ec
  obtain ⟨hget, _⟩ := I.pin (a, oe) (List.mem_append.mpr (.inl List.mem_cons_self))
  obtain ⟨vs, hv⟩ := hf
  have no : PySem.W.notCls oe = true := by
    unfold PySem.W.notCls
    rw [hv] <;> rfl
  obtain ⟨od, J⟩ : ∃ od, PySem.W.InstAt s.heap a oe D od := by
    rcases hd with rfl | ⟨dd, fs, rfl, hx⟩
    · refine ⟨none, hget, hz.1, no, ?_⟩
      rw [hz.2]
      trivial
    · obtain ⟨mA, hns, _⟩ := (show ObjOk X.prog X.w H s.heap dd (.xd fs) from I.hok dd _ hx)
      obtain ⟨od, ho, _⟩ := lookIn_ns hns
      refine ⟨some od, hget, hz.1, no, ?_⟩
      rw [hz.2]
      exact ho
  have hcl : (PySem.W.clsIn X.K D).isSome = true := by
    obtain ⟨cd, hc, _⟩ := PySem.W.any_some C.hd
    rw [hc]
    rfl
  exact PySem.W.kia_one (PySem.W.kitx_exc hcl C.hg C.hk C.hs C.ha C.hn C.ht C.hm) I.kIn J e (fun z => nomatch z) fun tk => ⟨.bl b, H, I.kept (t' := tk) fun _ _ z => z, rfl, q⟩
def tXfG (K : PySem.W.Frag) (a : Addr) (cls : Value) (d : Option Addr) (f : Str) (te : TE) : TE := fun σ H Q => te σ H fun x H1 => x = .ref a ∧ ∃ (C dd : Addr) (fs : List (Str × V)) (v : V), cls = .ref C ∧ XfC K C ∧ PySem.W.findIn K (.ref C) f = some none ∧
  d = some dd ∧ H1 dd = some (.xd fs) ∧ fs.lookup f = some v ∧ Q v H1
theorem pe_xfG {e : Expr} {te : TE} {pos : Pos} {n : Str} (hz : Zc cls d oe) (hf : ∃ vs, oe.data = .fields vs) (he : PE (X.suite a ((a, oe) :: pn)) e te) (hb : attributeBase e n X.env (eval e X.env) = eval e X.env := by rfl) :
    PE (X.suite a ((a, oe) :: pn)) (.Attribute e n pos) (tXfG X.K a cls d n te) := by
  refine ⟨fun pins s σ H Q I h => ?_⟩
  refine attr_of hb (thn (he.run pins s σ H _ I h) fun u s1 hh => ?_)
  obtain ⟨x, H1, I1, rx, rfl, C, dd, fs, v, rfl, T, hno, rfl, ea, l, q⟩ := hh
  obtain rfl : u = Value.ref a := rx
  obtain ⟨ha, _⟩ := I1.pin (a, oe) (List.mem_append_left _ List.mem_cons_self)
  obtain ⟨vs, hd⟩ := hf
  obtain ⟨mA, hns, hr⟩ := (show ObjOk X.prog X.w H1 s1.heap dd (.xd fs) from I1.hok dd _ ea)
  obtain ⟨od, ho, hl⟩ := lookIn_ns hns
  obtain ⟨u, hu, ru⟩ := RelO.some_of (v := v) (o := mA n) (by rw [← l]; exact hr n)
  have no : PySem.W.notCls oe = true := by
    unfold PySem.W.notCls
    rw [hd] <;> rfl
  have J : PySem.W.InstAt s1.heap a oe C (some od) := ⟨ha, hz.1, no, by rw [hz.2]; exact ho⟩
  exact HandSPX.exc_get I1.kIn J T.ga T.gg T.exC (PySem.W.findObj_own T.hdC hno rfl (by rw [hl, hu])) (handed_of ru) ⟨v, H1, I1.tok _, ru, q⟩
end
end Fm
namespace Fm
open PySem PySem.Spec PyProof.Rows L2
/-! ### pairs of a text and an int, by the text, then by the int -/
def ltSI (p q : Str × Int) : Bool := if p.1 = q.1 then decide (p.2 < q.2) else decide (p.1.cps.toList < q.1.cps.toList)
theorem str_ext {x y : Str} (h : x.cps.toList = y.cps.toList) : x = y := by
  cases x
  cases y
  simp only at h
  rw [Array.toList_inj.mp h]
theorem ltSI_no {p q : Str × Int} : ltSI p q = false ↔ (p.1 = q.1 ∧ q.2 ≤ p.2) ∨ (q.1.cps.toList < p.1.cps.toList) := by
  unfold ltSI
  by_cases e : p.1 = q.1
  · rw [if_pos e, decide_eq_false_iff_not, Int.not_lt]
    constructor
    · exact fun h => .inl ⟨e, h⟩
    · rintro (h | h)
      · exact h.2
      · rw [e] at h
        exact absurd h (List.lt_irrefl _)
  · rw [if_neg e, decide_eq_false_iff_not]
    constructor
    · intro h
      refine .inr ?_
      rcases Std.lt_trichotomy q.1.cps.toList p.1.cps.toList with z | z | z
      · exact z
      · exact absurd (str_ext z.symm) e
      · exact absurd z h
    · rintro (h | h)
      · exact absurd h.1 e
      · exact fun z => List.lt_irrefl _ (List.lt_trans z h)
theorem ltSI_yes {p q : Str × Int} : ltSI p q = true ↔ (p.1 = q.1 ∧ p.2 < q.2) ∨ (p.1.cps.toList < q.1.cps.toList) := by
  unfold ltSI
  by_cases e : p.1 = q.1
  · rw [if_pos e, decide_eq_true_iff]
    constructor
    · exact fun h => .inl ⟨e, h⟩
    · rintro (h | h)
      · exact h.2
      · rw [e] at h
        exact absurd h (List.lt_irrefl _)
  · rw [if_neg e, decide_eq_true_iff]
    constructor
    · exact fun h => .inr h
    · rintro (h | h)
      · exact absurd h.1 e
      · exact h
theorem swo_SI (k : Value → Str × Int) : SrtO.Swo fun v u => ltSI (k v) (k u) := by
  refine ⟨fun x y h => ?_, fun x y z h1 h2 => ?_⟩
  · refine ltSI_no.mpr ?_
    rcases ltSI_yes.mp h with ⟨a, b⟩ | a
    · exact .inl ⟨a.symm, by omega⟩
    · exact .inr a
  · refine ltSI_no.mpr ?_
    rcases ltSI_no.mp h1 with ⟨a, b⟩ | a
    · rcases ltSI_no.mp h2 with ⟨c, d⟩ | c
      · exact .inl ⟨c.trans a, by omega⟩
      · rw [a] at c
        exact .inr c
    · rcases ltSI_no.mp h2 with ⟨c, d⟩ | c
      · rw [← c] at a
        exact .inr a
      · exact .inr (List.lt_trans a c)
/-- v is a pair of a text and an int -/
def IsSI (h : Heap) (v : Value) (x : Str) (i : Int) : Prop := ∃ (a : Addr) (o : Obj) (t u : Tok) (n : Nat), v = .ref a ∧ h.get? a = some o ∧ o.cls = .type "tuple" ∧ o.data = .seq #[.str x t, .int i u] n
theorem IsSI.one {h : Heap} {v : Value} {x y : Str} {i j : Int} (a : IsSI h v x i) (b : IsSI h v y j) : x = y ∧ i = j := by
  obtain ⟨p, o, t, u, n, rfl, ho, _, hd⟩ := a
  obtain ⟨p', o', t', u', n', e, ho', _, hd'⟩ := b
  cases e
  rw [ho] at ho'
  cases ho'
  rw [hd] at hd'
  injection hd' with h1 _
  have h2 := congrArg Array.toList h1
  simp at h2
  exact ⟨h2.1.1, h2.2.1⟩
section
variable {prog : Program} {w : World} {A : Around} {E : Value → Shared → Prop} {s : Shared}
theorem si_cmp {vs : List Value} {k : Value → Str × Int} (hp : ∀ v ∈ vs, IsSI s.heap v (k v).1 (k v).2) : SrtO.Cmp prog w A s (tuples' true) (fun p => p.1 ∈ vs) (SrtO.lt2 fun v u => ltSI (k v) (k u)) := by
  intro p q hm hm'
  have h1 := hp _ hm
  have h2 := hp _ hm'
  show wpAny (model prog w) A (keyLt' (tuples' true) p.1 q.1) (fun r s' => s' = s ∧ r = ltSI (k p.1) (k q.1)) (fun _ _ => False) s
  generalize k p.1 = kp at h1 ⊢
  generalize k q.1 = kq at h2 ⊢
  obtain ⟨x, y⟩ := kp
  obtain ⟨x', y'⟩ := kq
  obtain ⟨a, o, t, u, n, e, ho, hc, hd⟩ := h1
  obtain ⟨a', o', t', u', n', e', ho', hc', hd'⟩ := h2
  rw [e, e']
  refine PySem.W.kat_lt ho hd ho' hd' ?_
  show PySem.W.KatLex prog w A true (decide (2 < 2)) _ [(.str x t, .str x' t'), (.int y u, .int y' u')] 0 s
  refine PySem.W.kat_cons (SeqAt.EqAt.str_str x t x' t' prog w _ _ ?_)
  refine PySem.W.kat_go (fun e1 => ?_) (fun e1 => ?_)
  · have ex : x = x' := by simpa using e1
    refine PySem.W.kat_yes (PySem.W.kat_cons (SeqAt.EqAt.int_int y u y' u' prog w _ _ ?_))
    refine PySem.W.kat_go (fun e2 => ?_) (fun e2 => ?_)
    · have ey : y = y' := by simpa using e2
      refine PySem.W.kat_yes (PySem.W.kat_nil ⟨rfl, ?_⟩)
      rw [ex, ey]
      exact (ltSI_no.mpr (.inl ⟨rfl, Int.le_refl _⟩)).symm
    · refine PySem.W.kat_no (PySem.W.kat_one _ _ (PyProof.Rows.lt_int ?_))
      refine (show s = s ∧ decide (y < y') = ltSI (x, y) (x', y') from ⟨rfl, ?_⟩)
      unfold ltSI
      rw [if_pos ex]
  · have ex : ¬ x = x' := by simpa using e1
    refine PySem.W.kat_no (PyProof.Rows.oneLt_str ⟨rfl, ?_⟩)
    unfold ltSI
    rw [if_neg ex]
/-- their first items -/
theorem si_firsts : ∀ vs : List Value, (∀ v ∈ vs, ∃ x i, IsSI s.heap v x i) → ∃ fs, PySem.W.KatTups s.heap vs fs ∧ fs.length = vs.length ∧ ∀ f ∈ fs, ∃ x t, f = Value.str x t
  | [], _ => ⟨[], .nil, rfl, fun _ h => nomatch h⟩
  | v :: vs, h => by
    obtain ⟨fs, k, hl, hi⟩ := si_firsts vs fun u hu => h u (by simp [hu])
    obtain ⟨x, i, a, o, t, u, n, rfl, ho, hc, hd⟩ := h v (by simp)
    refine ⟨.str x t :: fs, .cons ho hc hd rfl k, by simp [hl], fun f hf => ?_⟩
    rcases List.mem_cons.mp hf with rfl | hf
    · exact ⟨x, t, rfl⟩
    · exact hi f hf
theorem si_sortable {a : Addr} {vs : List Value} {k : Value → Str × Int} (h0 : 0 < vs.length) (hp : ∀ v ∈ vs, IsSI s.heap v (k v).1 (k v).2) (ha : ∀ o, s.heap.get? a = some o → o.cls ≠ .type "tuple") : SrtO.SortableO prog w A s a vs fun v u => ltSI (k v) (k u) := by
  intro h' keep
  have hp' : ∀ v ∈ vs, IsSI h' v (k v).1 (k v).2 := fun v hm => by
    obtain ⟨p, o, t, u, n, e, ho, hc, hd⟩ := hp v hm
    exact ⟨p, o, t, u, n, e, keep p o (fun z => by subst z; exact ha o ho hc) ho, hc, hd⟩
  obtain ⟨fs, h1, h2, h3⟩ := si_firsts (s := { s with heap := h' }) vs fun v hm => ⟨_, _, hp' v hm⟩
  refine ⟨tuples' true, fun Q E hq => ?_, si_cmp hp'⟩
  refine PySem.W.kat_kind (T := .type "str") h1 (by omega) (fun f hm => ?_) (by rfl) ?_
  · obtain ⟨x, t, rfl⟩ := h3 f hm
    exact PySem.W.Looks.now
  · have e : (Value.type "str" != Value.type "tuple") = true := by first | decide +kernel | rfl | decide
    rw [e]
    exact hq
end
section
variable {X : Cx}
/-- d.items() -/
def rItemsK : V → List V → Hp → VK → Prop := fun x xs H Q => ∃ (a : Addr) (kvs : List (L2.Key × V)), x = .ref a ∧ xs = [] ∧ H a = some (.dK kvs) ∧ ∀ p, H p = none → Q (.ref p) (upd H p (DX.itemsO p a))
theorem mt_itemsK : MtR X "dict.items" rItemsK := by
  intro pins s σ H x xs v us Q I rx rxs h
  obtain ⟨a, kvs, rfl, rfl, ha, q⟩ := h
  cases rx
  cases rxs
  obtain ⟨_, hd, _, _, o, es, ep, ho, hx, hdat, _⟩ := dk_of I.hok ha
  refine DT.callItems (es := es) (ep := ep) hd ⟨o, ho, hx, hdat⟩ ?_
  have hf : H s.heap.objs.size = none := I.hok.fresh (Nat.le_refl _)
  exact ⟨.ref s.heap.objs.size, _, I.laid (t' := s.toks) (fun b u e => Heap.get?_push_of_some _ e) (Nat.le_refl _) (DX.itemsO_ok (Heap.get?_push_size _ rfl)), rfl, q _ hf⟩
theorem pairs_at {P : Program} {w : World} : ∀ {es : List DictEntry} {vs : List (L2.Key × Value)}, Pairs (mixKind P w) es vs → ∀ (j : Nat), (∀ e, es[j]? = some e → ∃ kv, vs[j]? = some kv ∧ keyIs kv.1 e.key = true ∧ e.val = kv.2) ∧ es.length = vs.length
  | _, _, .nil, j => ⟨fun e h => by simp at h, rfl⟩
  | _, _, .cons h1 h2 h3, 0 => ⟨fun e h => by
      simp at h
      subst h
      exact ⟨_, rfl, h1, h2⟩, by simp [(pairs_at h3 0).2]⟩
  | _, _, .cons h1 h2 h3, j + 1 => ⟨fun e h => by
      obtain ⟨kv, a, b⟩ := (pairs_at h3 j).1 e (by simpa using h)
      exact ⟨kv, by simpa using a, b⟩, by simp [(pairs_at h3 0).2]⟩
abbrev rowK (r : Str × Int) : L2.Key × V := (Sum.inr r.1, .int r.2)
/-- sorted(d.items()), keys texts, values ints -/
def rSortSI : List V → Hp → VK → Prop := fun xs H Q => ∃ (p a : Addr) (rows : List (Str × Int)), xs = [.ref p] ∧ H p = some (DX.itemsO p a) ∧ H a = some (.dK (rows.map rowK)) ∧
  ∀ (H' : Hp) (l : Addr) (ps : List (Addr × Str × Int)), (∀ b o, H b = some o → H' b = some o) → H l = none → (ps.map (·.2)).Perm rows → (ps.map (·.2)).Pairwise (fun e f => e.1.cps.toList < f.1.cps.toList) → H' l = some (.lst (ps.map fun z => V.ref z.1)) →
    (∀ z ∈ ps, H' z.1 = some (.tup [.str z.2.1, .int z.2.2])) → Q (.ref l) H'
theorem cr_sortSI (hc : X.calm = true) : CallR X (.builtin "sorted") rSortSI := by
  intro pins s σ H xs us Q I r h
  obtain ⟨p, a, rows, rfl, hp, ha, q⟩ := h
  obtain rfl := Vals.ref1 r
  have view : s.heap.IsItemsView p a := (show ObjOk X.prog X.w H s.heap p (DX.itemsO p a) from I.hok p _ hp).1
  obtain ⟨z, hd, vs', kv, o, es, ep, ho, hx, hdat, _, hpr, hnd⟩ := dk_of I.hok ha
  have l1 : (rows.map rowK).length = vs'.length := Paired.length kv
  rw [List.length_map] at l1
  have l2 : es.size = vs'.length := by
    have := (pairs_at hpr 0).2
    simpa using this
  rw [List.length_map] at z
  have hh : X.A.handled = none := I.ok.hd hc
  refine DT.sortedI (es := es) (ep := ep) hh view ⟨o, ho, hx, hdat⟩ (by omega) fun h' tk as hk hlt hl hG => ?_
  have lak : as.length = rows.length := by omega
  have nd : as.Nodup := List.Pairwise.imp (fun h => Nat.ne_of_lt h) hG.rise
  have pr : ∀ (j : Nat) (b : Addr), as[j]? = some b → ∃ (e : Str × Int), rows[j]? = some e ∧ IsSI h' (.ref b) e.1 e.2 ∧ ∃ t u, h'.get? b = some { cls := .type "tuple", data := .seq #[.str e.1 t, .int e.2 u] } := by
    intro j b hj
    obtain ⟨en, he, hg⟩ := hG.pairs j b hj
    obtain ⟨kq, h1, h2, h3⟩ := (pairs_at hpr j).1 en (by rw [Array.getElem?_toList]; exact he)
    obtain ⟨x, hx1, hx2, hx3⟩ := DX.pget kv h1
    rw [List.getElem?_map] at hx1
    obtain ⟨e, e1, rfl⟩ := Option.map_eq_some_iff.mp hx1
    rw [← hx2] at h2
    obtain ⟨t, e2⟩ : ∃ t, en.key = Value.str e.1 t := by
      rcases keyIs_shape h2 with ⟨i, t, z, _⟩ | ⟨y, t, z1, z2⟩
      · cases z
      · cases z1
        exact ⟨t, z2⟩
    obtain ⟨u, e3⟩ : ∃ u, en.val = Value.int e.2 u := by
      rw [h3]
      obtain ⟨u, hu⟩ := (show ∃ u, kq.2 = Value.int e.2 u from hx3)
      exact ⟨u, hu⟩
    rw [e2, e3] at hg
    exact ⟨e, e1, ⟨b, _, t, u, 0, rfl, hg, rfl, rfl⟩, t, u, hg⟩
  have hob : (h'.push { cls := .type "list", data := .seq (as.map Value.ref).toArray }).get? h'.objs.size = some (seqObj "list" (as.map Value.ref).toArray 0) := Heap.get?_push_size _ rfl
  have ka : ∀ b o, h'.get? b = some o → (h'.push { cls := .type "list", data := .seq (as.map Value.ref).toArray }).get? b = some o := fun b o e => Heap.get?_push_of_some _ e
  have ne0 : ∀ b o, h'.get? b = some o → b ≠ h'.objs.size := fun b o e => Nat.ne_of_lt (Heap.lt_size e)
  generalize h'.push { cls := .type "list", data := .seq (as.map Value.ref).toArray } = h2 at hob ka ⊢
  have kb : ∀ b o, s.heap.get? b = some o → h2.get? b = some o := fun b o e => ka _ _ (hk b o e)
  -- the pair that a value is
  obtain ⟨k, hkv⟩ : ∃ k : Value → Str × Int, ∀ (j : Nat) (b : Addr), as[j]? = some b → some (k (.ref b)) = rows[j]? := by
    refine ⟨fun v => match v with | .ref b => (rows[as.idxOf b]?).getD ("", 0) | _ => ("", 0), fun j b hj => ?_⟩
    have hjl : j < as.length := (List.getElem?_eq_some_iff.mp hj).1
    have hjb : as[j] = b := (List.getElem?_eq_some_iff.mp hj).2
    have e : as.idxOf b = j := by
      rw [← hjb]
      exact List.Nodup.idxOf_getElem nd j hjl
    dsimp only
    rw [e, List.getElem?_eq_getElem (by omega : j < rows.length)]
    rfl
  have isS : ∀ v ∈ as.map Value.ref, IsSI h2 v (k v).1 (k v).2 := by
    intro v hv
    obtain ⟨b, hb, rfl⟩ := List.mem_map.mp hv
    obtain ⟨j, hj⟩ := List.mem_iff_getElem?.mp hb
    obtain ⟨e, he, ⟨b', o, t, u, n, eb, hg, hc', hd'⟩, _⟩ := pr j b hj
    have := hkv j b hj
    rw [he] at this
    rw [Option.some.inj this]
    exact ⟨b', o, t, u, n, eb, ka _ _ hg, hc', hd'⟩
  refine wpAny_call_entry PyProof.Rows.slot_list_sort ⟨_, hob, rfl⟩ PyProof.Rows.entry_list_sort
    (SrtO.list_sort_ord (s := { s with heap := h2, toks := tk }) (swo_SI k) hob (by rw [List.length_map]; omega) (fun h2l => si_sortable (by omega) isS fun o e => ?_) fun out o1 o2 => ⟨.none, rfl, ?_⟩) (PyProof.Rows.args_list_sort _)
  · have e' : h2.get? h'.objs.size = some o := e
    rw [hob] at e'
    cases e'
    exact fun z => absurd (Value.type.inj z) (by decide)
  · show EP X pins σ Q (.ref h'.objs.size) { s with heap := sortedHeap h2 h'.objs.size (as.map Value.ref) out.toArray, toks := tk }
    have hperm := o2.perm
    obtain ⟨bs, pb, eb⟩ := perm_lift Value.ref hperm as rfl
    subst eb
    have idx : ∀ b ∈ bs, ∃ j : Nat, as[j]? = some b ∧ rows[j]? = some (k (.ref b)) := by
      intro b hb
      obtain ⟨j, hj⟩ := List.mem_iff_getElem?.mp (pb.mem_iff.mp hb)
      exact ⟨j, hj, (hkv j b hj).symm⟩
    have e0 : as.map (fun b => k (.ref b)) = rows := by
      refine List.ext_getElem? fun j => ?_
      rw [List.getElem?_map]
      cases hj : as[j]? with
      | none =>
        have : rows.length ≤ j := by
          rw [← lak]
          exact List.getElem?_eq_none_iff.mp hj
        rw [List.getElem?_eq_none this]
        rfl
      | some b => exact hkv j b hj
    have pRows : ((bs.map fun b => (b, k (.ref b))).map (·.2)).Perm rows := by
      rw [List.map_map, ← e0]
      exact pb.map _
    have nodupK : (rows.map (·.1)).Nodup := by
      have e9 : vs'.map (·.1) = (rows.map (·.1)).map Sum.inr := by
        have : ∀ {l : List (L2.Key × V)} {m : List (L2.Key × Value)}, KV l m → m.map (·.1) = l.map (·.1) := by
          intro l m hK
          induction hK with
          | nil => rfl
          | cons h _ ih => rw [List.map_cons, List.map_cons, ih, h.1]
        rw [this kv, List.map_map, List.map_map]
        rfl
      rw [e9] at hnd
      exact (List.pairwise_map.mp hnd).imp fun h z => h (by rw [z])
    have sRows : ((bs.map fun b => (b, k (.ref b))).map (·.2)).Pairwise (fun e f => e.1.cps.toList < f.1.cps.toList) := by
      have n2 : ((bs.map fun b => (b, k (.ref b))).map (·.2)).Pairwise (fun e f => e.1 ≠ f.1) := by
        have := (pRows.map (·.1)).nodup_iff.mpr nodupK
        exact List.pairwise_map.mp this
      have n1 : ((bs.map fun b => (b, k (.ref b))).map (·.2)).Pairwise (fun e f => ltSI f e = false) := by
        rw [List.map_map, List.pairwise_map]
        exact List.pairwise_map.mp o1
      refine (n1.and n2).imp fun {e f} h => ?_
      rcases ltSI_no.mp h.1 with z | z
      · exact absurd z.1.symm h.2
      · exact z
    have kF : ∀ b o, b ≠ h'.objs.size → h2.get? b = some o → (sortedHeap h2 h'.objs.size (as.map Value.ref) (bs.map Value.ref).toArray).get? b = some o := fun b o hb e => (PyProof.Rows.sortedHeap_old hb (Heap.lt_size e)).trans e
    have kS : ∀ b o, s.heap.get? b = some o → (sortedHeap h2 h'.objs.size (as.map Value.ref) (bs.map Value.ref).toArray).get? b = some o := fun b o e => kF b o (ne0 _ _ (hk b o e)) (kb b o e)
    obtain ⟨eF, heF⟩ := PyProof.Rows.sortedHeap_at (vs := as.map Value.ref) (out := (bs.map Value.ref).toArray) hob
    have I1 : Inv X pins σ H { s with heap := sortedHeap h2 h'.objs.size (as.map Value.ref) (bs.map Value.ref).toArray, toks := tk } := I.kept (t' := tk) kS
    have hn0 : H h'.objs.size = none := I.hok.fresh (Nat.le_of_lt hlt)
    have hlen : (bs.map V.ref).length ≤ sizeLine := by
      rw [List.length_map, pb.length_eq]
      omega
    have rv : Vals (bs.map V.ref) (bs.map Value.ref) := vals_refs bs
    have I2 : Inv X pins σ (upd H h'.objs.size (.lst (bs.map V.ref))) { s with heap := sortedHeap h2 h'.objs.size (as.map Value.ref) (bs.map Value.ref).toArray, toks := tk } :=
      I1.take (h' := sortedHeap h2 h'.objs.size (as.map Value.ref) (bs.map Value.ref).toArray) (t' := tk) (fun b ob _ e => e) (I.fpOk (Nat.le_of_lt hlt) hn0) ⟨hlen, bs.map Value.ref, eF, rv, heF⟩
    obtain ⟨H2, I3, g, qt⟩ := DX.takeT (P := fun b vs => vs = [.str (k (.ref b)).1, .int (k (.ref b)).2]) I as _ I2 nd fun b hb => by
      obtain ⟨j, hj⟩ := List.mem_iff_getElem?.mp hb
      obtain ⟨e, he, _, t, u, hg⟩ := pr j b hj
      have ek : k (.ref b) = e := by
        have := hkv j b hj
        rw [he] at this
        exact Option.some.inj this
      have hbl : s.heap.objs.size ≤ b := Nat.le_of_lt (hG.above b hb)
      refine ⟨hbl, ?_, _, rfl, fun H3 => ⟨(by show 2 ≤ sizeLine; decide), [Value.str e.1 t, Value.int e.2 u], ?_, ⟨_, kF _ _ (ne0 _ _ hg) (ka _ _ hg), rfl, 0, rfl⟩⟩⟩
      · rw [upd_ne (ne0 _ _ hg)]
        exact I.hok.fresh hbl
      · rw [ek]
        exact .cons ⟨t, rfl⟩ (.cons ⟨u, rfl⟩ .nil)
    have gr : ∀ b o, H b = some o → H2 b = some o := fun b o e => g b o (by rw [upd_ne (ne_of_none e hn0)]; exact e)
    refine ⟨.ref h'.objs.size, H2, I3, rfl, q H2 h'.objs.size (bs.map fun b => (b, k (.ref b))) gr hn0 pRows sRows ?_ fun z' hz' => ?_⟩
    · rw [List.map_map]
      exact g _ _ upd_same
    · obtain ⟨b, hb, rfl⟩ := List.mem_map.mp hz'
      obtain ⟨vs, ev, hH⟩ := qt b (pb.mem_iff.mp hb)
      rw [hH, ev]
end
end Fm
/-! sorted(xs, key=f), f a def of the text -/
namespace Fm
open PySem PySem.Spec PyProof.Rows L2
/-- keys of one kind, and their order -/
structure KOrd (prog : Program) (w : World) (keys : List Value) (ltk : Value → Value → Bool) : Prop where
  swo : SrtO.Swo ltk
  kind : 2 ≤ keys.length → keyKind' keys.toArray = pure oneType'
  cmp : ∀ A s, SrtO.Cmp prog w A s oneType' (fun p => p.1 ∈ keys) (SrtO.lt2 ltk)
theorem kord_ints {prog : Program} {w : World} {keys : List Value} {ns : List Int} (h : IntsAre keys ns) : KOrd prog w keys SrtO.ltIv := by
  refine ⟨SrtO.swo_int, fun h2 => ?_, fun A s => SrtO.int_cmp h⟩
  match keys, h, h2 with
  | v1 :: v2 :: rest, h, _ => exact keyKind_ints h
  | [], _, h => exact absurd h (by decide)
  | [v], _, h => exact absurd h (by simp)
def sv : Value → List Nat
  | .str x _ => x.cps.toList
  | _ => []
def ltSv (v u : Value) : Bool := decide (sv v < sv u)
theorem swo_str : SrtO.Swo ltSv := by
  refine ⟨fun x y h => ?_, fun x y z h1 h2 => ?_⟩
  · have a := of_decide_eq_true (p := sv x < sv y) h
    exact decide_eq_false (p := sv y < sv x) (List.lt_asymm a)
  · have a := of_decide_eq_false (p := sv y < sv x) h1
    have b := of_decide_eq_false (p := sv z < sv y) h2
    exact decide_eq_false (p := sv z < sv x) (List.not_lt.mpr (List.le_trans (List.not_lt.mp a) (List.not_lt.mp b)))
theorem strs_mem : ∀ {vs : List Value} {ns : List Str}, StrsAre vs ns → ∀ v ∈ vs, ∃ i t, v = Value.str i t
  | _, _, .nil, v, h => absurd h (by simp)
  | _, _, .cons n t r, v, h => by
    rcases List.mem_cons.mp h with e | h
    · exact ⟨n, t, e⟩
    · exact strs_mem r v h
theorem kord_strs {prog : Program} {w : World} {keys : List Value} {ns : List Str} (h : StrsAre keys ns) : KOrd prog w keys ltSv := by
  refine ⟨swo_str, fun h2 => ?_, fun A s p q hm hm' => ?_⟩
  · match keys, h, h2 with
    | v1 :: v2 :: rest, h, _ => exact keyKind_strs h
    | [], _, h => exact absurd h (by decide)
    | [v], _, h => exact absurd h (by simp)
  · obtain ⟨a, t, e⟩ := strs_mem h _ hm
    obtain ⟨b, u, e'⟩ := strs_mem h _ hm'
    show wpAny (model prog w) A (keyLt' oneType' p.1 q.1) (fun r s' => s' = s ∧ r = ltSv p.1 q.1) (fun _ _ => False) s
    rw [e, e', keyLt'_oneType]
    exact oneLt_str ⟨rfl, rfl⟩
section
variable {prog : Program} {w : World} {A : Around} {E : Value → Shared → Prop} {s : Shared}
/-- the list written anew -/
theorem key_tail {a kS : Addr} {e e1 : Nat} {vs keys : List Value} {st : SortSt} {R : PySem.Fin → Shared → Prop} (hl : keys.length = vs.length) (hz : vs.length ≤ sizeLine) (hka : kS ≠ a)
    (hk : s.heap.get? kS = some (seqObj "list" keys.toArray e)) (ha : s.heap.get? a = some (seqObj "list" #[] e1)) (hp : (arrOf st).toList.Perm (keys.zip vs)) (hfl : failedOf st = none)
    (h : ∀ hm h' : Heap, (∀ b o, b ≠ kS → s.heap.get? b = some o → hm.get? b = some o) → (∃ n, hm.get? kS = some (seqObj "list" #[] n)) → (∀ b o, b ≠ a → hm.get? b = some o → h'.get? b = some o) → (∃ n, h'.get? a = some (seqObj "list" ((arrOf st).toList.map (·.2)).toArray n)) → R (.done (.ret .none)) { s with heap := h' }) :
    wpAny (model prog w) A (ksk_tail a false e1 (.ref kS) st) R E s := by
  have hsz2 : (arrOf st).size = vs.length := by
    rw [← Array.length_toList, hp.length_eq, List.length_zip]
    omega
  have s1 := Heap.SameBut.update s.heap kS (Obj.mapSeq fun _ => (#[] : Array Value))
  have ha1 : (s.heap.update kS (Obj.mapSeq fun _ => (#[] : Array Value))).get? a = some (seqObj "list" #[] e1) := (s1.2 a hka.symm).trans ha
  have s2 := Heap.SameBut.update (s.heap.update kS (Obj.mapSeq fun _ => (#[] : Array Value))) a (Obj.mapSeq fun _ => (arrOf st).map (·.2))
  obtain ⟨c2, hc2⟩ : ∃ c2, ((s.heap.update kS (Obj.mapSeq fun _ => (#[] : Array Value))).update a (Obj.mapSeq fun _ => (arrOf st).map (·.2))).get? a = some (seqObj "list" ((arrOf st).map (·.2)) c2) := ⟨_, get?_update_seq ha1 fun _ => (arrOf st).map (·.2)⟩
  unfold ksk_tail
  try dsimp only
  refine wpAny_bind (listUpdate_at hk rfl ?_ (by rw [List.size_toArray, hl]; exact hz) (Nat.zero_le _))
  refine wpAny_bind (wpAny_letGo ?_)
  refine wpAny_bind (seqEpoch_at ha1 rfl ?_)
  refine wpAny_bind (listUpdate_at ha1 rfl ?_ (Nat.zero_le _) (by simp only [Bool.false_eq_true, if_false, Array.size_map]; omega))
  rw [hfl]
  simp only [bne_self_eq_false, Bool.false_eq_true, if_false]
  refine wpAny_pure (h _ _ (fun b o hb2 z => (s1.2 b hb2).trans z) ⟨_, get?_update_seq hk fun _ => #[]⟩ (fun b o hb z => (s2.2 b hb).trans z) ⟨c2, ?_⟩)
  rw [hc2, ← Array.toList_map, Array.toArray_toList]
/-- behind the keys: the sort, and the list written anew -/
theorem key_end {a kS : Addr} {e e1 : Nat} {vs keys : List Value} {ltk : Value → Value → Bool} {R : PySem.Fin → Shared → Prop} (O : KOrd prog w keys ltk) (hl : keys.length = vs.length) (hz : vs.length ≤ sizeLine) (hka : kS ≠ a)
    (hk : s.heap.get? kS = some (seqObj "list" keys.toArray e)) (ha : s.heap.get? a = some (seqObj "list" #[] e1))
    (h : ∀ (hm h' : Heap) (out : List Keyed), SrtO.Srtd (SrtO.lt2 ltk) out → out.Perm (keys.zip vs) → (∀ b o, b ≠ kS → s.heap.get? b = some o → hm.get? b = some o) → (∃ n, hm.get? kS = some (seqObj "list" #[] n)) → (∀ b o, b ≠ a → hm.get? b = some o → h'.get? b = some o) → (∃ n, h'.get? a = some (seqObj "list" (out.map (·.2)).toArray n)) → R (.done (.ret .none)) { s with heap := h' }) :
    wpAny (model prog w) A (ksk_end a false vs.toArray e1 (.ref kS) keys.toArray) R E s := by
  have hzl : (keys.toArray.zip vs.toArray).toList = keys.zip vs := by simp
  unfold ksk_end
  try dsimp only
  simp only [Bool.false_eq_true, if_false]
  by_cases h2 : vs.toArray.size < 2
  · rw [if_pos h2, if_pos h2]
    refine wpAny_bind (wpAny_pure ?_)
    rw [StateT.run_pure]
    refine wpAny_bind (wpAny_pure ?_)
    try dsimp only
    refine key_tail (st := SortSt.mk' general' (keys.toArray.zip vs.toArray) #[] 7 none) hl hz hka hk ha (by show (keys.toArray.zip vs.toArray).toList.Perm _; rw [hzl]) rfl fun hm h' k1 k2 k3 k4 => h hm h' _ ?_ ?_ k1 k2 k3 k4
    · show List.Pairwise _ (keys.toArray.zip vs.toArray).toList
      rw [hzl]
      rw [List.size_toArray] at h2
      match keys, vs, hl, h2 with
      | [], [], _, _ => exact List.Pairwise.nil
      | [x], [y], _, _ => exact List.pairwise_singleton _ _
      | _ :: _ :: _, _ :: _ :: _, _, h2 => exact absurd h2 (by simp)
    · show (keys.toArray.zip vs.toArray).toList.Perm _
      rw [hzl]
  · rw [if_neg h2, if_neg h2]
    rw [List.size_toArray] at h2
    rw [O.kind (by omega)]
    refine wpAny_bind (wpAny_pure ?_)
    have hall : SrtO.AllL (fun p : Keyed => p.1 ∈ keys) (keys.toArray.zip vs.toArray).toList := fun p hm => by
      rw [hzl] at hm
      exact (List.of_mem_zip (show (p.1, p.2) ∈ keys.zip vs from hm)).1
    refine wpAny_bind (wpAny_mono (SrtO.wpS_sortO (st0 := SortSt.mk' oneType' (keys.toArray.zip vs.toArray) #[] 7 none)
      (Q := fun _ st' => SrtO.Srtd (SrtO.lt2 ltk) (arrOf st').toList ∧ SrtO.Stb (SrtO.lt2 ltk) (arrOf st').toList (keys.toArray.zip vs.toArray).toList ∧ failedOf st' = none) (SrtO.swo2 O.swo) (O.cmp A s) rfl hall rfl rfl fun st' a1 a2 a3 => ⟨a1, a2, a3⟩) ?_ fun _ _ e => e)
    rintro ⟨⟨⟩, st'⟩ s' ⟨rfl, hp1, hp2, hf⟩
    try dsimp only
    have hp3 := hp2.perm
    rw [hzl] at hp3
    exact key_tail hl hz hka hk ha hp3 hf fun hm h' k1 k2 k3 k4 => h hm h' _ hp1 hp3 k1 k2 k3 k4
end
/-- the order of keys -/
def ltV : V → V → Bool
  | .int i, .int j => decide (i < j)
  | .str x, .str y => decide (x.cps.toList < y.cps.toList)
  | _, _ => false
def KeysV (ks : List V) : Prop := (∃ ns : List Int, ks = ns.map V.int) ∨ (∃ xs : List Str, ks = xs.map V.str)
theorem strs_of_vals : ∀ {xs : List Str} {us : List Value}, Vals (xs.map V.str) us → StrsAre us xs
  | [], _, h => by
    cases h
    exact .nil
  | x :: xs, _, h => by
    cases h with
    | cons r t =>
      obtain ⟨k, rfl⟩ := (show ∃ k, _ = Value.str x k from r)
      exact .cons x k (strs_of_vals t)
theorem kord_of {prog : Program} {w : World} {ks : List V} {us : List Value} (h : KeysV ks) (r : Vals ks us) : ∃ ltk, KOrd prog w us ltk ∧ ∀ (i j : Nat) (k l : V) (u v : Value), ks[i]? = some k → ks[j]? = some l → RelV k u → RelV l v → ltk u v = ltV k l := by
  rcases h with ⟨ns, rfl⟩ | ⟨xs, rfl⟩
  · refine ⟨SrtO.ltIv, kord_ints r.ints, fun i j k l u v hk hl ru rv => ?_⟩
    rw [List.getElem?_map] at hk hl
    obtain ⟨n, _, rfl⟩ := Option.map_eq_some_iff.mp hk
    obtain ⟨m, _, rfl⟩ := Option.map_eq_some_iff.mp hl
    obtain ⟨t, rfl⟩ := (show ∃ t, u = Value.int n t from ru)
    obtain ⟨t', rfl⟩ := (show ∃ t, v = Value.int m t from rv)
    rfl
  · refine ⟨ltSv, kord_strs (strs_of_vals r), fun i j k l u v hk hl ru rv => ?_⟩
    rw [List.getElem?_map] at hk hl
    obtain ⟨n, _, rfl⟩ := Option.map_eq_some_iff.mp hk
    obtain ⟨m, _, rfl⟩ := Option.map_eq_some_iff.mp hl
    obtain ⟨t, rfl⟩ := (show ∃ t, u = Value.str n t from ru)
    obtain ⟨t', rfl⟩ := (show ∃ t, v = Value.str m t from rv)
    rfl
section
variable {X : Cx} {n : Nat} {f : Addr} {sp : Sp}
def rSortK (K : PySem.W.Frag) (f : Addr) (sp : Sp) : List V → List V → Hp → VK → Prop := fun vs zs H Q => ∃ (a : Addr) (xs ks : List V), vs = [.ref a] ∧ zs = [.ref f] ∧ (SqL K H a xs ∨ SqT K H a xs) ∧ ks.length = xs.length ∧ KeysV ks ∧
  (∀ (i : Nat) (x k : V), xs[i]? = some x → ks[i]? = some k → ∀ Q' : VK, Q' k H → sp [x] H Q' E0) ∧
  ∀ (ps : List (V × V)) (p : Addr) (H' : Hp), ps.Perm (ks.zip xs) → ps.Pairwise (fun p q => ltV q.1 p.1 = false) → H p = none → (∀ b o, H b = some o → H' b = some o) → H' p = some (.lst (ps.map (·.2))) → Q (.ref p) H'
/-- the keys, one by one -/
theorem key_loop {pins : List (Addr × Obj)} {s : Shared} {σ : L2.St} {H : Hp} {a kS : Addr} {e1 : Nat} {xs ks : List V} {us : List Value} {R : PySem.Fin → Shared → Prop} {A : Around} {E : Value → Shared → Prop}
    (F : FnR X.prog X.w X.K X.mg X.base CX0 n f sp) (hA : A = X.A.in1.in1) (hr : Room n A) (hx : Passes CX0 X E0) (hl : ks.length = xs.length) (hv : Vals xs us) (hz : xs.length ≤ sizeLine)
    (hsp : ∀ (i : Nat) (x k : V), xs[i]? = some x → ks[i]? = some k → ∀ Q' : VK, Q' k H → sp [x] H Q' E0) (hka : kS ≠ a) (fa : FpOk X pins H a) (fk : FpOk X pins H kS)
    (I : Inv X (pins ++ [(kS, seqObj "list" #[] 0), (a, seqObj "list" #[] e1)]) σ H s)
    (h : ∀ (s' : Shared) (keys : List Value) (e : Nat), Inv X (pins ++ [(kS, seqObj "list" keys.toArray e), (a, seqObj "list" #[] e1)]) σ H s' → Vals ks keys → wpAny (model X.prog X.w) A (ksk_end a false us.toArray e1 (.ref kS) keys.toArray) R E s') :
    wpAny (model X.prog X.w) A (ksk_rest a (.ref f) false us.toArray e1 (.ref kS)) R E s := by
  have hlu : us.length = xs.length := hv.length.symm
  unfold ksk_rest
  refine wpAny_bind (wpAny_rule ?_)
  rw [List.forIn_toArray]
  refine wpAny_bind (ksk_fold (fun i s' => ∃ (kA : List Value) (e : Nat), Inv X (pins ++ [(kS, seqObj "list" kA.toArray e), (a, seqObj "list" #[] e1)]) σ H s' ∧ Vals (ks.take i) kA) us 0 s ⟨[], 0, I, by simpa using Paired.nil⟩ ?step ?done)
  case step =>
    rintro j x s' hx' ⟨kA, e, I', hk⟩
    simp only [Nat.zero_add] at hk ⊢
    have hj : j < us.length := (List.getElem?_eq_some_iff.mp hx').1
    obtain ⟨k, hkj⟩ : ∃ k, ks[j]? = some k := ⟨_, List.getElem?_eq_getElem (by omega)⟩
    obtain ⟨xv, hxj, rx⟩ : ∃ xv, xs[j]? = some xv ∧ RelV xv x := by
      have hjx : j < xs.length := by omega
      obtain ⟨u, hu, ru⟩ := hv.get (List.getElem?_eq_getElem hjx)
      rw [hx'] at hu
      cases hu
      exact ⟨_, List.getElem?_eq_getElem hjx, ru⟩
    have e0 : Env0 X.prog X.w X.K X.mg X.base A X.stack s' H := by
      rw [hA]
      exact I'.env0.in1.in1
    have hc : codeAny (model X.prog X.w) A (.call (.ref f) ⟨[x], []⟩) (fun r s'' => match r with | .ok (.ret u) => EP X (pins ++ [(kS, seqObj "list" kA.toArray e), (a, seqObj "list" #[] e1)]) σ (fun v H' => v = k ∧ H' = H) u s'' | .ok _ => False | .error _ => False) s' := by
      refine codeAny_mono (F A X.stack s' H [x] [xv] (fun v H' => v = k ∧ H' = H) E0 hr e0 (.cons rx .nil) (hsp j xv k hxj hkj _ ⟨rfl, rfl⟩)) fun r s'' hq => ?_
      cases r with
      | error e => exact hq
      | ok fl =>
        cases fl with
        | ret u => exact I'.after hq
        | next => exact hq
        | brk => exact hq
        | cont => exact hq
    refine wpAny_bind (wpAny_attempt (wpAny_mono (wpAny_call (E := fun _ _ => False) hc) (fun u s'' he => ?_) fun _ _ hF => hF.elim))
    obtain ⟨v, H'', I2, ru, rfl, rfl⟩ := he
    obtain ⟨nk, hnk, k1, k2, k3⟩ := I2.pin (kS, seqObj "list" kA.toArray e) (by simp)
    obtain ⟨na, hna, a1, a2, a3⟩ := I2.pin (a, seqObj "list" #[] e1) (by simp)
    obtain ⟨g, gg, gd, gt, gos⟩ := s''
    have s1 := Heap.SameBut.update g kS (Obj.mapSeq (·.push u))
    obtain ⟨c2, hc2⟩ : ∃ c2, (g.update kS (Obj.mapSeq (·.push u))).get? kS = some (seqObj "list" (kA.toArray.push u) c2) := ⟨_, get?_update_seq nk (·.push u)⟩
    have hkl : kA.length ≤ xs.length := by
      have := hk.length
      rw [List.length_take] at this
      omega
    refine wpAny_bind (listUpdate_at nk rfl ?_ (by rw [List.size_toArray]; omega) (by rw [Array.size_push, List.size_toArray]; omega))
    have hpush : kA.toArray.push u = (kA ++ [u]).toArray := by simp
    refine wpAny_pure ⟨rfl, kA ++ [u], c2, ?_, ?_⟩
    · have I3 : Inv X pins σ H'' ⟨g, gg, gd, gt, gos⟩ := I2.unpinned
      obtain ⟨f0, f1, f2, f3, f4, f5⟩ := fk
      have I4 : Inv X pins σ H'' ⟨g.update kS (Obj.mapSeq (·.push u)), gg, gd, gt, gos⟩ := I3.turned (t' := gt) (fun b o hb z => (s1.2 b hb).trans z) f0 f1 f3 f4 f5
      refine I4.pins_of fun p hp => ?_
      rcases List.mem_append.mp hp with hp | hp
      · exact I4.pin p (List.mem_append_right _ hp)
      · rcases List.mem_cons.mp hp with rfl | hp
        · exact ⟨by rw [← hpush]; exact hc2, hnk, k1, k2, fun v z => nomatch z⟩
        · rw [List.mem_singleton.mp hp]
          exact ⟨(s1.2 a hka.symm).trans na, hna, a1, a2, fun v z => nomatch z⟩
    · rw [List.take_add_one, hkj]
      exact hk.append (.cons ru .nil)
  case done =>
    rintro s' ⟨kA, e, I', hk⟩
    have e3 : ks.take (0 + us.length) = ks := List.take_of_length_le (by omega)
    rw [e3] at hk
    obtain ⟨nk, _⟩ := I'.pin (kS, seqObj "list" kA.toArray e) (by simp)
    refine wpAny_bind (listItems_at nk rfl ?_)
    exact h s' kA e I' hk
/-- sorted(xs, key=f) -/
theorem cr_sortKey (F : FnR X.prog X.w X.K X.mg X.base CX0 n f sp) (hr : Room (n + 2) X.A) : CallRK X (.builtin "sorted") [Str.ofString "key"] (rSortK X.K f sp) := by
  intro pins s σ H vs zs us ws Q I r rz h
  obtain ⟨a, xs, ks, rfl, rfl, hS, hl, hK, hsp, q⟩ := h
  obtain rfl := Vals.ref1 r
  obtain rfl := Vals.ref1 rz
  obtain ⟨its, rv, hz, T, o, m, hT, ho, hc, hd⟩ : ∃ its : List Value, Vals xs its ∧ xs.length ≤ sizeLine ∧ ∃ (T : String) (o : Obj) (m : Nat), (T = "list" ∨ T = "tuple") ∧ s.heap.get? a = some o ∧ o.cls = .type T ∧ o.data = .seq its.toArray m := by
    rcases hS with hS | hS
    · obtain ⟨its, rv, p, hz⟩ := I.list hS
      obtain ⟨o, ho, hc, m, hd⟩ := p.isList
      exact ⟨its, rv, hz, "list", o, m, .inl rfl, ho, hc, hd⟩
    · obtain ⟨its, rv, ⟨o, ho, hc, m, hd⟩, hz⟩ := I.tuple hS
      exact ⟨its, rv, hz, "tuple", o, m, .inr rfl, ho, hc, hd⟩
  have hil : its.length = xs.length := rv.length.symm
  refine call_function_entry_kw kind_sorted plain_sorted entry_sorted (ksk_s1 _ _) ?_
  unfold Builtin.«sorted»
  refine wpAny_bind (m := checkCount "sorted" 1 1 _) (wpAny_pure ?_)
  refine wpAny_bind (wpAny_collect_seq a hT ho hc hd (fun h1 k1 => ?_) (by rw [List.size_toArray]; omega))
  refine wpAny_bind (wpAny_newList ?_ (by rw [List.toList_toArray]; omega))
  rw [List.toList_toArray]
  have I1 : Inv X pins σ H { s with heap := h1 } := I.kept (t' := s.toks) k1
  have fa : FpOk X pins H h1.objs.size := I1.fpOk (Nat.le_refl _) (I1.hok.fresh (Nat.le_refl _))
  have hoL : (h1.push (seqObj "list" its.toArray 0)).get? h1.objs.size = some (seqObj "list" its.toArray 0) := Heap.get?_push_size _ rfl
  show wpAny _ _ _ _ _ { s with heap := h1.push (seqObj "list" its.toArray 0) }
  refine wpAny_bind (wpAny_holding (wpAny_call_entry_kw slot_list_sort ⟨_, hoL, rfl⟩ entry_list_sort ?_ (ksk_l1 _ _)))
  show wpAny _ _ (ksk_tree h1.objs.size (.ref f) false) _ _ _
  unfold ksk_tree
  refine wpAny_bind (listItems_at hoL rfl ?_)
  refine wpAny_bind (listUpdate_at hoL rfl ?_ (by rw [List.size_toArray]; omega) (Nat.zero_le _))
  obtain ⟨e1, ho1⟩ : ∃ e1, ((h1.push (seqObj "list" its.toArray 0)).update h1.objs.size (Obj.mapSeq fun _ => #[])).get? h1.objs.size = some (seqObj "list" #[] e1) := ⟨_, get?_update_seq hoL (fun _ => #[])⟩
  refine wpAny_bind (seqEpoch_at ho1 rfl ?_)
  refine wpAny_bind (wpAny_newTuple ?_ (by rw [List.toList_toArray]; omega))
  refine wpAny_bind (wpAny_newList ?_ (Nat.zero_le _))
  refine wpAny_holding ?_
  have k2 : ∀ b o, h1.get? b = some o → ((h1.push (seqObj "list" its.toArray 0)).update h1.objs.size (Obj.mapSeq fun _ => #[])).get? b = some o := fun b o z => by
    rw [Heap.get?_update_ne _ _ _ _ (Nat.ne_of_lt (Heap.lt_size z))]
    exact Heap.get?_push_of_some _ z
  have z2 : ((h1.push (seqObj "list" its.toArray 0)).update h1.objs.size (Obj.mapSeq fun _ => #[])).objs.size = h1.objs.size + 1 := by
    rw [Heap.size_update, Heap.size_push]
  generalize (h1.push (seqObj "list" its.toArray 0)).update h1.objs.size (Obj.mapSeq fun _ => #[]) = h2 at ho1 k2 z2 ⊢
  have hkS : ((h2.push (seqObj "tuple" its.toArray 0)).push (seqObj "list" #[] 0)).get? (h2.objs.size + 1) = some (seqObj "list" #[] 0) := by
    rw [show h2.objs.size + 1 = (h2.push (seqObj "tuple" its.toArray 0)).objs.size by rw [Heap.size_push]]
    exact Heap.get?_push_size _ rfl
  have k3 : ∀ b o, h2.get? b = some o → ((h2.push (seqObj "tuple" its.toArray 0)).push (seqObj "list" #[] 0)).get? b = some o := fun b o z => Heap.get?_push_of_some _ (Heap.get?_push_of_some _ z)
  show wpAny (model X.prog X.w) X.A.in1.in1 (ksk_rest h1.objs.size (.ref f) false its.toArray e1 (.ref (h2.push (seqObj "tuple" its.toArray 0)).objs.size)) _ _ { s with heap := (h2.push (seqObj "tuple" its.toArray 0)).push (seqObj "list" #[] 0) }
  rw [Heap.size_push]
  generalize (h2.push (seqObj "tuple" its.toArray 0)).push (seqObj "list" #[] 0) = h3 at hkS k3 ⊢
  have fk : FpOk X pins H (h2.objs.size + 1) := I1.fpOk (show h1.objs.size ≤ h2.objs.size + 1 by omega) (I1.hok.fresh (show h1.objs.size ≤ h2.objs.size + 1 by omega))
  have I3 : Inv X pins σ H { s with heap := h3 } := I1.kept (t' := s.toks) fun b o z => k3 _ _ (k2 _ _ z)
  have hka : h2.objs.size + 1 ≠ h1.objs.size := by omega
  have I4 : Inv X (pins ++ [(h2.objs.size + 1, seqObj "list" #[] 0), (h1.objs.size, seqObj "list" #[] e1)]) σ H { s with heap := h3 } := by
    refine I3.pins_of fun p hp => ?_
    rcases List.mem_append.mp hp with hp | hp
    · exact I3.pin p (List.mem_append_right _ hp)
    · rcases List.mem_cons.mp hp with rfl | hp
      · exact ⟨hkS, fk.1, fk.2.1, fk.2.2.1, fun v z => nomatch z⟩
      · rw [List.mem_singleton.mp hp]
        exact ⟨k3 _ _ ho1, fa.1, fa.2.1, fa.2.2.1, fun v z => nomatch z⟩
  refine key_loop F rfl (show Room n X.A.in1.in1 from (show Room (n + 1) X.A.in1 from Room.in1 hr).in1) pass0 hl rv hz hsp hka fa fk I4 fun s' keys e I5 rk => ?_
  obtain ⟨ltk, O, hlt⟩ := kord_of (prog := X.prog) (w := X.w) hK rk
  obtain ⟨nk, _⟩ := I5.pin (h2.objs.size + 1, seqObj "list" keys.toArray e) (by simp)
  obtain ⟨na, _⟩ := I5.pin (h1.objs.size, seqObj "list" #[] e1) (by simp)
  refine key_end O (by rw [← rk.length]; omega) (by omega) hka nk na fun hm h' out o1 o2 m1 m2 m3 m4 => ⟨_, rfl, wpAny_pure ⟨_, rfl, ?_⟩⟩
  obtain ⟨n1, m2⟩ := m2
  obtain ⟨n2, m4⟩ := m4
  -- back to values
  obtain ⟨L, pL, eL⟩ := perm_lift (fun z : (V × V) × Keyed => z.2) o2 ((ks.zip xs).zip (keys.zip its)) (by rw [List.map_snd_zip]; simp only [List.length_zip]; have := rk.length; omega)
  have hrel : ∀ z ∈ L, RelV z.1.1 z.2.1 ∧ RelV z.1.2 z.2.2 ∧ ∃ i : Nat, ks[i]? = some z.1.1 := by
    intro z hz'
    obtain ⟨i, hi⟩ := List.mem_iff_getElem?.mp (pL.mem_iff.mp hz')
    obtain ⟨h1', h2'⟩ := List.getElem?_zip_eq_some.mp hi
    obtain ⟨a1, a2⟩ := List.getElem?_zip_eq_some.mp h1'
    obtain ⟨b1, b2⟩ := List.getElem?_zip_eq_some.mp h2'
    obtain ⟨u, c1, c2⟩ := rk.get a1
    rw [b1] at c1
    cases c1
    obtain ⟨u', d1, d2⟩ := rv.get a2
    rw [b2] at d1
    cases d1
    exact ⟨c2, d2, i, a1⟩
  have I6 : Inv X pins σ H s' := I5.unpinned
  have I7 : Inv X pins σ (upd H (h2.objs.size + 1) (.lst [])) { s' with heap := hm } := I6.take (h' := hm) (t' := s'.toks) (fun b o hb z => m1 b o hb z) fk ⟨Nat.zero_le _, [], n1, .nil, m2⟩
  have fa' : FpOk X pins (upd H (h2.objs.size + 1) (.lst [])) h1.objs.size := ⟨by rw [upd_ne hka.symm]; exact fa.1, fa.2⟩
  have rv' : Vals ((L.map (·.1)).map (·.2)) (out.map (·.2)) := by
    rw [← eL, List.map_map, List.map_map]
    clear eL pL o1 o2 m4
    induction L with
    | nil => exact .nil
    | cons z L ih => exact .cons (hrel z (by simp)).2.1 (ih fun y hy => hrel y (by simp [hy]))
  have hlen : ((L.map (·.1)).map (·.2)).length ≤ sizeLine := by
    rw [List.length_map, List.length_map, pL.length_eq, List.length_zip, List.length_zip]
    omega
  have I8 : Inv X pins σ (upd (upd H (h2.objs.size + 1) (.lst [])) h1.objs.size (.lst ((L.map (·.1)).map (·.2)))) { s' with heap := h' } :=
    I7.take (h' := h') (t' := s'.toks) (fun b o hb z => m3 b o hb z) fa' ⟨hlen, out.map (·.2), n2, rv', m4⟩
  refine ⟨.ref h1.objs.size, _, I8, rfl, q (L.map (·.1)) h1.objs.size _ ?_ ?_ fa.1 (fun b o z => ?_) upd_same⟩
  · have := pL.map (·.1)
    rwa [List.map_fst_zip (by simp only [List.length_zip]; have := rk.length; omega)] at this
  · rw [List.pairwise_map]
    have o1' := o1
    rw [← eL] at o1'
    have o3 := List.pairwise_map.mp o1'
    refine List.Pairwise.imp_of_mem (fun {x y} hx hy h => ?_) o3
    obtain ⟨x1, _, i, hi⟩ := hrel x hx
    obtain ⟨y1, _, j, hj⟩ := hrel y hy
    rw [← hlt j i _ _ _ _ hj hi y1 x1]
    exact h
  · rw [upd_ne (fun z' => by rw [z', fa.1] at z; cases z), upd_ne (fun z' => by rw [z', fk.1] at z; cases z)]
    exact z
end
end Fm
/-! properties, len of an instance -/
namespace Fm
open PySem PySem.Spec PyProof.Rows L2 SlX
/-- a property of a class of the text -/
structure PropAt (K : PySem.W.Frag) (C : Addr) (m q : Str) (st : Stmt) (ps : List Str) where
  f : Addr
  fd : FuncData
  F : Fun K m q st f fd
  p : Addr
  at_ : PySem.W.findIn K (.ref C) m = some (some (.ref p))
  get : PySem.W.specialIn K (.ref p) "__get__" = some (some (.builtin "property.__get__"))
  tk : PySem.W.takesIn K (.ref p) = some true
  rc : ∃ rest, PySem.W.recIn K p "property" = some (.ref f :: rest)
  b : Binds K fd ps []
section
variable {X : Cx} {CX : CXT} {C g : Addr} {n : Nat} {sp : Sp} {E : XK}
def rLenOwn (C : Addr) (sp : Sp) (E : XK) : List V → Hp → VK → Prop := fun xs H Q => ∃ a dx vs, xs = [V.ref a] ∧ Slt H a C dx vs ∧ sp [.ref a] H (fun z H' => ∃ i : Nat, z = .int i ∧ i ≤ 1000000 ∧ Q z H') E
theorem call_lenOwn (hs : PySem.W.findIn X.K (.ref C) "__len__" = some (some (.ref g))) (hf : PySem.W.isFn X.K (.ref g) = true) (F : FnR X.prog X.w X.K X.mg X.base CX n g sp) (hr : Room (n + 1) X.A) (hx : Passes CX X E) : CallR X (.builtin "len") (rLenOwn C sp E) := by
  intro pins s σ H xs us Q I r h
  obtain ⟨a, dx, vs, rfl, hsl, q⟩ := h
  obtain ⟨u, rfl, ru⟩ := r.one
  cases (show u = Value.ref a from ru)
  obtain ⟨sl, od, _, J, _⟩ := slt_inst I hsl
  obtain ⟨m, hF⟩ := I.fr
  refine PySem.W.len_K hF I.ok.mod.kin J hs hf (wpAny_mono (wpAny_call (run_at (us := [.ref a]) (ws := [.ref a]) F (Room.in1 hr) I.env0.in1 hx I (.cons rfl .nil) q)) (fun w s' z => ?_) fun _ _ x => x)
  obtain ⟨z', H', I', rz, i, ei, hi, qz⟩ := z
  subst ei
  obtain ⟨t, e⟩ := (show ∃ t, w = Value.int (i : Int) t from rz)
  subst e
  refine ⟨⟨by omega, by omega⟩, ?_⟩
  exact ⟨.int i, H', I'.tok _, ⟨_, rfl⟩, qz⟩
end
end Fm
namespace Fm
open PySem PySem.Spec PyProof.Rows L2 SlX
structure DefAt (K : PySem.W.Frag) (mg : Str → Option Value) (x : Str) (st : Stmt) (ps : List Str) where
  f : Addr
  fd : FuncData
  F : Fun K x x st f fd
  g : mg x = some (.ref f)
  b : Binds K fd ps []
def topS (i : Nat) : Stmt := PySem.Challenge.pw_framemoves_k50_recipes_told.main.body.getD i (.Pass ⟨0, 0, 0, 0⟩)
abbrev s_is_integer : Stmt := topS 8
abbrev N_is_integer : List Str := ["thing"]
abbrev P_is_integer : List Str := ["thing"]
theorem sc_is_integer : FnScope N_is_integer P_is_integer (defScope s_is_integer) := ⟨rfl, rfl, rfl, by decide +kernel, rfl, by decide +kernel, by decide +kernel⟩
abbrev s_is_name : Stmt := topS 9
abbrev N_is_name : List Str := ["thing", "sign"]
abbrev P_is_name : List Str := ["thing"]
theorem sc_is_name : FnScope N_is_name P_is_name (defScope s_is_name) := ⟨rfl, rfl, rfl, by decide +kernel, rfl, by decide +kernel, by decide +kernel⟩
abbrev s_is_term : Stmt := topS 10
abbrev N_is_term : List Str := ["thing", "waiting", "one"]
abbrev P_is_term : List Str := ["thing"]
theorem sc_is_term : FnScope N_is_term P_is_term (defScope s_is_term) := ⟨rfl, rfl, rfl, by decide +kernel, rfl, by decide +kernel, by decide +kernel⟩
abbrev s_is_term_over : Stmt := topS 11
abbrev N_is_term_over : List Str := ["many", "thing", "waiting", "one"]
abbrev P_is_term_over : List Str := ["many", "thing"]
theorem sc_is_term_over : FnScope N_is_term_over P_is_term_over (defScope s_is_term_over) := ⟨rfl, rfl, rfl, by decide +kernel, rfl, by decide +kernel, by decide +kernel⟩
abbrev s_put : Stmt := topS 13
abbrev N_put : List Str := ["term", "values", "part"]
abbrev P_put : List Str := ["term", "values"]
theorem sc_put : FnScope N_put P_put (defScope s_put) := ⟨rfl, rfl, rfl, by decide +kernel, rfl, by decide +kernel, by decide +kernel⟩
abbrev s_put_all : Stmt := topS 14
abbrev N_put_all : List Str := ["terms", "values", "term"]
abbrev P_put_all : List Str := ["terms", "values"]
theorem sc_put_all : FnScope N_put_all P_put_all (defScope s_put_all) := ⟨rfl, rfl, rfl, by decide +kernel, rfl, by decide +kernel, by decide +kernel⟩
abbrev s__law_bag : Stmt := topS 18
abbrev N__law_bag : List Str := ["_law_script", "_law_cell"]
abbrev P__law_bag : List Str := ["_law_script"]
theorem sc__law_bag : FnScope N__law_bag P__law_bag (defScope s__law_bag) := ⟨rfl, rfl, rfl, by decide +kernel, rfl, by decide +kernel, by decide +kernel⟩
abbrev s__law_take : Stmt := topS 19
abbrev N__law_take : List Str := ["_law_bag_here", "_law_many", "_law_cell", "_law_mixed", "_law_value", "_law_begin", "_law_second"]
abbrev P__law_take : List Str := ["_law_bag_here", "_law_many"]
theorem sc__law_take : FnScope N__law_take P__law_take (defScope s__law_take) := ⟨rfl, rfl, rfl, by decide +kernel, rfl, by decide +kernel, by decide +kernel⟩
abbrev s__law_alike : Stmt := topS 20
abbrev N__law_alike : List Str := ["_law_found", "_law_due"]
abbrev P__law_alike : List Str := ["_law_found", "_law_due"]
theorem sc__law_alike : FnScope N__law_alike P__law_alike (defScope s__law_alike) := ⟨rfl, rfl, rfl, by decide +kernel, rfl, by decide +kernel, by decide +kernel⟩
abbrev s__law_names : Stmt := topS 21
abbrev N__law_names : List Str := ["_law_bag_here", "_law_many", "_law_letters", "_law_words", "_law_way", "_law_turn", "_law_base", "_law_at", "_law_k"]
abbrev P__law_names : List Str := ["_law_bag_here", "_law_many"]
theorem sc__law_names : FnScope N__law_names P__law_names (defScope s__law_names) := ⟨rfl, rfl, rfl, by decide +kernel, rfl, by decide +kernel, by decide +kernel⟩
abbrev s__law_term : Stmt := topS 22
abbrev N__law_term : List Str := ["_law_bag_here", "_law_names_here", "_law_many", "_law_deep", "_law_way", "_law_name", "_law_parts", "_law_k"]
abbrev P__law_term : List Str := ["_law_bag_here", "_law_names_here", "_law_many", "_law_deep"]
theorem sc__law_term : FnScope N__law_term P__law_term (defScope s__law_term) := ⟨rfl, rfl, rfl, by decide +kernel, rfl, by decide +kernel, by decide +kernel⟩
abbrev s__law_put : Stmt := topS 23
abbrev N__law_put : List Str := ["_law_term_here", "_law_values", "_law_part"]
abbrev P__law_put : List Str := ["_law_term_here", "_law_values"]
theorem sc__law_put : FnScope N__law_put P__law_put (defScope s__law_put) := ⟨rfl, rfl, rfl, by decide +kernel, rfl, by decide +kernel, by decide +kernel⟩
abbrev s__law_made : Stmt := topS 24
abbrev N__law_made : List Str := ["_law_variables", "_law_terms", "e"]
abbrev P__law_made : List Str := ["_law_variables", "_law_terms"]
theorem sc__law_made : FnScope N__law_made P__law_made (defScope s__law_made) := ⟨rfl, rfl, rfl, by decide +kernel, rfl, by decide +kernel, by decide +kernel⟩
abbrev s__law_bad : Stmt := topS 25
abbrev N__law_bad : List Str := ["_law_bag_here", "_law_many", "_law_terms", "_law_odd", "_law_at", "_law_bad_here", "_law_things"]
abbrev P__law_bad : List Str := ["_law_bag_here", "_law_many", "_law_terms"]
theorem sc__law_bad : FnScope N__law_bad P__law_bad (defScope s__law_bad) := ⟨rfl, rfl, rfl, by decide +kernel, rfl, by decide +kernel, by decide +kernel⟩
abbrev s__law_times : Stmt := topS 26
abbrev N__law_times : List Str := ["_law_one", "_law_other", "e"]
abbrev P__law_times : List Str := ["_law_one", "_law_other"]
theorem sc__law_times : FnScope N__law_times P__law_times (defScope s__law_times) := ⟨rfl, rfl, rfl, by decide +kernel, rfl, by decide +kernel, by decide +kernel⟩
abbrev s__law_tells : Stmt := topS 27
abbrev N__law_tells : List Str := ["_law_recipe", "_law_many", "_law_terms", "_law_text"]
abbrev P__law_tells : List Str := ["_law_recipe", "_law_many", "_law_terms"]
theorem sc__law_tells : FnScope N__law_tells P__law_tells (defScope s__law_tells) := ⟨rfl, rfl, rfl, by decide +kernel, rfl, by decide +kernel, by decide +kernel⟩
abbrev s__law_compared_right : Stmt := topS 28
abbrev N__law_compared_right : List Str := ["_law_recipe", "_law_many", "_law_kept", "_law_same", "_law_other", "_law_wide", "_law_at", "_law_bent", "_law_thing", "_law_due"]
abbrev P__law_compared_right : List Str := ["_law_recipe", "_law_many", "_law_kept"]
theorem sc__law_compared_right : FnScope N__law_compared_right P__law_compared_right (defScope s__law_compared_right) := ⟨rfl, rfl, rfl, by decide +kernel, rfl, by decide +kernel, by decide +kernel⟩
abbrev s__law_great_things : Stmt := topS 29
abbrev N__law_great_things : List Str := ["_law_deep", "_law_k"]
abbrev P__law_great_things : List Str := []
theorem sc__law_great_things : FnScope N__law_great_things P__law_great_things (defScope s__law_great_things) := ⟨rfl, rfl, rfl, by decide +kernel, rfl, by decide +kernel, by decide +kernel⟩
abbrev s_law : Stmt := topS 30
abbrev N_law : List Str := ["_law_script", "_law_bag_here", "_law_names_here", "_law_turn", "_law_many", "_law_wide", "_law_terms", "_law_more", "_law_handed", "_law_values", "_law_recipe", "_law_second", "_law_kept", "_law_bad_here", "_law_again", "_law_due", "_law_found", "_law_through", "_law_k", "_law_term_here"]
abbrev P_law : List Str := ["_law_script"]
theorem sc_law : FnScope N_law P_law (defScope s_law) := ⟨rfl, rfl, rfl, by decide +kernel, rfl, by decide +kernel, by decide +kernel⟩
abbrev s_Recipe___init__ : Stmt := inClass (topS 16) 1
abbrev N_Recipe___init__ : List Str := ["self", "variables", "terms", "term"]
abbrev P_Recipe___init__ : List Str := ["self", "variables", "terms"]
theorem sc_Recipe___init__ : FnScope N_Recipe___init__ P_Recipe___init__ (defScope s_Recipe___init__) := ⟨rfl, rfl, rfl, by decide +kernel, rfl, by decide +kernel, by decide +kernel⟩
abbrev s_Recipe_variables : Stmt := inClass (topS 16) 2
abbrev N_Recipe_variables : List Str := ["self"]
abbrev P_Recipe_variables : List Str := ["self"]
theorem sc_Recipe_variables : FnScope N_Recipe_variables P_Recipe_variables (defScope s_Recipe_variables) := ⟨rfl, rfl, rfl, by decide +kernel, rfl, by decide +kernel, by decide +kernel⟩
abbrev s_Recipe_terms : Stmt := inClass (topS 16) 3
abbrev N_Recipe_terms : List Str := ["self"]
abbrev P_Recipe_terms : List Str := ["self"]
theorem sc_Recipe_terms : FnScope N_Recipe_terms P_Recipe_terms (defScope s_Recipe_terms) := ⟨rfl, rfl, rfl, by decide +kernel, rfl, by decide +kernel, by decide +kernel⟩
abbrev s_Recipe_keeping : Stmt := inClass (topS 16) 4
abbrev N_Recipe_keeping : List Str := ["many"]
abbrev P_Recipe_keeping : List Str := ["many"]
theorem sc_Recipe_keeping : FnScope N_Recipe_keeping P_Recipe_keeping (defScope s_Recipe_keeping) := ⟨rfl, rfl, rfl, by decide +kernel, rfl, by decide +kernel, by decide +kernel⟩
abbrev s_Recipe___call__ : Stmt := inClass (topS 16) 5
abbrev N_Recipe___call__ : List Str := ["self", "values"]
abbrev P_Recipe___call__ : List Str := ["self", "values"]
theorem sc_Recipe___call__ : FnScope N_Recipe___call__ P_Recipe___call__ (defScope s_Recipe___call__) := ⟨rfl, rfl, rfl, by decide +kernel, rfl, by decide +kernel, by decide +kernel⟩
abbrev s_Recipe___mul__ : Stmt := inClass (topS 16) 6
abbrev N_Recipe___mul__ : List Str := ["self", "other"]
abbrev P_Recipe___mul__ : List Str := ["self", "other"]
theorem sc_Recipe___mul__ : FnScope N_Recipe___mul__ P_Recipe___mul__ (defScope s_Recipe___mul__) := ⟨rfl, rfl, rfl, by decide +kernel, rfl, by decide +kernel, by decide +kernel⟩
abbrev s_Recipe___eq__ : Stmt := inClass (topS 16) 7
abbrev N_Recipe___eq__ : List Str := ["self", "other"]
abbrev P_Recipe___eq__ : List Str := ["self", "other"]
theorem sc_Recipe___eq__ : FnScope N_Recipe___eq__ P_Recipe___eq__ (defScope s_Recipe___eq__) := ⟨rfl, rfl, rfl, by decide +kernel, rfl, by decide +kernel, by decide +kernel⟩
abbrev s_Recipe___len__ : Stmt := inClass (topS 16) 8
abbrev N_Recipe___len__ : List Str := ["self"]
abbrev P_Recipe___len__ : List Str := ["self"]
theorem sc_Recipe___len__ : FnScope N_Recipe___len__ P_Recipe___len__ (defScope s_Recipe___len__) := ⟨rfl, rfl, rfl, by decide +kernel, rfl, by decide +kernel, by decide +kernel⟩
abbrev s_Recipe___repr__ : Stmt := inClass (topS 16) 9
abbrev N_Recipe___repr__ : List Str := ["self"]
abbrev P_Recipe___repr__ : List Str := ["self"]
theorem sc_Recipe___repr__ : FnScope N_Recipe___repr__ P_Recipe___repr__ (defScope s_Recipe___repr__) := ⟨rfl, rfl, rfl, by decide +kernel, rfl, by decide +kernel, by decide +kernel⟩
structure TX (K : PySem.W.Frag) (mg : Str → Option Value) where
  d_is_integer : DefAt K mg "is_integer" s_is_integer P_is_integer
  d_is_name : DefAt K mg "is_name" s_is_name P_is_name
  d_is_term : DefAt K mg "is_term" s_is_term P_is_term
  d_is_term_over : DefAt K mg "is_term_over" s_is_term_over P_is_term_over
  d_put : DefAt K mg "put" s_put P_put
  d_put_all : DefAt K mg "put_all" s_put_all P_put_all
  d__law_bag : DefAt K mg "_law_bag" s__law_bag P__law_bag
  d__law_take : DefAt K mg "_law_take" s__law_take P__law_take
  d__law_alike : DefAt K mg "_law_alike" s__law_alike P__law_alike
  d__law_names : DefAt K mg "_law_names" s__law_names P__law_names
  d__law_term : DefAt K mg "_law_term" s__law_term P__law_term
  d__law_put : DefAt K mg "_law_put" s__law_put P__law_put
  d__law_made : DefAt K mg "_law_made" s__law_made P__law_made
  d__law_bad : DefAt K mg "_law_bad" s__law_bad P__law_bad
  d__law_times : DefAt K mg "_law_times" s__law_times P__law_times
  d__law_tells : DefAt K mg "_law_tells" s__law_tells P__law_tells
  d__law_compared_right : DefAt K mg "_law_compared_right" s__law_compared_right P__law_compared_right
  d__law_great_things : DefAt K mg "_law_great_things" s__law_great_things P__law_great_things
  d_law : DefAt K mg "law" s_law P_law
  C_Recipe : Addr
  g_Recipe : mg "Recipe" = some (.ref C_Recipe)
  k_Recipe : PySem.W.keepIn K (.ref C_Recipe) = true
  c_Recipe : SCls K C_Recipe
  mk_Recipe : PySem.W.makesIn K C_Recipe = true
  is_Recipe : SIsi K C_Recipe
  ne_Recipe : PySem.W.findIn K (.ref C_Recipe) "__ne__" = some (some (.builtin "object.__ne__"))
  ty_Recipe : PySem.W.typeIn K (.ref C_Recipe) = some (.type "type")
  p_Recipe_its_terms : Addr
  sl_Recipe_its_terms : Slot1 K C_Recipe "its_terms" p_Recipe_its_terms 0
  p_Recipe_its_variables : Addr
  sl_Recipe_its_variables : Slot1 K C_Recipe "its_variables" p_Recipe_its_variables 1
  d_Recipe___init__ : MethAt K C_Recipe "__init__" "Recipe.__init__" s_Recipe___init__ P_Recipe___init__
  d_Recipe_variables : PropAt K C_Recipe "variables" "Recipe.variables" s_Recipe_variables P_Recipe_variables
  d_Recipe_terms : PropAt K C_Recipe "terms" "Recipe.terms" s_Recipe_terms P_Recipe_terms
  d_Recipe_keeping : StatAt K C_Recipe "keeping" "Recipe.keeping" s_Recipe_keeping P_Recipe_keeping
  d_Recipe___call__ : MethAt K C_Recipe "__call__" "Recipe.__call__" s_Recipe___call__ P_Recipe___call__
  d_Recipe___mul__ : MethAt K C_Recipe "__mul__" "Recipe.__mul__" s_Recipe___mul__ P_Recipe___mul__
  d_Recipe___eq__ : MethAt K C_Recipe "__eq__" "Recipe.__eq__" s_Recipe___eq__ P_Recipe___eq__
  d_Recipe___len__ : MethAt K C_Recipe "__len__" "Recipe.__len__" s_Recipe___len__ P_Recipe___len__
  d_Recipe___repr__ : MethAt K C_Recipe "__repr__" "Recipe.__repr__" s_Recipe___repr__ P_Recipe___repr__
  mul_Recipe : PySem.W.selfFirst K C_Recipe = true
  nl_Recipe : PySem.W.subIn K (.ref C_Recipe) (.type "list") = some false
  nt_Recipe : PySem.W.subIn K (.ref C_Recipe) (.type "tuple") = some false
  b_ValueError : mg "ValueError" = none
  b_abs : mg "abs" = none
  b_all : mg "all" = none
  b_bool : mg "bool" = none
  b_int : mg "int" = none
  b_isinstance : mg "isinstance" = none
  b_len : mg "len" = none
  b_list : mg "list" = none
  b_range : mg "range" = none
  b_repr : mg "repr" = none
  b_str : mg "str" = none
  b_tuple : mg "tuple" = none
  v_LETTERS : Value
  c_LETTERS : mg "LETTERS" = some v_LETTERS
  r_LETTERS : RelV (.str "abcdefghijklmnopqrstuvwxyz") v_LETTERS
  v_MOST_LETTERS : Value
  c_MOST_LETTERS : mg "MOST_LETTERS" = some v_MOST_LETTERS
  r_MOST_LETTERS : RelV (.int 8) v_MOST_LETTERS
  v_MOST_PARTS : Value
  c_MOST_PARTS : mg "MOST_PARTS" = some v_MOST_PARTS
  r_MOST_PARTS : RelV (.int 3) v_MOST_PARTS
structure TY (P : Program) (K : PySem.W.Frag) (mg : Str → Option Value) where
  C_MoveError : Addr
  x_MoveError : ExN K mg "MoveError" C_MoveError
  C_Wrong : Addr
  x_Wrong : ExT P K mg "Wrong" "place" C_Wrong
  C_Unlike : Addr
  x_Unlike : ExZ K mg "Unlike" C_Unlike
  xc_Wrong : ExcC K C_Wrong
  xc_Unlike : ExcC K C_Unlike
  ed_Unlike_Wrong : PySem.W.kitOne K (.ref C_Unlike) (.ref C_Wrong) = some false
  ev_Wrong : PySem.W.kitOne K (.ref C_Wrong) (.type "ValueError") = some true
  em_Wrong_MoveError : PySem.W.exmOne K (.ref C_Wrong) (.ref C_MoveError) = some true
  em_Unlike_MoveError : PySem.W.exmOne K (.ref C_Unlike) (.ref C_MoveError) = some true
end Fm
namespace Fm
open PySem PySem.Spec PyProof.Rows L2
section
variable {P : Program} {w : World} {K : PySem.W.Frag} {mg : Str → Option Value} {base : Heap}
def sp_bag (K : PySem.W.Frag) : Sp := fun vs H Q _ => ∃ (a : Addr) (ns : List Int), vs = [.ref a] ∧ SqL K H a (ns.map V.int) ∧ ns.length ≤ 63 ∧ ∀ H' p, Mv [] H H' → H p = none → Bag H' p → Q (.ref p) H'
theorem cut63 (xs : List V) (h : xs.length ≤ 63) : cutV xs none (some 63) = xs := by
  unfold cutV
  rw [HT.sIx_none, show HT.sIx xs.length xs.length (some 63) = min 63 xs.length from HT.sIx_nat xs.length xs.length 63, List.drop_zero, List.take_of_length_le (by omega)]
theorem ok__law_bag (T : TX K mg) {k : Nat} : FnOk P w K mg base CX0 (k + 1) T.d__law_bag.f T.d__law_bag.fd P__law_bag (sp_bag K) := by
  refine T.d__law_bag.F.ok sc__law_bag (fun vs H Q E h => ?_) (fun cdv A outer s H vs Q E hr h => ?_)
  · obtain ⟨a, ns, rfl, _⟩ := h
    rfl
  · obtain ⟨a, ns, rfl, hS, hl, q⟩ := h
    refine ⟨_, (pss_one (ps_ret (pe_lst (pa_cons pe_int (pa_cons pe_int (pa_cons pe_int (pa_cons (pe_lc (own := [("_law_cell", 1)]) (g := gName 1) (by rfl) sc__law_bag.nd (pi_seq (pe_slice (r := rSlG K) sl_G (pv 0) po_none (po_some pe_int))) (blkOk_by (own := [("_law_cell", 1)]) (N := N__law_bag) (sc := defScope s__law_bag) (by decide +kernel)) (fun _ _ _ _ _ => pg_name (i := 1) sc__law_bag.nd rfl (Or.inl rfl)) (fun _ _ _ _ _ => pts_nil) (fun _ _ _ _ _ => (pe_callB call_abs (by rfl) T.b_abs bt_abs (pa_cons (pv 1) pa_nil)))) pa_nil))))))), ?_⟩
    refine ⟨.ref a, rfl, 63, rfl, Or.inl ⟨a, _, rfl, hS, fun c nc => ⟨c, rfl, Or.inl ⟨⟨_, .inl (.inl upd_same)⟩, fun D nD => ?_⟩⟩⟩⟩
    have hlen : (ns.map V.int).length ≤ 63 := by rw [List.length_map]; exact hl
    rw [cut63 _ hlen] at nD ⊢
    refine lc_list (K := K) (a := c) (xs := ns.map V.int) (fun i H3 => ∃ ms : List Int, H3 c = some (.lst (ns.map V.int)) ∧ H3 D = some (.lst (ms.map V.int)) ∧ ms.length = i ∧ (∀ n ∈ ms, 0 ≤ n) ∧ Mv [] H H3)
      ⟨[], ?_, upd_same, rfl, by simp, ?_⟩ (fun i H3 _ h3 => ?_) (fun i x H3 hx h3 => ?_) (fun H3 h3 => ?_)
    · rw [upd_ne (ne_of_none upd_same nD), upd_same]
    · exact (Mv.new nc).trans (.new nD)
    · obtain ⟨ms, h1, _⟩ := h3
      exact .inl (.inl h1)
    · obtain ⟨ms, h1, h2, h4, h5, h6⟩ := h3
      obtain ⟨n, hn, rfl⟩ : ∃ n ∈ ns, x = .int n := by
        have := List.mem_of_getElem? hx
        obtain ⟨n, hn, e⟩ := List.mem_map.mp this
        exact ⟨n, hn, e.symm⟩
      have hDc : c ≠ D := ne_of_none upd_same nD
      refine ⟨rfl, .int n, rfl, n, rfl, _, h2, ?_, ms ++ [if n < 0 then -n else n], ?_, ?_, ?_, ?_, ?_⟩
      · rw [List.length_map]
        have := (List.getElem?_eq_some_iff.mp hx).1
        rw [List.length_map] at this
        exact small1000 (by omega)
      · rw [upd_ne hDc]
        exact h1
      · rw [upd_same, List.map_append]
        rfl
      · simp [h4]
      · intro z hz
        rcases List.mem_append.mp hz with hz | hz
        · exact h5 z hz
        · rw [List.mem_singleton.mp hz]
          split <;> omega
      · exact h6.wr ((Mv.new nc).free nD)
    · obtain ⟨ms, h1, h2, h4, h5, h6⟩ := h3
      refine ⟨(by decide : 4 ≤ sizeLine), fun p np => q _ p (h6.trans (.new np)) (h6.free np) ⟨D, 0, 1234567891, 0, ms, upd_same, ?_, ?_, h5, by decide, by decide, by decide⟩⟩
      · rw [upd_ne (ne_of_none h2 np)]
        exact h2
      · rw [h4, List.length_map]
        exact hl

/-- a number from 0 to n - 1 is drawn -/
def sp_take : Sp := fun vs H Q _ => ∃ (b : Addr) (n : Int), vs = [.ref b, .int n] ∧ Bag H b ∧ 0 < n ∧ n ≤ 1000000 ∧ ∀ (i : Int) H', 0 ≤ i → i < n → Dr b H H' → Q (.int i) H'
theorem Bag.set {H : Hp} {b c : Addr} {ns : List Int} {s m k : Int} {xs : List V} (hb : H b = some (.lst xs)) (hc : H c = some (.lst (ns.map V.int))) (hcb : c ≠ b)
    (hl : ns.length ≤ 63) (hn : ∀ n ∈ ns, 0 ≤ n) (h1 : 0 ≤ s) (h2 : 0 ≤ k) (h3 : 0 ≤ m) : BagC (upd H b (.lst [.int s, .int m, .int k, .ref c])) b c :=
  ⟨s, m, k, ns, upd_same, by rw [upd_ne hcb]; exact hc, hl, hn, h1, h2, h3⟩
theorem rd_set {p : Addr} {xs ys : List V} {k : Int} {j : Nat} {v : V} {H : Hp} {Q : Hp → Prop} (hp : H p = some (.lst xs)) (hj : ixN xs.length k = some j) (hy : xs.set j v = ys)
    (h : ∀ H', H' p = some (.lst ys) → Mv [p] H H' → (∀ a, a ≠ p → H' a = H a) → Q H') : rSetL (.ref p) (.int k) v H Q := by
  refine ⟨p, xs, k, j, rfl, rfl, hp, hj, ?_⟩
  rw [hy]
  exact h _ upd_same (.set hp (by simp)) fun a ha => upd_ne ha
theorem ok__law_take (T : TX K mg) {k : Nat} : FnOk P w K mg base CX0 (k + 1) T.d__law_take.f T.d__law_take.fd P__law_take sp_take := by
  refine T.d__law_take.F.ok sc__law_take (fun vs H Q E h => ?_) (fun cdv A outer s H vs Q E hr h => ?_)
  · obtain ⟨a, ns, rfl, _⟩ := h
    rfl
  · obtain ⟨b, n, rfl, hB, h0, h1, q⟩ := h
    have hu64 := hr.units
    refine ⟨_, (Evl.pss_cut (ps_if (pt_cmpR (r := rEqG K) (op_eqG hu64) (pe_ix (r := rIx K) ix_seq (pv 0) pe_int (fun _ _ => rfl)) pe_int (nomark _)) (pss_cons (ps_set (i := 2) sc__law_take.nd rfl (Or.inl rfl) pe_int) (Evl.pss_cut (ps_if (pt_cmpR op_lt (pe_ix (r := rIx K) ix_seq (pv 0) pe_int (fun _ _ => rfl)) (pe_callB (r := rLenG K) call_lenG (by rfl) T.b_len bt_len (pa_cons (pe_ix (r := rIx K) ix_seq (pv 0) pe_int (fun _ _ => rfl)) pa_nil)) (nomark _)) (pss_one (ps_set (i := 2) sc__law_take.nd rfl (Or.inl rfl) (pe_ix (r := rIx K) ix_seq (pe_ix (r := rIx K) ix_seq (pv 0) pe_int (fun _ _ => rfl)) (pe_ix (r := rIx K) ix_seq (pv 0) pe_int (fun _ _ => rfl)) (fun _ _ => rfl)))) pss_nil) (pss_cons (ps_augS (pv 0) pe_int get_G pe_int ip_add set_list) (Evl.pss_cut (ps_if (pt_cmpR op_ge (pv 2) pe_int (nomark _)) (pss_one (ps_asg (pv 2) (pg_sub (pv 0) pe_int set_list))) pss_nil) (pss_cons (ps_set (i := 3) sc__law_take.nd rfl (Or.inl rfl) (pe_op (r := rAddG K) op_addG (pe_op (r := rAddG K) op_addG (pe_op op_mulG (pe_ix (r := rIx K) ix_seq (pv 0) pe_int (fun _ _ => rfl)) pe_int) (pe_op op_mod (pe_callTy call_int1 (by rfl) T.b_int bt_int (pa_cons (pv 2) pa_nil)) pe_int)) (pe_op op_mulG pe_int (pe_ix (r := rIx K) ix_seq (pv 0) pe_int (fun _ _ => rfl))))) (pss_one (ps_asg (pe_op op_mod (pe_callTy call_int1 (by rfl) T.b_int bt_int (pa_cons (pv 3) pa_nil)) pe_int) (pg_sub (pv 0) pe_int set_list)))))))) pss_nil) (pss_cons (ps_if (pt_cmpR op_gt (pe_ix (r := rIx K) ix_seq (pv 0) pe_int (fun _ _ => rfl)) pe_int (nomark _)) (pss_cons (ps_set (i := 4) sc__law_take.nd rfl (Or.inl rfl) (pe_op op_mod (pe_callTy call_int1 (by rfl) T.b_int bt_int (pa_cons (pe_ix (r := rIx K) ix_seq (pv 0) pe_int (fun _ _ => rfl)) pa_nil)) (pv 1))) (pss_cons (ps_asg (pe_op op_fdivW (pe_ix (r := rIx K) ix_seq (pv 0) pe_int (fun _ _ => rfl)) (pv 1)) (pg_sub (pv 0) pe_int set_list)) (pss_one (ps_ret (pv 4))))) pss_nil) (pss_cons (ps_set (i := 5) sc__law_take.nd rfl (Or.inl rfl) (pe_op op_mod (pe_callTy call_int1 (by rfl) T.b_int bt_int (pa_cons (pe_op op_mulG (pe_op (r := rAddG K) op_addG (pe_ix (r := rIx K) ix_seq (pv 0) pe_int (fun _ _ => rfl)) pe_int) pe_int) pa_nil)) pe_int)) (pss_cons (ps_set (i := 6) sc__law_take.nd rfl (Or.inl rfl) (pe_op op_mod (pe_callTy call_int1 (by rfl) T.b_int bt_int (pa_cons (pe_op op_mulG (pe_op op_mod (pe_callTy call_int1 (by rfl) T.b_int bt_int (pa_cons (pe_op op_mulG (pv 5) (pv 5)) pa_nil)) pe_int) pe_int) pa_nil)) pe_int)) (pss_cons (ps_if (pt_cmpR op_gt (pv 1) pe_int (nomark _)) (pss_one (ps_ret (pe_op op_mod (pe_callTy call_int1 (by rfl) T.b_int bt_int (pa_cons (pe_op (r := rAddG K) op_addG (pe_op op_mulG (pv 6) pe_int) (pv 5)) pa_nil)) (pv 1)))) pss_nil) (pss_one (ps_ret (pe_op op_mod (pe_callTy call_int1 (by rfl) T.b_int bt_int (pa_cons (pe_op op_fdivW (pv 6) pe_int) pa_nil)) (pv 1))))))))), ?_⟩
    obtain ⟨c, hB⟩ := hB
    have hBC := hB
    obtain ⟨z, m, j, ns, eb, ec, hl, hn, hz, hj, hm⟩ := hB
    have hcb : c ≠ b := Bag.ne (xs := [.int z, .int m, .int j]) eb ec
    have sq : ∀ {H : Hp} {xs : List V}, H b = some (.lst xs) → SqL K H b xs := fun h => .inl (.inl h)
    -- behind the first if
    refine ⟨fun σ H1 => ∃ y2 y3 y4 y5 y6, σ = [some (.ref b), some (.int n), y2, y3, y4, y5, y6] ∧ Dr b H H1 ∧ BagC H1 b c, ?_, fun σ H1 hM => ?_⟩
    · refine ⟨.ref b, rfl, Or.inl ⟨b, _, 0, .int z, rfl, rfl, sq eb, rfl, Or.inl ⟨rfl, _, rfl, ite2 (fun e => ?_) (fun e => ?_)⟩⟩⟩
      · -- cell = 0; the next cell
        refine ⟨fun σ H1 => ∃ x : Int, 0 ≤ x ∧ σ = [some (.ref b), some (.int n), some (.int x), none, none, none, none] ∧ H1 = H, ?_, fun σ H1 hM => ?_⟩
        · refine ⟨.ref b, rfl, Or.inl ⟨b, _, 2, .int j, rfl, rfl, sq eb, rfl, .ref b, rfl, Or.inl ⟨b, _, 3, .ref c, rfl, rfl, sq eb, rfl, Or.inl ⟨c, _, rfl, .inl (.inl (.inl ec)), j, _, rfl, rfl, _, rfl, ite2 (fun e => ?_) (fun e => ?_)⟩⟩⟩⟩
          · have e' : j < (ns.map V.int).length := of_decide_eq_true e
            obtain ⟨i, rfl⟩ := Int.eq_ofNat_of_zero_le hj
            have hi : i < ns.length := by
              rw [List.length_map] at e'
              omega
            have gi : (ns.map V.int)[i]? = some (.int ns[i]) := by
              rw [List.getElem?_map, List.getElem?_eq_getElem hi]
              rfl
            refine ⟨.ref b, rfl, Or.inl ⟨b, _, 3, .ref c, rfl, rfl, sq eb, rfl, .ref b, rfl, Or.inl ⟨b, _, 2, .int (i : Int), rfl, rfl, sq eb, rfl, Or.inl ⟨c, _, _, .int ns[i], rfl, rfl, .inl (.inl ec), atI_nat gi, ?_⟩⟩⟩⟩
            exact ⟨ns[i], hn _ (List.getElem_mem hi), rfl, rfl⟩
          · exact ⟨0, Int.le_refl _, rfl, rfl⟩
        · obtain ⟨x, hx, rfl, rfl⟩ := hM
          -- bag[2] += 1
          refine ⟨.ref b, rfl, b, _, 2, .int j, rfl, rfl, sq eb, rfl, j, 1, rfl, rfl, rd_set eb rfl rfl fun H2 eb2 m1 k1 => ?_⟩
          have ec2 : H2 c = some (.lst (ns.map V.int)) := by rw [k1 c hcb]; exact ec
          -- a great cell is kept
          refine ⟨fun σ H3 => ∃ z' : Int, 0 ≤ z' ∧ σ = [some (.ref b), some (.int n), some (.int x), none, none, none, none] ∧ H3 b = some (.lst [.int z', .int m, .int (j + 1), .ref c]) ∧ H3 c = some (.lst (ns.map V.int)) ∧ Mv [b] H2 H3, ?_, fun σ H3 hM => ?_⟩
          · refine ⟨.int x, rfl, x, _, rfl, rfl, _, rfl, ite2 (fun e => ?_) (fun e => ?_)⟩
            · refine ⟨.int x, rfl, .ref b, rfl, b, _, 0, 0, rfl, rfl, eb2, rfl, x, hx, rfl, upd_same, ?_, .set eb2 (by simp)⟩
              rw [upd_ne hcb]
              exact ec2
            · exact ⟨z, hz, rfl, eb2, ec2, .refl⟩
          · obtain ⟨z', hz', rfl, eb3, ec3, m3⟩ := hM
            refine ⟨.ref b, rfl, Or.inl ⟨b, _, 1, .int m, rfl, rfl, sq eb3, rfl, Or.inl ⟨m, 48271, rfl, rfl, .inr ⟨by decide, by decide⟩, .int x, rfl, Or.inl ⟨x, rfl, x, _, rfl, rfl, (by decide : (0 : Int) < _), ?_⟩⟩⟩⟩
            refine Or.inl ⟨_, _, rfl, rfl, .ref b, rfl, Or.inl ⟨b, _, 2, .int (j + 1), rfl, rfl, sq eb3, rfl, Or.inl ⟨7919, j + 1, rfl, rfl, .inl ⟨by decide, by decide⟩, Or.inl ⟨_, _, rfl, rfl, ?_⟩⟩⟩⟩
            refine ⟨_, rfl, Or.inl ⟨_, rfl, _, _, rfl, rfl, (by decide : (0 : Int) < _), .ref b, rfl, b, _, 1, 1, rfl, rfl, eb3, rfl, _, _, _, _, _, rfl, ?_, ?_⟩⟩
            · exact .mkc ((m1.trans m3).trans (.set eb3 (by simp))) hBC (Bag.set eb3 ec3 hcb hl hn hz' (by omega) (Int.emod_nonneg _ (by decide)))
            · exact Bag.set eb3 ec3 hcb hl hn hz' (by omega) (Int.emod_nonneg _ (by decide))
      · exact ⟨_, _, _, _, _, rfl, .refl, z, m, j, ns, eb, ec, hl, hn, hz, hj, hm⟩
    · obtain ⟨y2, y3, y4, y5, y6, rfl, hD, hB⟩ := hM
      have hBC1 := hB
      obtain ⟨z, m, j, ns, eb, ec, hl, hn, hz, hj, hm⟩ := hB
      have hcb : c ≠ b := Bag.ne (xs := [.int z, .int m, .int j]) eb ec
      refine ⟨.ref b, rfl, Or.inl ⟨b, _, 0, .int z, rfl, rfl, sq eb, rfl, z, 0, rfl, rfl, _, rfl, ite2 (fun e => ?_) (fun e => ?_)⟩⟩
      · -- value = int(bag[0]) % many; bag[0] = bag[0] // many; return value
        refine ⟨.ref b, rfl, Or.inl ⟨b, _, 0, .int z, rfl, rfl, sq eb, rfl, Or.inl ⟨z, rfl, .int n, rfl, z, n, rfl, rfl, h0, ?_⟩⟩⟩
        refine ⟨.ref b, rfl, Or.inl ⟨b, _, 0, .int z, rfl, rfl, sq eb, rfl, .int n, rfl, z, n, rfl, rfl, ?_, ?_⟩⟩
        · exact wide_div (b := 64) h0 (by omega) (by decide) (by decide)
        · refine ⟨.ref b, rfl, b, _, 0, 0, rfl, rfl, eb, rfl, ?_⟩
          refine ⟨.int (z % n), rfl, q _ _ (Int.emod_nonneg z (by omega)) (Int.emod_lt_of_pos z h0) (hD.trans (.mkc (.set eb (by simp)) hBC1 ?_))⟩
          exact Bag.set eb ec hcb hl hn (Int.ediv_nonneg hz (by omega)) hj hm
      · refine ⟨.ref b, rfl, Or.inl ⟨b, _, 1, .int m, rfl, rfl, sq eb, rfl, Or.inl ⟨m, 1, rfl, rfl, Or.inl ⟨_, _, rfl, rfl, .inr ⟨by decide, by decide⟩, Or.inl ⟨_, rfl, _, _, rfl, rfl, (by decide : (0 : Int) < _), ?_⟩⟩⟩⟩⟩
        have hx0 : 0 ≤ (m + 1) * 39373 % 1000000007 := Int.emod_nonneg _ (by decide)
        have hx1 : (m + 1) * 39373 % 1000000007 < 1000000007 := Int.emod_lt_of_pos _ (by decide)
        refine ⟨_, rfl, _, rfl, Or.inl ⟨(m + 1) * 39373 % 1000000007, (m + 1) * 39373 % 1000000007, rfl, rfl, .inl ⟨by omega, by omega⟩, Or.inl ⟨_, rfl, _, _, rfl, rfl, (by decide : (0 : Int) < _), Or.inl ⟨_, _, rfl, rfl, .inr ⟨by decide, by decide⟩, Or.inl ⟨_, rfl, _, _, rfl, rfl, (by decide : (0 : Int) < _), ?_⟩⟩⟩⟩⟩
        refine ⟨.int n, rfl, n, _, rfl, rfl, _, rfl, ite2 (fun e => ?_) (fun e => ?_)⟩
        · exact absurd (of_decide_eq_true e) (by omega)
        · refine ⟨_, rfl, _, 7, rfl, rfl, ⟨by decide, by decide⟩, Or.inl ⟨_, rfl, .int n, rfl, _, n, rfl, rfl, h0, ?_⟩⟩
          exact q _ _ (Int.emod_nonneg _ (by omega)) (Int.emod_lt_of_pos _ h0) hD
end
end Fm
namespace Fm
open PySem PySem.Spec PyProof.Rows L2
/-- a new list of names -/
def sp_names : Sp := fun vs H Q _ => ∃ (b : Addr) (n : Nat), vs = [.ref b, .int n] ∧ Bag H b ∧ 0 < n ∧ n ≤ 12 ∧
  ∀ (p : Addr) (xs : List Str) H', xs.length = n → (∀ x ∈ xs, Nm x) → H p = none → H' p = some (.lst (xs.map V.str)) → Dr b H H' → Q (.ref p) H'
theorem rd_split {X : Cx} {a b : Str} {H : Hp} {Q : VK} (P : List Str → Bool) (hP : P (Txt.split a b) = true)
    (h : ∀ p ws H', P ws = true → H p = none → H' p = some (.lst (ws.map V.str)) → Mv [] H H' → Q (.ref p) H') : rNewStrs (Txt.split a b) H Q :=
  fun p np => h p _ _ hP np upd_same (.new np)
theorem str_len_append (x y : Str) : (x ++ y).length = x.length + y.length := by first | exact strLen_append x y | (show (x.cps ++ y.cps).size = _; simp [Str.length])
theorem str_cps_append (x y : Str) : (x ++ y).cps.toList = x.cps.toList ++ y.cps.toList := by
  show (x.cps ++ y.cps).toList = _
  simp
theorem join_chars : ∀ l : List Nat, Txt.join "" (l.map fun c => (⟨#[c]⟩ : Str)) = ⟨l.toArray⟩
  | [] => by decide +kernel
  | [c] => by
    show Builtin.Str.glued _ _ = _
    rw [StrLaws.glued_eq_join]
    rfl
  | c :: d :: l => by
    have ih := join_chars (d :: l)
    show Builtin.Str.glued _ _ = _
    have ih' : Builtin.Str.glued "" ((d :: l).map fun c => (⟨#[c]⟩ : Str)) = ⟨(d :: l).toArray⟩ := ih
    rw [StrLaws.glued_eq_join] at ih' ⊢
    show (⟨#[c]⟩ : Str) ++ "" ++ Str.join "" ((d :: l).map fun c => (⟨#[c]⟩ : Str)) = _
    rw [ih']
    show (⟨(#[c] ++ #[]) ++ (d :: l).toArray⟩ : Str) = _
    simp
theorem cutS_to (z : Str) (i : Nat) (h : i ≤ z.length) : (cutS z none (some (i : Int))).cps.toList = z.cps.toList.take i := by
  unfold cutS
  rw [HT.sIx_none, HT.sIx_nat, Nat.min_eq_left h]
  simp
theorem cutS_from (z : Str) (i : Nat) (h : i ≤ z.length) : (cutS z (some (i : Int)) none).cps.toList = z.cps.toList.drop i := by
  unfold cutS
  rw [HT.sIx_none, HT.sIx_nat, Nat.min_eq_left h]
  have e : z.cps.toList.length = z.length := by simp [Str.length]
  show ((z.cps.toList.drop i).take (z.length - i)).toArray.toList = _
  rw [List.take_of_length_le (by rw [List.length_drop, e]; exact Nat.le_refl _)]
theorem len_cps (z : Str) : z.cps.toList.length = z.length := by simp [Str.length]
theorem sum_ones : ∀ cs : List Nat, ((cs.map fun c => (⟨#[c]⟩ : Str)).map (·.length)).sum = cs.length
  | [] => rfl
  | c :: cs => by
    have := sum_ones cs
    simp only [List.map_cons, List.sum_cons, List.length_cons, this]
    show 1 + cs.length = _
    omega
theorem cutV_from {xs : List V} {i : Int} (h0 : 0 ≤ i) (h : i ≤ xs.length) : cutV xs (some i) none = xs.drop i.toNat := by
  obtain ⟨j, rfl⟩ := Int.eq_ofNat_of_zero_le h0
  unfold cutV
  rw [HT.sIx_none, HT.sIx_nat, Nat.min_eq_left (by omega), List.take_of_length_le (by rw [List.length_drop]; exact Nat.le_refl _)]
  rfl
theorem cutV_to {xs : List V} {i : Int} (h0 : 0 ≤ i) : cutV xs none (some i) = xs.take i.toNat := by
  obtain ⟨j, rfl⟩ := Int.eq_ofNat_of_zero_le h0
  unfold cutV
  rw [HT.sIx_none, HT.sIx_nat, List.drop_zero]
  show xs.take (min j xs.length - 0) = xs.take j
  rw [Nat.sub_zero]
  by_cases e : j ≤ xs.length
  · rw [Nat.min_eq_left e]
  · rw [Nat.min_eq_right (by omega), List.take_of_length_le (Nat.le_refl _), List.take_of_length_le (by omega)]
theorem rd_letter {K : PySem.W.Frag} {z : Str} {j : Int} {H : Hp} {Q : VK} (hz : (decide (z.length = 26) && z.cps.toList.all fun c => decide (97 ≤ c) && decide (c ≤ 122)) = true) (h0 : 0 ≤ j) (h1 : j < 26)
    (h : ∀ c : Nat, 97 ≤ c → c ≤ 122 → z.cps.toList[j.toNat]? = some c → Q (.str ⟨#[c]⟩) H) : rIx K (.str z) (.int j) H Q := by
  simp only [Bool.and_eq_true, decide_eq_true_eq, List.all_eq_true] at hz
  obtain ⟨hl, ha⟩ := hz
  obtain ⟨i, rfl⟩ := Int.eq_ofNat_of_zero_le h0
  have hi : i < z.cps.toList.length := by rw [len_cps, hl]; omega
  have e := List.getElem?_eq_getElem hi
  have hc := ha _ (List.getElem_mem hi)
  exact Or.inr (Or.inr ⟨z, i, _, rfl, rfl, by rw [hl]; decide, atI_nat e, h _ hc.1 hc.2 e⟩)
section
variable {P : Program} {w : World} {K : PySem.W.Frag} {mg : Str → Option Value} {base : Heap}
theorem ok__law_names (T : TX K mg) {k : Nat} : FnOk P w K mg base CX0 (k + 2) T.d__law_names.f T.d__law_names.fd P__law_names sp_names := by
  have G__law_take : FnOk P w K mg base CX0 (k + 1) T.d__law_take.f T.d__law_take.fd P__law_take sp_take := ok__law_take T
  refine T.d__law_names.F.ok sc__law_names (fun vs H Q E h => ?_) (fun cdv A outer s H vs Q E hr h => ?_)
  · obtain ⟨b, n, rfl, _⟩ := h
    rfl
  · obtain ⟨b, n, rfl, hB, h0, h1, q⟩ := h
    have hu64 := hr.units
    refine ⟨_, (pss_cons (ps_set (i := 2) sc__law_names.nd rfl (Or.inr rfl) pe_str) (pss_cons (ps_set (i := 3) sc__law_names.nd rfl (Or.inl rfl) pe_str) (pss_cons (ps_set (i := 3) sc__law_names.nd rfl (Or.inl rfl) (pe_bm PySem.F.plainAttrs_str PySem.F.slot_str_split PySem.F.type_str_split mt_split (pe_op (r := rAddG K) op_addG (pv 3) pe_str) (pa_cons pe_str pa_nil))) (pss_cons (ps_asg (pe_tup (pa_cons (pe_call G__law_take (hr.mono (by omega)) rfl T.d__law_take.g T.d__law_take.F.kp T.d__law_take.b .nil pass0 (pa_cons (pv 0) (pa_cons pe_int pa_nil))) (pa_cons (pe_call G__law_take (hr.mono (by omega)) rfl T.d__law_take.g T.d__law_take.F.kp T.d__law_take.b .nil pass0 (pa_cons (pv 0) (pa_cons pe_int pa_nil))) pa_nil))) (pg_tup rfl (pgs_cons (pg_name (i := 4) sc__law_names.nd rfl (Or.inl rfl)) (pgs_cons (pg_name (i := 5) sc__law_names.nd rfl (Or.inr rfl)) pgs_nil)))) (pss_cons (ps_set (i := 6) sc__law_names.nd rfl (Or.inr rfl) (pe_bm PySem.F.plainAttrs_str PySem.F.slot_str_join PySem.F.type_str_join mt_join pe_str (pa_cons (pe_lc (own := [("_law_k", 8)]) (g := gName 8) (by rfl) sc__law_names.nd (pi_range1 (by rfl) T.b_range (pa_cons (pe_op (r := rAddG K) op_addG pe_int (pe_call G__law_take (hr.mono (by omega)) rfl T.d__law_take.g T.d__law_take.F.kp T.d__law_take.b .nil pass0 (pa_cons (pv 0) (pa_cons pe_int pa_nil)))) pa_nil)) (blkOk_by (own := [("_law_k", 8)]) (N := N__law_names) (sc := defScope s__law_names) (by decide +kernel)) (fun _ _ _ _ _ => pg_name (i := 8) sc__law_names.nd rfl (Or.inl rfl)) (fun _ _ _ _ _ => pts_nil) (fun _ _ _ _ _ => (pe_ix (r := rIx K) ix_seq (pv 2) (pe_call G__law_take (hr.mono (by omega)) rfl T.d__law_take.g T.d__law_take.F.kp T.d__law_take.b .nil pass0 (pa_cons (pv 0) (pa_cons pe_int pa_nil))) (fun _ _ => rfl)))) pa_nil))) (pss_cons (ps_set (i := 7) sc__law_names.nd rfl (Or.inr rfl) (pe_call G__law_take (hr.mono (by omega)) rfl T.d__law_take.g T.d__law_take.F.kp T.d__law_take.b .nil pass0 (pa_cons (pv 0) (pa_cons (pe_op (r := rAddG K) op_addG (pe_callB (r := rLenG K) call_lenG (by rfl) T.b_len bt_len (pa_cons (pv 6) pa_nil)) pe_int) pa_nil)))) (pss_cons (ps_if (pt_cmpR (r := rEqG K) (op_eqG hu64) (pv 4) pe_int (nomark _)) (pss_one (ps_ret (pe_slice (r := rSlG K) sl_G (pe_op (r := rAddG K) op_addG (pe_slice (r := rSlG K) sl_G (pv 3) (po_some (pv 5)) po_none) (pe_slice (r := rSlG K) sl_G (pv 3) po_none (po_some (pv 5)))) po_none (po_some (pv 1))))) pss_nil) (pss_cons (ps_if (pt_cmpR (r := rEqG K) (op_eqG hu64) (pv 4) pe_int (nomark _)) (pss_one (ps_ret (pe_lc (own := [("_law_k", 8)]) (g := gName 8) (by rfl) sc__law_names.nd (pi_range1 (by rfl) T.b_range (pa_cons (pv 1) pa_nil)) (blkOk_by (own := [("_law_k", 8)]) (N := N__law_names) (sc := defScope s__law_names) (by decide +kernel)) (fun _ _ _ _ _ => pg_name (i := 8) sc__law_names.nd rfl (Or.inl rfl)) (fun _ _ _ _ _ => pts_nil) (fun _ _ _ _ _ => (pe_ix (r := rIx K) ix_seq (pv 2) (pe_op op_mod (pe_callTy call_int1 (by rfl) T.b_int bt_int (pa_cons (pe_op (r := rAddG K) op_addG (pv 5) (pe_op op_mulG pe_int (pv 8))) pa_nil)) pe_int) (fun _ _ => rfl)))))) pss_nil) (pss_one (ps_ret (pe_lc (own := [("_law_k", 8)]) (g := gName 8) (by rfl) sc__law_names.nd (pi_range1 (by rfl) T.b_range (pa_cons (pv 1) pa_nil)) (blkOk_by (own := [("_law_k", 8)]) (N := N__law_names) (sc := defScope s__law_names) (by decide +kernel)) (fun _ _ _ _ _ => pg_name (i := 8) sc__law_names.nd rfl (Or.inl rfl)) (fun _ _ _ _ _ => pts_nil) (fun _ _ _ _ _ => (pe_op (r := rAddG K) op_addG (pe_op (r := rAddG K) op_addG (pe_slice (r := rSlG K) sl_G (pv 6) po_none (po_some (pv 7))) (pe_ix (r := rIx K) ix_seq (pv 2) (pe_op op_mod (pe_callTy call_int1 (by rfl) T.b_int bt_int (pa_cons (pe_op (r := rAddG K) op_addG (pv 5) (pe_op op_mulG pe_int (pv 8))) pa_nil)) pe_int) (fun _ _ => rfl))) (pe_slice (r := rSlG K) sl_G (pv 6) (po_some (pv 7)) po_none)))))))))))))), ?_⟩
    refine ⟨_, rfl, Or.inr (Or.inl ⟨_, _, rfl, rfl, by decide +kernel, rfl, _, _, rfl, rfl, by decide +kernel, by decide +kernel, ?_⟩)⟩
    refine rd_split (X := (cxOf CX0 P w K mg base N__law_names "_law_names" (defScope s__law_names) T.d__law_names.f cdv A outer s H E)) (fun ws => decide (ws.length = 20) && ws.all fun x => decide (Nm x)) (by decide +kernel) fun wp ws H1 hws nwp ewp m1 => ?_
    simp only [Bool.and_eq_true, decide_eq_true_eq, List.all_eq_true] at hws
    obtain ⟨hw20, hwN⟩ := hws
    -- way, turn
    refine ⟨.ref b, rfl, b, 4, rfl, hB.mv m1, by decide, by decide, fun way H2 hw0 hw1 d2 => ⟨.ref b, rfl, b, 20, rfl, d2.bag (hB.mv m1), by decide, by decide, fun turn H3 ht0 ht1 d3 => ?_⟩⟩
    refine ⟨(by decide : 2 ≤ sizeLine), fun p np => ⟨p, _, rfl, .inl (.inl upd_same), rfl, _, _, rfl, _, _, rfl, rfl, ?_⟩⟩
    have d14 := (d2.trans d3).trans (Dr.new (o := .tup [.int way, .int turn]) np)
    have hB4 := d14.bag (hB.mv m1)
    generalize upd H3 p (.tup [.int way, .int turn]) = H4 at d14 hB4 ⊢
    have hwb : wp ≠ b := (hB.fneq nwp)
    have ew4 : H4 wp = some (.lst (ws.map V.str)) := d14.get hwb ewp
    -- base = ''.join([..])
    refine ⟨rfl, .ref b, rfl, b, 7, rfl, hB4, by decide, by decide, fun l H5 hl0 hl1 d5 => Or.inl ⟨1, l, rfl, rfl, 1 + l, rfl, by omega, by omega, fun D nD => ?_⟩⟩
    have hB5 := d5.bag hB4
    refine lc_range (lo := 0) (n := (1 + l).toNat) (fun i H6 => ∃ cs : List Nat, H6 D = some (.lst (cs.map fun c => V.str ⟨#[c]⟩)) ∧ cs.length = i ∧ (∀ c ∈ cs, 97 ≤ c ∧ c ≤ 122) ∧ Dr b H5 H6)
      ⟨[], upd_same, rfl, by simp, Dr.new nD⟩ (fun i H6 hi h6 => ?_) (fun H6 h6 => ?_)
    · obtain ⟨cs, e6, l6, c6, d6⟩ := h6
      refine ⟨rfl, _, rfl, .ref b, rfl, b, 26, rfl, d6.bag hB5, by decide, by decide, fun j H7 hj0 hj1 d7 => rd_letter (by decide +kernel) hj0 hj1 fun c hc0 hc1 _ => ?_⟩
      refine ⟨_, d7.get (hB5.fneq nD) e6, ?_, cs ++ [c], ?_, by simp [l6], ?_, (d6.trans d7).wr nD⟩
      · rw [List.length_map, l6]
        exact small1000 (by omega)
      · rw [upd_same, List.map_append]
        rfl
      · intro z hz
        rcases List.mem_append.mp hz with hz | hz
        · exact c6 z hz
        · rw [List.mem_singleton.mp hz]
          exact ⟨hc0, hc1⟩
    · obtain ⟨cs, e6, l6, c6, d6⟩ := h6
      have hmap : cs.map (fun c => V.str ⟨#[c]⟩) = (cs.map fun c => (⟨#[c]⟩ : Str)).map V.str := by rw [List.map_map]; rfl
      refine ⟨_, D, _, rfl, rfl, .inl (.inl (.inl (by rw [← hmap]; exact e6))), ?_, ?_⟩
      · rw [sum_ones, List.length_map, l6, show ("" : Str).length = 0 from by decide]
        omega
      · rw [join_chars]
        obtain ⟨B, hB0, hBl, hBc⟩ : ∃ B : Str, B = ⟨cs.toArray⟩ ∧ B.length = (1 + l).toNat ∧ ∀ c ∈ B.cps.toList, 97 ≤ c ∧ c ≤ 122 := ⟨_, rfl, by rw [← l6]; rfl, by simpa using c6⟩
        rw [← hB0]
        have hB6 := d6.bag hB5
        -- at
        refine ⟨.ref b, rfl, .str B, rfl, Or.inr (Or.inl ⟨B, rfl, Nat.le_of_lt (small1000 (by omega)), Or.inl ⟨_, 1, rfl, rfl, b, _, rfl, hB6, by omega, by omega, fun pl H7 hp0 hp1 d7 => ?_⟩⟩)⟩
        have d17 := (d14.trans d5).trans (d6.trans d7)
        have ew7 : H7 wp = some (.lst (ws.map V.str)) := d17.get hwb ewp
        have dH7 : Dr b H H7 := (Dr.of m1).trans d17
        have hB7 : Bag H7 b := dH7.bag hB
        have lenL : ∀ c : Nat, (⟨#[c]⟩ : Str).length = 1 := fun _ => rfl
        have fresh : ∀ {p H'}, Mv [] H7 H' → H' p = none → H p = none := fun m e => dH7.free hB (m.free e)
        refine ⟨.int way, rfl, Or.inl ⟨rfl, _, rfl, ite2 (fun e => ?_) (fun e => ?_)⟩⟩
        · -- the words, turned
          refine ⟨.ref wp, rfl, .int turn, rfl, turn, rfl, Or.inl ⟨wp, _, rfl, .inl (.inl ew7), fun p1 np1 => ?_⟩⟩
          have n1 : wp ≠ p1 := ne_of_none ew7 np1
          refine ⟨.ref wp, rfl, .int turn, rfl, turn, rfl, Or.inl ⟨wp, _, rfl, .inl (.inl (by rw [upd_ne n1]; exact ew7)), fun p2 np2 => ?_⟩⟩
          have n2 : p1 ≠ p2 := ne_of_none upd_same np2
          rw [cutV_from ht0 (by rw [List.length_map]; omega), cutV_to ht0] at *
          refine Or.inr (Or.inr (Or.inr ⟨p1, p2, _, _, rfl, rfl, by rw [upd_ne n2, upd_same], upd_same, ?_, fun p3 np3 => ?_⟩))
          · rw [List.length_drop, List.length_take, List.length_map]
            exact Nat.le_of_lt (small1000 (by omega))
          · refine ⟨.int n, rfl, (n : Int), rfl, Or.inl ⟨p3, _, rfl, .inl (.inl upd_same), fun p4 np4 => ?_⟩⟩
            refine q p4 ((ws.drop turn.toNat ++ ws.take turn.toNat).take n) _ ?_ (fun x hx => ?_) (fresh (((Mv.new (S := []) np1).trans (Mv.new np2)).trans (Mv.new np3)) np4) ?_ (dH7.trans (Dr.of (((Mv.new np1).trans (Mv.new np2)).trans ((Mv.new np3).trans (Mv.new np4)))))
            · rw [List.length_take, List.length_append, List.length_drop, List.length_take]
              omega
            · have h := List.mem_of_mem_take hx
              rcases List.mem_append.mp h with h | h
              · exact hwN x (List.mem_of_mem_drop h)
              · exact hwN x (List.mem_of_mem_take h)
            · rw [upd_same, cutV_to (by omega), List.map_take, List.map_append, List.map_drop, List.map_take]
              rfl
        · refine ⟨.int way, rfl, Or.inl ⟨rfl, _, rfl, ite2 (fun e => ?_) (fun e => ?_)⟩⟩
          · refine ⟨.int n, rfl, (n : Int), rfl, by omega, by omega, fun D8 nD8 => ?_⟩
            refine lc_range (lo := 0) (n := (n : Int).toNat) (fun i H8 => ∃ xs : List Str, H8 D8 = some (.lst (xs.map V.str)) ∧ xs.length = i ∧ (∀ x ∈ xs, Nm x) ∧ Mv [] H7 H8)
              ⟨[], upd_same, rfl, by simp, .new nD8⟩ (fun i H8 hi h8 => ?_) (fun H8 h8 => ?_)
            · obtain ⟨xs, e8, l8, c8, m8⟩ := h8
              refine ⟨rfl, _, rfl, .int turn, rfl, _, rfl, Or.inl ⟨3, _, rfl, rfl, .inl ⟨by decide, by decide⟩, Or.inl ⟨turn, _, rfl, rfl, Or.inl ⟨_, rfl, _, _, rfl, rfl, (by decide : (0 : Int) < _), ?_⟩⟩⟩⟩
              refine rd_letter (by decide +kernel) (Int.emod_nonneg _ (by decide)) (Int.emod_lt_of_pos _ (by decide)) fun c hc0 hc1 _ => ?_
              refine ⟨_, e8, ?_, xs ++ [⟨#[c]⟩], ?_, by simp [l8], ?_, m8.wr nD8⟩
              · rw [List.length_map, l8]
                exact small1000 (by omega)
              · rw [upd_same, List.map_append]
                rfl
              · intro z hz
                rcases List.mem_append.mp hz with hz | hz
                · exact c8 z hz
                · rw [List.mem_singleton.mp hz]
                  exact ⟨by rw [lenL]; decide, by rw [lenL]; decide, by simpa using ⟨hc0, hc1⟩⟩
            · obtain ⟨xs, e8, l8, c8, m8⟩ := h8
              exact q D8 xs H8 (by omega) c8 (dH7.free hB nD8) e8 (dH7.trans (Dr.of m8))
          · refine ⟨.int n, rfl, (n : Int), rfl, by omega, by omega, fun D8 nD8 => ?_⟩
            obtain ⟨at', rfl⟩ := Int.eq_ofNat_of_zero_le hp0
            have hat : at' ≤ B.length := by omega
            refine lc_range (lo := 0) (n := (n : Int).toNat) (fun i H8 => ∃ xs : List Str, H8 D8 = some (.lst (xs.map V.str)) ∧ xs.length = i ∧ (∀ x ∈ xs, Nm x) ∧ Mv [] H7 H8)
              ⟨[], upd_same, rfl, by simp, .new nD8⟩ (fun i H8 hi h8 => ?_) (fun H8 h8 => ?_)
            · obtain ⟨xs, e8, l8, c8, m8⟩ := h8
              have hsz : B.length ≤ sizeLine := Nat.le_of_lt (small1000 (by omega))
              have l1 : (cutS B none (some (at' : Int))).length = at' := by rw [← len_cps, cutS_to B at' hat, List.length_take, len_cps]; omega
              have l2 : (cutS B (some (at' : Int)) none).length = B.length - at' := by rw [← len_cps, cutS_from B at' hat, List.length_drop, len_cps]
              refine ⟨rfl, .str B, rfl, _, rfl, _, rfl, Or.inr (Or.inr ⟨B, rfl, hsz, _, rfl, .int turn, rfl, _, rfl, Or.inl ⟨3, _, rfl, rfl, .inl ⟨by decide, by decide⟩, Or.inl ⟨turn, _, rfl, rfl, Or.inl ⟨_, rfl, _, _, rfl, rfl, (by decide : (0 : Int) < _), ?_⟩⟩⟩⟩)⟩
              refine rd_letter (by decide +kernel) (Int.emod_nonneg _ (by decide)) (Int.emod_lt_of_pos _ (by decide)) fun c hc0 hc1 _ => ?_
              refine Or.inr (Or.inl ⟨_, _, rfl, rfl, by rw [l1, lenL]; exact Nat.le_of_lt (small1000 (by omega)), .str B, rfl, _, rfl, _, rfl, Or.inr (Or.inr ⟨B, rfl, hsz, Or.inr (Or.inl ⟨_, _, rfl, rfl, ?_, ?_⟩)⟩)⟩)
              · rw [str_len_append, l1, l2, lenL]
                exact Nat.le_of_lt (small1000 (by omega))
              · refine ⟨_, e8, ?_, xs ++ [cutS B none (some (at' : Int)) ++ ⟨#[c]⟩ ++ cutS B (some (at' : Int)) none], ?_, by simp [l8], ?_, m8.wr nD8⟩
                · rw [List.length_map, l8]
                  exact small1000 (by omega)
                · rw [upd_same, List.map_append]
                  rfl
                · intro z hz
                  rcases List.mem_append.mp hz with hz | hz
                  · exact c8 z hz
                  · rw [List.mem_singleton.mp hz]
                    refine ⟨?_, ?_, fun d hd => ?_⟩
                    · rw [str_len_append, str_len_append, l1, l2, lenL]
                      omega
                    · rw [str_len_append, str_len_append, l1, l2, lenL]
                      omega
                    · rw [str_cps_append, str_cps_append, cutS_to B at' hat, cutS_from B at' hat] at hd
                      rcases List.mem_append.mp hd with hd | hd
                      · rcases List.mem_append.mp hd with hd | hd
                        · exact hBc d (List.mem_of_mem_take hd)
                        · have : d = c := by simpa using hd
                          rw [this]
                          exact ⟨hc0, hc1⟩
                      · exact hBc d (List.mem_of_mem_drop hd)
            · obtain ⟨xs, e8, l8, c8, m8⟩ := h8
              exact q D8 xs H8 (by omega) c8 (dH7.free hB nD8) e8 (dH7.trans (Dr.of m8))
end
end Fm
namespace Fm
open PySem PySem.Spec PyProof.Rows L2
def sp_term (K : PySem.W.Frag) (d : Nat) : Sp := fun vs H Q _ => ∃ (b nm : Addr) (xs : List Str) (many deep : Int), vs = [.ref b, .ref nm, .int many, .int deep] ∧ Bag H b ∧
  H nm = some (.lst (xs.map V.str)) ∧ nm ≠ b ∧ xs ≠ [] ∧ xs.length ≤ 1000 ∧ (∀ x ∈ xs, Nm x) ∧ 0 ≤ many ∧ many ≤ 1000000 ∧ deep.toNat < d ∧
  ∀ v (t : Tm) H', t.ok (fun i => 0 ≤ i ∧ i < many) → t.dep ≤ max deep.toNat 1 → (0 < many → t.dep ≤ deep.toNat) → Im K H' v t.d → Dr b H H' → Q v H'
local macro_rules | `(tactic| walk_at "nn") => `(tactic| dsimp only [tC, tNil, tCons, tCB, tCall, gName, tSeq, tAsg, tPar, tDrop, tRet])
section
variable {P : Program} {w : World} {K : PySem.W.Frag} {mg : Str → Option Value} {base : Heap}
theorem ok__law_term (T : TX K mg) : ∀ d : Nat, FnOk P w K mg base CX0 (d + 2) T.d__law_term.f T.d__law_term.fd P__law_term (sp_term K d)
  | 0 => ⟨fun vs H Q E h => by obtain ⟨_, _, _, _, _, _, _, _, _, _, _, _, _, _, h, _⟩ := h; omega, fun _ _ _ _ _ _ _ _ _ _ _ _ _ h => by obtain ⟨_, _, _, _, _, _, _, _, _, _, _, _, _, _, h, _⟩ := h; omega⟩
  | d + 1 => by
    have G__law_term := ok__law_term T d
    have G__law_take : FnOk P w K mg base CX0 1 T.d__law_take.f T.d__law_take.fd P__law_take sp_take := ok__law_take T
    refine T.d__law_term.F.ok sc__law_term (fun vs H Q E h => ?_) (fun cdv A outer s H vs Q E hr h => ?_)
    · obtain ⟨b, nm, xs, many, deep, rfl, _⟩ := h
      rfl
    · obtain ⟨b, nm, xs, many, deep, rfl, hB, hN, hnb, hx0, hx1, hxN, hm0, hm1, hd, q⟩ := h
      have hu64 := hr.units
      have hlen : 0 < xs.length := List.length_pos_iff.mpr hx0
      refine ⟨_, (pss_cons (ps_set (i := 4) sc__law_term.nd rfl (Or.inl rfl) (pe_call G__law_take (hr.mono (by omega)) rfl T.d__law_take.g T.d__law_take.F.kp T.d__law_take.b .nil pass0 (pa_cons (pv 0) (pa_cons pe_int pa_nil)))) (pss_cons (ps_if (PW.pt (pw_and (pt_cmpR op_gt (pv 2) pe_int (nomark _)) (pw_and1 (PW.pt (pw_or (pt_cmpR op_lt (pv 3) pe_int (nomark _)) (pw_or1 (pt_cmpR (r := rEqG K) (op_eqG hu64) (pv 4) pe_int (nomark _)))))))) (pss_one (ps_ret (pe_call G__law_take (hr.mono (by omega)) rfl T.d__law_take.g T.d__law_take.F.kp T.d__law_take.b .nil pass0 (pa_cons (pv 0) (pa_cons (pv 2) pa_nil))))) pss_nil) (pss_cons (ps_par (i := 5) (j := 6) rfl sc__law_term.nd rfl rfl (by decide) rfl rfl (pa_cons (pe_ix (r := rIx K) ix_seq (pv 1) (pe_call G__law_take (hr.mono (by omega)) rfl T.d__law_take.g T.d__law_take.F.kp T.d__law_take.b .nil pass0 (pa_cons (pv 0) (pa_cons (pe_callB (r := rLenG K) call_lenG (by rfl) T.b_len bt_len (pa_cons (pv 1) pa_nil)) pa_nil))) (fun _ _ => rfl)) (pa_cons (pe_call G__law_take (hr.mono (by omega)) rfl T.d__law_take.g T.d__law_take.F.kp T.d__law_take.b .nil pass0 (pa_cons (pv 0) (pa_cons pe_int pa_nil))) pa_nil)) rfl) (pss_cons (ps_if (PW.pt (pw_or (PW.pt (pw_and (pt_cmpR op_le (pv 3) pe_int (nomark _)) (pw_and1 (pt_cmpR (r := rEqG K) (op_eqG hu64) (pv 2) pe_int (nomark _))))) (pw_or1 (pt_cmpR (r := rEqG K) (op_eqG hu64) (pv 4) pe_int (nomark _))))) (pss_one (ps_ret (pe_tup (pa_cons (pv 5) pa_nil)))) pss_nil) (pss_one (ps_ret (pe_op (r := rAddG K) op_addG (pe_tup (pa_cons (pv 5) pa_nil)) (pe_callTy (r := rTupOf K) call_tupG (by rfl) T.b_tuple bt_tuple (pa_cons (pe_lc (own := [("_law_k", 7)]) (g := gName 7) (by rfl) sc__law_term.nd (pi_range1 (by rfl) T.b_range (pa_cons (pv 6) pa_nil)) (blkOk_by (own := [("_law_k", 7)]) (N := N__law_term) (sc := defScope s__law_term) (by decide +kernel)) (fun _ _ _ _ _ => pg_name (i := 7) sc__law_term.nd rfl (Or.inl rfl)) (fun _ _ _ _ _ => pts_nil) (fun _ _ _ _ _ => (pe_call G__law_term (hr.mono (by omega)) rfl T.d__law_term.g T.d__law_term.F.kp T.d__law_term.b .nil pass0 (pa_cons (pv 0) (pa_cons (pv 1) (pa_cons (pv 2) (pa_cons (pe_op op_sub (pv 3) pe_int) pa_nil))))))) pa_nil))))))))), ?_⟩
      -- way
      refine ⟨.ref b, rfl, b, 4, rfl, hB, by decide, by decide, fun way H1 hw0 hw1 d1 => ?_⟩
      have hB1 := d1.bag hB
      have hN1 := d1.get hnb hN
      dsimp only [gName, tSeq, tPar]
      refine st_if (tb_and (tb_test (tv_I (tv_var rfl) tv_c)) (tb_or (tb_test (tv_I (tv_var rfl) tv_c)) (tb_test (tv_eqI (tv_var rfl) tv_c)))) ?_ ?_
      · -- an unknown
        intro e
        simp only [Bool.and_eq_true, decide_eq_true_eq] at e
        refine ⟨.ref b, rfl, .int many, rfl, b, many, rfl, hB1, e.1, hm1, fun i H2 hi0 hi1 d2 => ?_⟩
        exact q _ (.var i) H2 ⟨hi0, hi1⟩ (by simp [Tm.dep]) (fun _ => by simp [Tm.dep]) (Im.int i) (d1.trans d2)
      · intro e
        have e1 : ¬ (0 < many ∧ deep < 1) := fun z => by simp [z.1, z.2] at e
        -- name, parts
        refine ⟨.ref nm, rfl, .ref b, rfl, .ref nm, rfl, ?_⟩
        walk_at "nn"
        refine rd_len (.inl (.inl (.inl hN1))) ?_
        refine ⟨b, _, rfl, hB1, by rw [List.length_map]; omega, by rw [List.length_map]; omega, fun ni H2 hn0 hn1 d2 => ?_⟩
        rw [List.length_map] at hn1
        have hni : ni.toNat < xs.length := by omega
        have hB2 := d2.bag hB1
        have hN2 := d2.get hnb hN1
        refine rd_ixL (.inl (.inl hN2)) hn0 (v := .str xs[ni.toNat]) (by rw [List.getElem?_map, List.getElem?_eq_getElem hni]; rfl) ?_
        obtain ⟨nx, hnx, hNm⟩ : ∃ nx, nx = xs[ni.toNat] ∧ Nm nx := ⟨_, rfl, hxN _ (List.getElem_mem hni)⟩
        rw [← hnx]
        refine ⟨.ref b, rfl, b, 4, rfl, hB2, by decide, by decide, fun parts H3 hp0 hp1 d3 => ⟨_, _, rfl, ?_⟩⟩
        have hB3 := d3.bag hB2
        have hN3 := d3.get hnb hN2
        have d13 := (d1.trans d2).trans d3
        refine st_if (tb_or (tb_and (tb_test (tv_I (tv_var rfl) tv_c)) (tb_test (tv_eqI (tv_var rfl) tv_c))) (tb_test (tv_eqI (tv_var rfl) tv_c))) ?_ ?_
        · -- a constant
          intro e
          refine ⟨_, rfl, (by decide : 1 ≤ sizeLine), fun p np => ?_⟩
          refine q _ (.op nx []) _ ⟨hNm, by simp, trivial⟩ (by simp [Tm.dep, Tm.deps]; omega) (fun z => ?_) (Im.tup (.inl (.inl upd_same)) (Ims.cons (Im.str nx) Ims.nil)) (d13.trans (Dr.new np))
          simp only [Tm.dep, Tm.deps]
          omega
        · intro e
          have e2 : ¬ (deep ≤ 1 ∧ many = 0) := fun z => by simp [z.1, z.2] at e
          have hdeep : 1 ≤ deep := by omega
          refine ⟨_, rfl, (by decide : 1 ≤ sizeLine), fun p np => ?_⟩
          have d4 := d13.trans (Dr.new (o := .tup [.str nx]) np)
          have e4 : SqT K (upd H3 p (.tup [.str nx])) p [.str nx] := .inl (.inl upd_same)
          have hB4 := d4.bag hB
          have hN4 := d4.get hnb hN
          generalize upd H3 p (.tup [.str nx]) = H4 at d4 e4 hB4 hN4 ⊢
          refine ⟨.int parts, rfl, parts, rfl, by omega, by omega, fun D nD => ?_⟩
          refine lc_range (lo := 0) (n := parts.toNat) (fun i H5 => ∃ (vs : List V) (ts : List Tm), H5 D = some (.lst vs) ∧ Ims K H5 vs (Tm.ds ts) ∧ ts.length = i ∧ Tm.oks (fun i => 0 ≤ i ∧ i < many) ts ∧ Tm.deps ts ≤ max (deep - 1).toNat 1 ∧ (0 < many → Tm.deps ts ≤ (deep - 1).toNat) ∧ Dr b H4 H5)
            ⟨[], [], upd_same, Ims.nil, rfl, trivial, by simp [Tm.deps], fun _ => by simp [Tm.deps], Dr.new nD⟩ (fun i H5 hi h5 => ?_) (fun H5 h5 => ?_)
          · obtain ⟨vs, ts, e5, i5, l5, o5, p5, r5, d5⟩ := h5
            have hB5 := d5.bag hB4
            have hN5 := d5.get hnb hN4
            refine ⟨rfl, .ref b, rfl, .ref nm, rfl, .int many, rfl, .int deep, rfl, deep, 1, rfl, rfl, b, nm, xs, many, deep - 1, rfl, hB5, hN5, hnb, hx0, hx1, hxN, hm0, hm1, by omega, fun v t H6 ho hd1 hd2 him d6 => ?_⟩
            refine ⟨_, d6.get (hB4.fneq nD) e5, ?_, vs ++ [v], ts ++ [t], upd_same, ?_, by simp [l5], ?_, ?_, fun z => ?_, (d5.trans d6).wr nD⟩
            · rw [i5.length, Tm.ds_map, List.length_map, l5]
              exact small1000 (by omega)
            · rw [show Tm.ds (ts ++ [t]) = Tm.ds ts ++ [t.d] by simp [Tm.ds_map]]
              exact ((i5.mv d6.mv).append (Ims.cons him Ims.nil)).mv (Mv.set (S := [D]) (d6.get (hB4.fneq nD) e5) (by simp))
            · rw [Tm.oks_iff] at o5 ⊢
              intro y hy
              rcases List.mem_append.mp hy with hy | hy
              · exact o5 y hy
              · rw [List.mem_singleton.mp hy]
                exact ho
            · rw [Tm.deps_le] at p5 ⊢
              intro y hy
              rcases List.mem_append.mp hy with hy | hy
              · exact p5 y hy
              · rw [List.mem_singleton.mp hy]
                exact hd1
            · have r5' := r5 z
              have hd2' := hd2 z
              rw [Tm.deps_le] at r5' ⊢
              intro y hy
              rcases List.mem_append.mp hy with hy | hy
              · exact r5' y hy
              · rw [List.mem_singleton.mp hy]
                exact hd2'
          · obtain ⟨vs, ts, e5, i5, l5, o5, p5, r5, d5⟩ := h5
            walk_at "nn"
            refine rd_tupOf (.inl (.inl e5)) fun p6 H6 m6 e6 => ?_
            refine rd_cat (m6.sqT (d5.mv.sqT e4)) e6 ?_ fun p7 H7 m7 e7 => ?_
            · rw [i5.length, Tm.ds_map, List.length_map, l5]
              exact Nat.le_of_lt (small1000 (by simp; omega))
            · refine q _ (.op nx ts) H7 ⟨hNm, by omega, o5⟩ ?_ (fun z => ?_) (Im.tup e7 ?_) (d4.trans (d5.trans (Dr.of (m6.trans m7))))
              · simp only [Tm.dep]
                omega
              · have := r5 z
                simp only [Tm.dep]
                omega
              · exact Ims.cons (Im.str nx) ((i5.mv m6).mv m7)
end
end Fm
namespace Fm
open PySem PySem.Spec PyProof.Rows L2
local macro_rules | `(tactic| walk_at "nn") => `(tactic| dsimp only [tC, tNil, tCons, tCB, tCall, gName, tSeq, tAsg, tPar, tDrop, tRet])
/-- values by numbers: in a list, a tuple, a dict -/
def Look1 (K : PySem.W.Frag) (H : Hp) (vals : V) (P : Int → Prop) (f : Int → Tm) : Prop := ∃ a, vals = .ref a ∧
  ((∃ xs, SqL K H a xs ∧ ∀ i, P i → 0 ≤ i ∧ ∃ v, xs[i.toNat]? = some v ∧ Im K H v (f i).d) ∨
   (∃ xs, SqT K H a xs ∧ ∀ i, P i → 0 ≤ i ∧ ∃ v, xs[i.toNat]? = some v ∧ Im K H v (f i).d) ∨
   (∃ kvs, H a = some (.dK kvs) ∧ ∀ i, P i → ∃ v, valV kvs (.inl i) = some v ∧ Im K H v (f i).d))
theorem Look1.mv {K : PySem.W.Frag} {H H' : Hp} {vals : V} {P : Int → Prop} {f : Int → Tm} (h : Look1 K H vals P f) (m : Mv [] H H') : Look1 K H' vals P f := by
  obtain ⟨a, rfl, h⟩ := h
  refine ⟨a, rfl, ?_⟩
  rcases h with ⟨xs, h1, h2⟩ | ⟨xs, h1, h2⟩ | ⟨xs, h1, h2⟩
  · refine .inl ⟨xs, m.same.seq h1, fun i hi => ?_⟩
    obtain ⟨h0, v, hv, hm⟩ := h2 i hi
    exact ⟨h0, v, hv, hm.mv m⟩
  · refine .inr (.inl ⟨xs, m.sqT h1, fun i hi => ?_⟩)
    obtain ⟨h0, v, hv, hm⟩ := h2 i hi
    exact ⟨h0, v, hv, hm.mv m⟩
  · refine .inr (.inr ⟨xs, m.same _ _ h1, fun i hi => ?_⟩)
    obtain ⟨v, hv, hm⟩ := h2 i hi
    exact ⟨v, hv, hm.mv m⟩
def sp_put (K : PySem.W.Frag) (d : Nat) : Sp := fun vs H Q _ => ∃ (v vals : V) (t : Tm) (P : Int → Prop) (f : Int → Tm), vs = [v, vals] ∧ Im K H v t.d ∧ t.ok P ∧ t.dep < d ∧ Look1 K H vals P f ∧
  ∀ v' H', Mv [] H H' → Im K H' v' (t.put f).d → Q v' H'
section
variable {P : Program} {w : World} {K : PySem.W.Frag} {mg : Str → Option Value} {base : Heap}

theorem ok_put (T : TX K mg) : ∀ d : Nat, FnOk P w K mg base CX0 (d + 1) T.d_put.f T.d_put.fd P_put (sp_put K d)
  | 0 => ⟨fun vs H Q E h => by obtain ⟨_, _, _, _, _, _, _, _, h, _⟩ := h; omega, fun _ _ _ _ _ _ _ _ _ _ _ _ _ h => by obtain ⟨_, _, _, _, _, _, _, _, h, _⟩ := h; omega⟩
  | d + 1 => by
    have G_put := ok_put T d
    refine T.d_put.F.ok sc_put (fun vs H Q E h => ?_) (fun cdv A outer s H vs Q E hr h => ?_)
    · obtain ⟨_, _, _, _, _, rfl, _⟩ := h
      rfl
    · obtain ⟨v, vals, t, R, f, rfl, him, hok, hdp, hlk, q⟩ := h
      have hu1 := hu_of hr
      refine ⟨_, (pss_cons (ps_if (pt_val (pe_callB (r := rIsi K) call_isi (by rfl) T.b_isinstance bt_isinstance (pa_cons (pv 0) (pa_cons (pe_ty T.b_int bt_int) pa_nil)))) (pss_one (ps_ret (pe_or2 (pe_ix (r := rIx K) ix_seq (pv 1) (pv 0) (fun _ _ => rfl)) (pe_dget hu1 (pv 1) (pv 0) (fun _ _ => rfl))))) pss_nil) (pss_one (ps_ret (pe_op (r := rAddG K) op_addG (pe_slice (r := rSlG K) sl_G (pv 0) po_none (po_some pe_int)) (pe_callTy (r := rTupOf K) call_tupG (by rfl) T.b_tuple bt_tuple (pa_cons (pe_lc (own := [("part", 2)]) (g := gName 2) (by rfl) sc_put.nd (pi_seq (pe_slice (r := rSlG K) sl_G (pv 0) (po_some pe_int) po_none)) (blkOk_by (own := [("part", 2)]) (N := N_put) (sc := defScope s_put) (by decide +kernel)) (fun _ _ _ _ _ => pg_name (i := 2) sc_put.nd rfl (Or.inl rfl)) (fun _ _ _ _ _ => pts_nil) (fun _ _ _ _ _ => (pe_call G_put (hr.mono (by omega)) rfl T.d_put.g T.d_put.F.kp T.d_put.b .nil pass0 (pa_cons (pv 2) (pa_cons (pv 1) pa_nil))))) pa_nil)))))), ?_⟩
      refine ⟨v, rfl, ?_⟩
      walk_at "nn"
      refine rd_isInt him ?_
      refine ⟨_, rfl, ?_⟩
      cases t with
      | var i =>
        cases him.intI
        obtain ⟨a, rfl, hlk⟩ := hlk
        rcases hlk with ⟨xs, h1, h2⟩ | ⟨xs, h1, h2⟩ | ⟨xs, h1, h2⟩
        · obtain ⟨h0, y, hy, hm⟩ := h2 i hok
          exact Or.inl ⟨.ref a, rfl, .int i, rfl, rd_ixL h1 h0 hy (q _ _ .refl hm)⟩
        · obtain ⟨h0, y, hy, hm⟩ := h2 i hok
          exact Or.inl ⟨.ref a, rfl, .int i, rfl, rd_ixT h1 h0 hy (q _ _ .refl hm)⟩
        · obtain ⟨y, hy, hm⟩ := h2 i hok
          exact Or.inr ⟨.ref a, rfl, .int i, rfl, a, y, rfl, by rw [← hy]; exact DGet.k (k := .inl i) h1, q _ _ .refl hm⟩
      | op x ts =>
        obtain ⟨a, xs0, rfl, ha, hxs⟩ := him.tupI
        obtain ⟨x', xs, rfl, hx', hys⟩ := hxs.invD
        cases hx'.strI
        refine ⟨.ref a, rfl, 1, rfl, rd_slA ha fun p1 H1 m1 e1 => ⟨.ref a, rfl, 1, rfl, rd_sl1 (m1.sqT ha) fun p2 H2 m2 e2 => ⟨p2, rfl, Or.inr ⟨⟨_, e2⟩, fun D nD => ?_⟩⟩⟩⟩
        have m12 := m1.trans m2
        have hl : xs.length = ts.length := by rw [hys.length, Tm.ds_map, List.length_map]
        refine lc_tup (K := K) (a := p2) (xs := xs) (fun i H3 => ∃ ys, H3 D = some (.lst ys) ∧ Ims K H3 ys (Tm.ds ((ts.take i).map (Tm.put f))) ∧ Mv [] H2 H3)
          ⟨[], upd_same, Ims.nil, .new nD⟩ (fun i H3 _ h3 => ?_) (fun i z H3 hz h3 => ?_) (fun H3 h3 => ?_)
        · obtain ⟨ys, _, _, m3⟩ := h3
          exact m3.sqT e2
        · obtain ⟨ys, e3, i3, m3⟩ := h3
          obtain ⟨zd, hzd, hzi⟩ := hys.get hz
          rw [Tm.ds_map, List.getElem?_map] at hzd
          obtain ⟨zt, hzt, rfl⟩ := Option.map_eq_some_iff.mp hzd
          have hmem := List.mem_of_getElem? hzt
          refine ⟨rfl, z, rfl, vals, rfl, z, vals, zt, R, f, rfl, hzi.mv (m12.trans m3), Tm.oks_iff.mp hok.2.2 zt hmem, ?_, hlk.mv (m12.trans m3), fun y H4 m4 h4 => ?_⟩
          · have h5 := Tm.deps_le.mp (show Tm.deps ts ≤ Tm.deps ts from Nat.le_refl _) zt hmem
            simp only [Tm.dep] at hdp
            omega
          · have e4 := m4.same _ _ e3
            refine ⟨_, e4, ?_, ys ++ [y], upd_same, ?_, (m3.trans m4).wr nD⟩
            · have h6 := (List.getElem?_eq_some_iff.mp hzt).1
              have h7 := hok.2.1
              rw [i3.length, Tm.ds_map, List.length_map, List.length_map, List.length_take]
              exact small1000 (by omega)
            · rw [List.take_add_one, hzt]
              rw [show Tm.ds (List.map (Tm.put f) (ts.take i ++ (some zt).toList)) = Tm.ds ((ts.take i).map (Tm.put f)) ++ [(zt.put f).d] by simp [Tm.ds_map]]
              exact ((i3.mv m4).append (Ims.cons h4 Ims.nil)).mv (Mv.set (S := [D]) e4 (by simp))
        · obtain ⟨ys, e3, i3, m3⟩ := h3
          rw [hl, List.take_length] at i3
          walk_at "nn"
          refine rd_tupOf (.inl (.inl e3)) fun p4 H4 m4 e4 => ?_
          refine rd_cat (m4.sqT (m3.sqT (m2.sqT e1))) e4 ?_ fun p5 H5 m5 e5 => ?_
          · have h7 := hok.2.1
            rw [i3.length, Tm.ds_map, List.length_map, List.length_map]
            exact Nat.le_of_lt (small1000 (by simp; omega))
          · refine q _ H5 (((m12.trans m3).trans m4).trans m5) (Im.tup e5 (Ims.cons (Im.str x) ?_))
            rw [← Tm.puts_map] at i3
            exact (i3.mv m4).mv m5

theorem ok__law_put (T : TX K mg) : ∀ d : Nat, FnOk P w K mg base CX0 (d + 1) T.d__law_put.f T.d__law_put.fd P__law_put (sp_put K d)
  | 0 => ⟨fun vs H Q E h => by obtain ⟨_, _, _, _, _, _, _, _, h, _⟩ := h; omega, fun _ _ _ _ _ _ _ _ _ _ _ _ _ h => by obtain ⟨_, _, _, _, _, _, _, _, h, _⟩ := h; omega⟩
  | d + 1 => by
    have G__law_put := ok__law_put T d
    refine T.d__law_put.F.ok sc__law_put (fun vs H Q E h => ?_) (fun cdv A outer s H vs Q E hr h => ?_)
    · obtain ⟨_, _, _, _, _, rfl, _⟩ := h
      rfl
    · obtain ⟨v, vals, t, R, f, rfl, him, hok, hdp, hlk, q⟩ := h
      have hu1 := hu_of hr
      refine ⟨_, (pss_cons (ps_if (pt_val (pe_callB (r := rIsi K) call_isi (by rfl) T.b_isinstance bt_isinstance (pa_cons (pv 0) (pa_cons (pe_ty T.b_int bt_int) pa_nil)))) (pss_one (ps_ret (pe_or2 (pe_ix (r := rIx K) ix_seq (pv 1) (pv 0) (fun _ _ => rfl)) (pe_dget hu1 (pv 1) (pv 0) (fun _ _ => rfl))))) pss_nil) (pss_one (ps_ret (pe_op (r := rAddG K) op_addG (pe_slice (r := rSlG K) sl_G (pv 0) po_none (po_some pe_int)) (pe_callTy (r := rTupOf K) call_tupG (by rfl) T.b_tuple bt_tuple (pa_cons (pe_lc (own := [("_law_part", 2)]) (g := gName 2) (by rfl) sc__law_put.nd (pi_seq (pe_slice (r := rSlG K) sl_G (pv 0) (po_some pe_int) po_none)) (blkOk_by (own := [("_law_part", 2)]) (N := N__law_put) (sc := defScope s__law_put) (by decide +kernel)) (fun _ _ _ _ _ => pg_name (i := 2) sc__law_put.nd rfl (Or.inl rfl)) (fun _ _ _ _ _ => pts_nil) (fun _ _ _ _ _ => (pe_call G__law_put (hr.mono (by omega)) rfl T.d__law_put.g T.d__law_put.F.kp T.d__law_put.b .nil pass0 (pa_cons (pv 2) (pa_cons (pv 1) pa_nil))))) pa_nil)))))), ?_⟩
      refine ⟨v, rfl, ?_⟩
      walk_at "nn"
      refine rd_isInt him ?_
      refine ⟨_, rfl, ?_⟩
      cases t with
      | var i =>
        cases him.intI
        obtain ⟨a, rfl, hlk⟩ := hlk
        rcases hlk with ⟨xs, h1, h2⟩ | ⟨xs, h1, h2⟩ | ⟨xs, h1, h2⟩
        · obtain ⟨h0, y, hy, hm⟩ := h2 i hok
          exact Or.inl ⟨.ref a, rfl, .int i, rfl, rd_ixL h1 h0 hy (q _ _ .refl hm)⟩
        · obtain ⟨h0, y, hy, hm⟩ := h2 i hok
          exact Or.inl ⟨.ref a, rfl, .int i, rfl, rd_ixT h1 h0 hy (q _ _ .refl hm)⟩
        · obtain ⟨y, hy, hm⟩ := h2 i hok
          exact Or.inr ⟨.ref a, rfl, .int i, rfl, a, y, rfl, by rw [← hy]; exact DGet.k (k := .inl i) h1, q _ _ .refl hm⟩
      | op x ts =>
        obtain ⟨a, xs0, rfl, ha, hxs⟩ := him.tupI
        obtain ⟨x', xs, rfl, hx', hys⟩ := hxs.invD
        cases hx'.strI
        refine ⟨.ref a, rfl, 1, rfl, rd_slA ha fun p1 H1 m1 e1 => ⟨.ref a, rfl, 1, rfl, rd_sl1 (m1.sqT ha) fun p2 H2 m2 e2 => ⟨p2, rfl, Or.inr ⟨⟨_, e2⟩, fun D nD => ?_⟩⟩⟩⟩
        have m12 := m1.trans m2
        have hl : xs.length = ts.length := by rw [hys.length, Tm.ds_map, List.length_map]
        refine lc_tup (K := K) (a := p2) (xs := xs) (fun i H3 => ∃ ys, H3 D = some (.lst ys) ∧ Ims K H3 ys (Tm.ds ((ts.take i).map (Tm.put f))) ∧ Mv [] H2 H3)
          ⟨[], upd_same, Ims.nil, .new nD⟩ (fun i H3 _ h3 => ?_) (fun i z H3 hz h3 => ?_) (fun H3 h3 => ?_)
        · obtain ⟨ys, _, _, m3⟩ := h3
          exact m3.sqT e2
        · obtain ⟨ys, e3, i3, m3⟩ := h3
          obtain ⟨zd, hzd, hzi⟩ := hys.get hz
          rw [Tm.ds_map, List.getElem?_map] at hzd
          obtain ⟨zt, hzt, rfl⟩ := Option.map_eq_some_iff.mp hzd
          have hmem := List.mem_of_getElem? hzt
          refine ⟨rfl, z, rfl, vals, rfl, z, vals, zt, R, f, rfl, hzi.mv (m12.trans m3), Tm.oks_iff.mp hok.2.2 zt hmem, ?_, hlk.mv (m12.trans m3), fun y H4 m4 h4 => ?_⟩
          · have h5 := Tm.deps_le.mp (show Tm.deps ts ≤ Tm.deps ts from Nat.le_refl _) zt hmem
            simp only [Tm.dep] at hdp
            omega
          · have e4 := m4.same _ _ e3
            refine ⟨_, e4, ?_, ys ++ [y], upd_same, ?_, (m3.trans m4).wr nD⟩
            · have h6 := (List.getElem?_eq_some_iff.mp hzt).1
              have h7 := hok.2.1
              rw [i3.length, Tm.ds_map, List.length_map, List.length_map, List.length_take]
              exact small1000 (by omega)
            · rw [List.take_add_one, hzt]
              rw [show Tm.ds (List.map (Tm.put f) (ts.take i ++ (some zt).toList)) = Tm.ds ((ts.take i).map (Tm.put f)) ++ [(zt.put f).d] by simp [Tm.ds_map]]
              exact ((i3.mv m4).append (Ims.cons h4 Ims.nil)).mv (Mv.set (S := [D]) e4 (by simp))
        · obtain ⟨ys, e3, i3, m3⟩ := h3
          rw [hl, List.take_length] at i3
          walk_at "nn"
          refine rd_tupOf (.inl (.inl e3)) fun p4 H4 m4 e4 => ?_
          refine rd_cat (m4.sqT (m3.sqT (m2.sqT e1))) e4 ?_ fun p5 H5 m5 e5 => ?_
          · have h7 := hok.2.1
            rw [i3.length, Tm.ds_map, List.length_map, List.length_map]
            exact Nat.le_of_lt (small1000 (by simp; omega))
          · refine q _ H5 (((m12.trans m3).trans m4).trans m5) (Im.tup e5 (Ims.cons (Im.str x) ?_))
            rw [← Tm.puts_map] at i3
            exact (i3.mv m4).mv m5

end
end Fm
namespace Fm
open PySem PySem.Spec PyProof.Rows L2
local macro_rules | `(tactic| walk_at "nn") => `(tactic| dsimp only [tC, tNil, tCons, tCB, tCall, gName, tSeq, tAsg, tPar, tDrop, tRet])
theorem line5 {n : Nat} (h : n ≤ 100000) : n ≤ sizeLine := Nat.le_trans h (by decide)
theorem line5lt {n : Nat} (h : n ≤ 100000) : n < sizeLine := Nat.lt_of_le_of_lt h (by decide)
theorem Tm.mem_parts {x : Str} {us ts : List Tm} (h : Tm.op x us ∈ ts) : Tm.deps us < Tm.deps ts := by
  have := Tm.deps_le.mp (show Tm.deps ts ≤ Tm.deps ts from Nat.le_refl _) _ h
  simp only [Tm.dep] at this
  omega
theorem Tm.lv_mem : ∀ {t : Tm} {ts : List Tm}, t ∈ ts → t.lv ≤ Tm.lvs ts
  | t, u :: ts, h => by
    rcases List.mem_cons.mp h with rfl | h
    · simp only [Tm.lvs]; omega
    · have := Tm.lv_mem h
      simp only [Tm.lvs]; omega
theorem Tm.lvs_take : ∀ (i : Nat) (ts : List Tm), Tm.lvs (ts.take i) ≤ Tm.lvs ts
  | 0, ts => by simp [Tm.lvs]
  | i + 1, [] => by simp [Tm.lvs]
  | i + 1, t :: ts => by
    have := Tm.lvs_take i ts
    simp only [List.take_succ_cons, Tm.lvs]
    omega
def sp_leavesR (K : PySem.W.Frag) (d : Nat) : Sp := fun vs H Q _ => ∃ (a : Addr) (xs : List V) (ts : List Tm), vs = [.ref a] ∧ (SqL K H a xs ∨ SqT K H a xs) ∧ Ims K H xs (Tm.ds ts) ∧ Tm.deps ts < d ∧ Tm.lvs ts ≤ 100000 ∧
  ∀ p H', H p = none → Mv [] H H' → H' p = some (.lst ((Tm.leavesL ts).map V.int)) → Q (.ref p) H'
def sp_sizeR (K : PySem.W.Frag) (d : Nat) : Sp := fun vs H Q _ => ∃ (a : Addr) (xs : List V) (ts : List Tm), vs = [.ref a] ∧ (SqL K H a xs ∨ SqT K H a xs) ∧ Ims K H xs (Tm.ds ts) ∧ Tm.deps ts < d ∧ ts.length ≤ 100000 ∧ Tm.oks (fun _ => True) ts ∧
  ∀ H', Mv [] H H' → Q (.int (Tm.sizes ts)) H'
section
variable {P : Program} {w : World} {K : PySem.W.Frag} {mg : Str → Option Value} {base : Heap}
end
end Fm
namespace Fm
open PySem PySem.Spec PyProof.Rows L2
local macro_rules | `(tactic| walk_at "nn") => `(tactic| dsimp only [tC, tNil, tCons, tCB, tCall, gName, tSeq, tAsg, tPar, tDrop, tRet])
local macro_rules | `(tactic| walk_at "nc") => `(tactic| dsimp only [tC, tNil, tCons, tCB])
/-- names at hand -/
structure Nms (H : Hp) (b nm : Addr) (xs : List Str) : Prop where
  at_ : H nm = some (.lst (xs.map V.str))
  ne : nm ≠ b
  some_ : xs ≠ []
  few : xs.length ≤ 1000
  ok : ∀ x ∈ xs, Nm x
theorem Nms.dr {H H' : Hp} {b nm : Addr} {xs : List Str} (h : Nms H b nm xs) (d : Dr b H H') : Nms H' b nm xs := ⟨d.get h.ne h.at_, h.ne, h.some_, h.few, h.ok⟩
def sp_alike (K : PySem.W.Frag) : Sp := fun vs H Q _ => ∃ (x y : V) (d : PyData), vs = [x, y] ∧ Dp K H x d ∧ Dp K H y d ∧ Shw d ∧ Q (.bl true) H
section
variable {P : Program} {w : World} {K : PySem.W.Frag} {mg : Str → Option Value} {base : Heap}
theorem ok__law_alike (T : TX K mg) {k : Nat} : FnOkG P w K mg base CX0 (k + 1) T.d__law_alike.f T.d__law_alike.fd P__law_alike (sp_alike K) := by
  refine okG T.d__law_alike.F sc__law_alike (fun vs H Q E h => ?_) (fun cdv A outer s H vs Q E hgd hr h => ?_)
  · obtain ⟨_, _, _, rfl, _⟩ := h
    rfl
  · obtain ⟨x, y, d, rfl, hx, hy, hs, q⟩ := h
    have hu64 := hr.units
    refine ⟨_, (pss_one (ps_ret (pe_and (pe_cmpR (r := rEqG K) (op_eqG hu64) (pv 0) (pv 1) (nomark _)) (pe_one (pe_cmpR (r := rEqG K) (op_eqG hu64) (pe_callB (r := rReprG K) (call_reprG hgd hu64) (by rfl) T.b_repr bt_repr (pa_cons (pv 0) pa_nil)) (pe_callB (r := rReprG K) (call_reprG hgd hu64) (by rfl) T.b_repr bt_repr (pa_cons (pv 1) pa_nil)) (nomark _)))))), ?_⟩
    have hf := fine_lay d hs.fi
    refine ⟨x, rfl, y, rfl, Or.inr ⟨d, d, hx, hy, hs.shaped, hs.shaped, _, rfl, ?_⟩⟩
    rw [hs.eqv]
    refine ⟨x, rfl, ?_⟩
    walk_at "nc"
    refine ⟨x, d, rfl, hx, hf.2.1, hf.2.2, hs.dp, hs.len, y, rfl, ?_⟩
    refine ⟨y, d, rfl, hy, hf.2.1, hf.2.2, hs.dp, hs.len, Or.inl ⟨rfl, ?_⟩⟩
    rw [decide_eq_true rfl]
    exact q
theorem ints_shaped : ∀ o : List Int, SeqAt.shaped (.list (o.map PyData.int)) = true := fun o => by
  have h1 : ∀ o : List Int, PyData.canLayAll0 (o.map PyData.int) = true := fun o => by
    induction o with
    | nil => rfl
    | cons x o ih => simp [PyData.canLayAll0, PyData.canLay0, ih]
  have h2 : ∀ o : List Int, PyData.depthAll (o.map PyData.int) = 0 := fun o => by
    induction o with
    | nil => rfl
    | cons x o ih => simp [PyData.depthAll, PyData.depth, ih]
  show (PyData.canLay0 (.list (o.map PyData.int)) && decide (PyData.depth (.list (o.map PyData.int)) ≤ 64)) = true
  simp only [PyData.canLay0, PyData.depth, h1, h2]
  rfl
theorem dp_ints {H : Hp} : ∀ o : List Int, DpAll K H (o.map V.int) (o.map PyData.int)
  | [] => .nil
  | x :: o => .cons (.int x) (dp_ints o)
theorem ints_any (o : List Int) (u : Int) : ((o.map PyData.int).any fun z => PyData.eqv z (.int u)) = decide (u ∈ o) := by
  rw [List.any_map]
  have e : ((fun z => PyData.eqv z (.int u)) ∘ PyData.int) = fun z => z == u := by
    funext z
    simp [PyData.eqv]
  rw [e, Bool.eq_iff_iff]
  simp
end
end Fm
namespace Fm
open PySem PySem.Spec PyProof.Rows L2
local macro_rules | `(tactic| walk_at "nn") => `(tactic| dsimp only [tC, tNil, tCons, tCB, tCall, gName, tSeq, tAsg, tPar, tDrop, tRet])
/-- how many operations and unknowns -/
def Tm.nod (ts : List Tm) : Nat := Tm.sizes ts + Tm.lvs ts
theorem Tm.nod_len : ∀ ts : List Tm, ts.length ≤ Tm.nod ts
  | [] => Nat.zero_le _
  | t :: ts => by
    have h := Tm.nod_len ts
    have h1 : 1 ≤ t.size + t.lv := by cases t <;> simp [Tm.size, Tm.lv] <;> omega
    simp only [Tm.nod, Tm.sizes, Tm.lvs, List.length_cons] at *
    omega
theorem Tm.nod_append (ts us : List Tm) : Tm.nod (ts ++ us) = Tm.nod ts + Tm.nod us := by
  unfold Tm.nod
  rw [Tm.sizes_append, Tm.lvs_append]
  omega
theorem Tm.nod_op (x : Str) (us : List Tm) : Tm.nod [Tm.op x us] = Tm.nod us + 1 := by
  simp only [Tm.nod, Tm.sizes, Tm.lvs, Tm.size, Tm.lv]
  omega
theorem Tm.nod_var (i : Int) : Tm.nod [Tm.var i] = 1 := by simp [Tm.nod, Tm.sizes, Tm.lvs, Tm.size, Tm.lv]
theorem Tm.nod_rev : ∀ ts : List Tm, Tm.nod ts.reverse = Tm.nod ts
  | [] => rfl
  | t :: ts => by
    rw [List.reverse_cons, Tm.nod_append, Tm.nod_rev ts, show t :: ts = [t] ++ ts from rfl, Tm.nod_append]
    omega
theorem Tm.ds_append (ts us : List Tm) : Tm.ds (ts ++ us) = Tm.ds ts ++ Tm.ds us := by simp [Tm.ds_map]
theorem Tm.ds_rev (ts : List Tm) : Tm.ds ts.reverse = (Tm.ds ts).reverse := by simp [Tm.ds_map]
section
variable {K : PySem.W.Frag} {H : Hp}
theorem Ims.reverse : ∀ {ds : List PyData} {vs : List V}, Ims K H vs ds → Ims K H vs.reverse ds.reverse
  | [], _, h => by rw [h.nilD]; exact Ims.nil
  | d :: ds, _, h => by
    obtain ⟨v, vs', rfl, h1, h2⟩ := h.invD
    rw [List.reverse_cons, List.reverse_cons]
    exact h2.reverse.append (Ims.cons h1 Ims.nil)
/-- the last one -/
theorem Ims.last {vs : List V} {ds : List PyData} {d : PyData} (h : Ims K H vs (ds ++ [d])) : ∃ vs' v, vs = vs' ++ [v] ∧ Ims K H vs' ds ∧ Im K H v d := by
  have hr := h.reverse
  rw [List.reverse_append] at hr
  obtain ⟨v, vs', e, h1, h2⟩ := hr.invD
  refine ⟨vs'.reverse, v, ?_, ?_, h1⟩
  · have := congrArg List.reverse e
    simpa using this
  · have := h2.reverse
    simpa using this
/-- a list of terms is compared with the empty one -/
theorem rd_neNil {l q : Addr} {ys : List V} {us : List Tm} {P : Int → Prop} {Q : VK} (hP : ∀ i, P i → i.natAbs < 10 ^ 40) (hl : H l = some (.lst ys)) (hq : H q = some (.lst [])) (hi : Ims K H ys (Tm.ds us)) (ho : Tm.oks P us) (hd : Tm.deps us ≤ 50)
    (h : Q (.bl (!us.isEmpty)) H) : rNeG K (.ref l) (.ref q) H Q := by
  have s1 : SeqAt.shaped (.list (Tm.ds us)) = true := by
    show (PyData.canLay0 (.list (Tm.ds us)) && decide (PyData.depth (.list (Tm.ds us)) ≤ 64)) = true
    have e := (fine_lay (.list (Tm.ds us)) (fine_ds hP us ho)).1
    have e2 : PyData.depth (.list (Tm.ds us)) ≤ 64 := by
      simp only [PyData.depth, depth_ds]
      omega
    rw [e, decide_eq_true e2]
    rfl
  refine Or.inr ⟨.list (Tm.ds us), .list [], .lst (.inl (.inl hl)) hi.dp, .lst (.inl (.inl hq)) .nil, s1, by decide, ?_⟩
  rw [eqv_nil]
  have e : (Tm.ds us).isEmpty = us.isEmpty := by cases us <;> simp [Tm.ds]
  rw [e]
  exact h
end
def sp_size (K : PySem.W.Frag) : Sp := fun vs H Q _ => ∃ (a : Addr) (xs : List V) (ts : List Tm) (P : Int → Prop), vs = [.ref a] ∧ (SqL K H a xs ∨ SqT K H a xs) ∧ Ims K H xs (Tm.ds ts) ∧ Tm.oks P ts ∧ (∀ i, P i → i.natAbs < 10 ^ 40) ∧ Tm.deps ts ≤ 50 ∧
  Tm.nod ts ≤ 100000 ∧ ∀ H', Mv [] H H' → Q (.int (Tm.sizes ts)) H'
def sp_leaves (K : PySem.W.Frag) : Sp := fun vs H Q _ => ∃ (a : Addr) (xs : List V) (ts : List Tm) (P : Int → Prop), vs = [.ref a] ∧ (SqL K H a xs ∨ SqT K H a xs) ∧ Ims K H xs (Tm.ds ts) ∧ Tm.oks P ts ∧ (∀ i, P i → i.natAbs < 10 ^ 40) ∧ Tm.deps ts ≤ 50 ∧
  Tm.nod ts ≤ 100000 ∧ ∀ p H', H p = none → Mv [] H H' → H' p = some (.lst ((Tm.leavesL ts).map V.int)) → Q (.ref p) H'
section
variable {P : Program} {w : World} {K : PySem.W.Frag} {mg : Str → Option Value} {base : Heap}
end
end Fm
namespace Fm
open PySem PySem.Spec PyProof.Rows L2
local macro_rules | `(tactic| walk_at "nn") => `(tactic| dsimp only [tC, tNil, tCons, tCB, tCall, gName, tSeq, tAsg, tPar, tDrop, tRet])
theorem Tm.leaves_le (ts : List Tm) : (Tm.leavesL ts).length ≤ Tm.nod ts := by
  rw [Tm.leavesL_len]
  unfold Tm.nod
  omega
section
variable {P : Program} {w : World} {K : PySem.W.Frag} {mg : Str → Option Value} {base : Heap}
end
end Fm
/-! frames, plainly: values put in, counted -/
namespace Fm
open PySem PySem.Spec PyProof.Rows L2
namespace Tm
mutual
theorem put_put (f g : Int → Tm) : ∀ t : Tm, put g (put f t) = put (fun i => put g (f i)) t
  | .var _ => by simp [put]
  | .op _ ts => by simp [put, puts_puts f g ts]
theorem puts_puts (f g : Int → Tm) : ∀ ts : List Tm, puts g (puts f ts) = puts (fun i => put g (f i)) ts
  | [] => by simp [puts]
  | t :: ts => by simp [puts, put_put f g t, puts_puts f g ts]
end
mutual
theorem put_id : ∀ t : Tm, put .var t = t
  | .var _ => by simp [put]
  | .op _ ts => by simp [put, puts_id ts]
theorem puts_id : ∀ ts : List Tm, puts .var ts = ts
  | [] => by simp [puts]
  | t :: ts => by simp [puts, put_id t, puts_id ts]
end
mutual
theorem size_put (f : Int → Tm) : ∀ t : Tm, size (put f t) = size t + ((leaves t).map fun i => size (f i)).sum
  | .var _ => by simp [put, size, leaves]
  | .op _ ts => by
    simp only [put, size, leaves, sizes_puts f ts]
    omega
theorem sizes_puts (f : Int → Tm) : ∀ ts : List Tm, sizes (puts f ts) = sizes ts + ((leavesL ts).map fun i => size (f i)).sum
  | [] => by simp [puts, sizes, leavesL]
  | t :: ts => by
    simp only [puts, sizes, leavesL, size_put f t, sizes_puts f ts, List.map_append, List.sum_append]
    omega
end
mutual
theorem lv_le {P : Int → Prop} : ∀ t : Tm, ok P t → lv t ≤ 2 * size t + 1
  | .var _, _ => by simp [lv, size]
  | .op _ ts, h => by
    have := lvs_le ts h.2.2
    have := h.2.1
    simp only [lv, size]
    omega
theorem lvs_le {P : Int → Prop} : ∀ ts : List Tm, oks P ts → lvs ts ≤ 2 * sizes ts + ts.length
  | [], _ => by simp [lvs]
  | t :: ts, h => by
    have := lv_le t h.1
    have := lvs_le ts h.2
    simp only [lvs, sizes, List.length_cons]
    omega
end
theorem size_le {t : Tm} : ∀ {ts : List Tm}, t ∈ ts → size t ≤ sizes ts
  | u :: ts, h => by
    rcases List.mem_cons.mp h with rfl | h
    · simp only [sizes]; omega
    · have := size_le h
      simp only [sizes]; omega
theorem sizes_small {P : Int → Prop} : ∀ (n : Nat) (t : Tm), ok P t → dep t ≤ n → 2 * size t + 1 ≤ 3 ^ n := by
  intro n
  induction n with
  | zero =>
    intro t h hd
    cases t with
    | var i => simp [size]
    | op x ts => simp [dep] at hd
  | succ n ih =>
    intro t h hd
    have hp : 1 ≤ 3 ^ n := Nat.one_le_pow _ _ (by decide)
    cases t with
    | var i =>
      simp only [size, Nat.pow_succ]
      omega
    | op x ts =>
      have hs : ∀ us : List Tm, oks P us → deps us ≤ n → 2 * sizes us + us.length ≤ us.length * 3 ^ n := by
        intro us
        induction us with
        | nil => intro _ _; simp [sizes]
        | cons u us ih2 =>
          intro ho hdd
          have h1 := ih u ho.1 (by simp only [deps] at hdd; omega)
          have h2 := ih2 ho.2 (by simp only [deps] at hdd; omega)
          simp only [sizes, List.length_cons, Nat.add_mul, Nat.one_mul]
          omega
      have h1 := hs ts h.2.2 (by simp only [dep] at hd; omega)
      have h3 := h.2.1
      simp only [size, Nat.pow_succ]
      generalize 3 ^ n = m at *
      have : ts.length = 0 ∨ ts.length = 1 ∨ ts.length = 2 ∨ ts.length = 3 := by omega
      rcases this with e | e | e | e <;> rw [e] at h1 <;> omega
end Tm
/-- the value of a variable -/
def vat (vs : List Tm) (i : Int) : Tm := (vs[i.toNat]?).getD (.var i)
theorem vat_some {vs : List Tm} {i : Int} (h0 : 0 ≤ i) (h1 : i < vs.length) : vs[i.toNat]? = some (vat vs i) := by
  have h : i.toNat < vs.length := by omega
  unfold vat
  rw [List.getElem?_eq_getElem h]
  rfl
theorem vat_mem {vs : List Tm} {i : Int} (h0 : 0 ≤ i) (h1 : i < vs.length) : vat vs i ∈ vs := List.mem_of_getElem? (vat_some h0 h1)
/-- the term of a variable behind changes -/
def chAt (chs : List (Int × Tm)) (i : Nat) : Tm := ((chs.find? fun c => c.1 == (i : Int)).map (·.2)).getD (.var i)
def chT (n : Nat) (chs : List (Int × Tm)) : List Tm := (List.range n).map (chAt chs)
/-- the values behind changes that are made at once -/
def chg (vs : List Tm) (chs : List (Int × Tm)) : List Tm := (chT vs.length chs).map (Tm.put (vat vs))
theorem chT_len (n : Nat) (chs : List (Int × Tm)) : (chT n chs).length = n := by unfold chT; rw [List.length_map, List.length_range]
theorem chg_len (vs : List Tm) (chs : List (Int × Tm)) : (chg vs chs).length = vs.length := by unfold chg; rw [List.length_map, chT_len]
theorem chT_get {n : Nat} {chs : List (Int × Tm)} {i : Nat} (h : i < n) : (chT n chs)[i]? = some (chAt chs i) := by
  unfold chT
  rw [List.getElem?_map, List.getElem?_range h]
  rfl
theorem chAt_snoc {chs : List (Int × Tm)} {c : Int × Tm} (h : c.1 ∉ chs.map (·.1)) (i : Nat) : chAt (chs ++ [c]) i = if c.1 = (i : Int) then c.2 else chAt chs i := by
  unfold chAt
  rw [List.find?_append]
  by_cases e : c.1 = (i : Int)
  · have : chs.find? (fun c => c.1 == (i : Int)) = none := by
      rw [List.find?_eq_none]
      intro x hx
      intro z
      apply h
      rw [e, ← eq_of_beq z]
      exact List.mem_map.mpr ⟨x, hx, rfl⟩
    rw [this, if_pos e]
    simp [e]
  · rw [if_neg e]
    have : ([c] : List (Int × Tm)).find? (fun c => c.1 == (i : Int)) = none := by
      rw [List.find?_eq_none]
      intro x hx z
      rw [List.mem_singleton.mp hx] at z
      exact e (eq_of_beq z)
    rw [this]
    simp
theorem chT_snoc {n : Nat} {chs : List (Int × Tm)} {c : Int × Tm} (h : c.1 ∉ chs.map (·.1)) (h0 : 0 ≤ c.1) : chT n (chs ++ [c]) = (chT n chs).set c.1.toNat c.2 := by
  apply List.ext_getElem?
  intro i
  by_cases hi : i < n
  · rw [chT_get hi, chAt_snoc h]
    by_cases e : c.1 = (i : Int)
    · rw [if_pos e]
      have : c.1.toNat = i := by omega
      rw [this, List.getElem?_set_self (by rw [chT_len]; exact hi)]
    · rw [if_neg e, List.getElem?_set_ne (by omega), chT_get hi]
  · rw [List.getElem?_eq_none (by rw [chT_len]; omega), List.getElem?_eq_none (by rw [List.length_set, chT_len]; omega)]
theorem chT_nil (n : Nat) : chT n [] = (List.range n).map fun i => .var (i : Int) := by
  unfold chT chAt
  simp
theorem chg_nil (vs : List Tm) : chg vs [] = vs := by
  unfold chg
  rw [chT_nil, List.map_map]
  apply List.ext_getElem?
  intro i
  rw [List.getElem?_map]
  by_cases hi : i < vs.length
  · rw [List.getElem?_range hi]
    have := vat_some (vs := vs) (i := (i : Int)) (by omega) (by omega)
    rw [Int.toNat_natCast] at this
    rw [this]
    simp [Tm.put]
  · rw [List.getElem?_eq_none (by rw [List.length_range]; omega), List.getElem?_eq_none (by omega)]
    rfl
/-- terms of changes: over the variables, not too deep -/
structure ChDp (many : Int) (dc : Nat) (chs : List (Int × Tm)) : Prop where
  ok : ∀ c ∈ chs, c.2.ok fun i => 0 ≤ i ∧ i < many
  dp : ∀ c ∈ chs, c.2.dep ≤ dc
theorem chAt_or (chs : List (Int × Tm)) (i : Nat) : chAt chs i = .var i ∨ ∃ c ∈ chs, c.2 = chAt chs i := by
  unfold chAt
  cases e : chs.find? fun c => c.1 == (i : Int) with
  | none => exact .inl rfl
  | some c => exact .inr ⟨c, List.mem_of_find?_eq_some e, rfl⟩
theorem chT_ok {many : Int} {dc : Nat} {chs : List (Int × Tm)} (h : ChDp many dc chs) {n : Nat} (hn : (n : Int) = many) : Tm.oks (fun i => 0 ≤ i ∧ i < many) (chT n chs) ∧ Tm.deps (chT n chs) ≤ dc := by
  have key : ∀ t ∈ chT n chs, t.ok (fun i => 0 ≤ i ∧ i < many) ∧ t.dep ≤ dc := fun t ht => by
    obtain ⟨i, hi, rfl⟩ := List.mem_map.mp ht
    have hi' := List.mem_range.mp hi
    rcases chAt_or chs i with e | ⟨c, hc, e⟩
    · rw [e]
      exact ⟨⟨by omega, by omega⟩, by simp [Tm.dep]⟩
    · rw [← e]
      exact ⟨h.ok c hc, h.dp c hc⟩
  exact ⟨Tm.oks_iff.mpr fun t ht => (key t ht).1, Tm.deps_le.mpr fun t ht => (key t ht).2⟩
theorem chg_ok {many : Int} {dc d : Nat} {chs : List (Int × Tm)} {P : Int → Prop} {vs : List Tm} (h : ChDp many dc chs) (hl : (vs.length : Int) = many) (ho : Tm.oks P vs) (hd : Tm.deps vs ≤ d) : Tm.oks P (chg vs chs) ∧ Tm.deps (chg vs chs) ≤ dc + d := by
  obtain ⟨h1, h2⟩ := chT_ok h hl
  have hv : ∀ i : Int, 0 ≤ i ∧ i < many → (vat vs i).ok P ∧ (vat vs i).dep ≤ d := fun i hi => by
    have hm := vat_mem (vs := vs) hi.1 (by omega)
    exact ⟨Tm.oks_iff.mp ho _ hm, Tm.deps_le.mp hd _ hm⟩
  unfold chg
  rw [← Tm.puts_map]
  refine ⟨Tm.oks_puts (fun i hi => (hv i hi).1) _ h1, ?_⟩
  have := Tm.deps_puts (fun i hi => (hv i hi).2) _ h1
  omega
theorem chg_sizes (vs : List Tm) (chs : List (Int × Tm)) : Tm.sizes (chg vs chs) = Tm.sizes (chT vs.length chs) + ((Tm.leavesL (chT vs.length chs)).map fun i => (vat vs i).size).sum := by
  unfold chg
  rw [← Tm.puts_map, Tm.sizes_puts]
/-- with terms put in -/
theorem chg_sub {many : Int} {dc : Nat} {chs : List (Int × Tm)} {vs : List Tm} (s : Int → Tm) (h : ChDp many dc chs) (hl : (vs.length : Int) = many) : chg (vs.map (Tm.put s)) chs = (chg vs chs).map (Tm.put s) := by
  obtain ⟨h1, _⟩ := chT_ok h hl
  unfold chg
  rw [List.length_map, List.map_map]
  refine List.map_congr_left fun t ht => ?_
  show t.put _ = (t.put _).put s
  rw [Tm.put_put]
  refine Tm.put_congr t fun i hi => ?_
  have hi' := Tm.ok_leaves t (Tm.oks_iff.mp h1 t ht) i hi
  unfold vat
  rw [List.getElem?_map, List.getElem?_eq_getElem (show i.toNat < vs.length by omega)]
  rfl
end Fm
namespace Fm
open PySem PySem.Spec PyProof.Rows L2
theorem bt_range : bootBuiltins "range" = some (.type "range") := by decide +kernel
/-! things: what a function of kinds may be handed -/
inductive Th where
  | non
  | bl (b : Bool)
  | int (i : Int)
  | str (x : Str)
  | tup (ts : List Th)
  | lst
  | dct
mutual
/-- v is such a thing; b: a list that may change meanwhile -/
def Is (K : PySem.W.Frag) (b : Addr) (H : Hp) (v : V) : Th → Prop
  | .non => v = .non
  | .bl c => v = .bl c
  | .int i => v = .int i
  | .str x => v = .str x ∧ x.length ≤ 1000
  | .tup ts => ∃ a xs, v = .ref a ∧ SqT K H a xs ∧ IsAll K b H xs ts
  | .lst => ∃ a xs, v = .ref a ∧ a ≠ b ∧ H a = some (.lst xs)
  | .dct => ∃ a kvs, v = .ref a ∧ a ≠ b ∧ H a = some (.dK kvs)
def IsAll (K : PySem.W.Frag) (b : Addr) (H : Hp) (xs : List V) : List Th → Prop
  | [] => xs = []
  | t :: ts => ∃ y ys, xs = y :: ys ∧ Is K b H y t ∧ IsAll K b H ys ts
end
section
variable {K : PySem.W.Frag} {b : Addr} {H H' : Hp}
mutual
theorem Is.mv (m : Mv [b] H H') : ∀ (t : Th) (v : V), Is K b H v t → Is K b H' v t
  | .non, v, h => h
  | .bl _, v, h => h
  | .int _, v, h => h
  | .str _, v, h => h
  | .tup ts, v, h => by
    obtain ⟨a, xs, e, hs, ha⟩ := h
    exact ⟨a, xs, e, m.sqT hs, IsAll.mv m ts xs ha⟩
  | .lst, v, h => by
    obtain ⟨a, xs, e, hb, ha⟩ := h
    exact ⟨a, xs, e, hb, m.keep a _ (by simpa using hb) ha⟩
  | .dct, v, h => by
    obtain ⟨a, xs, e, hb, ha⟩ := h
    exact ⟨a, xs, e, hb, m.keep a _ (by simpa using hb) ha⟩
theorem IsAll.mv (m : Mv [b] H H') : ∀ (ts : List Th) (xs : List V), IsAll K b H xs ts → IsAll K b H' xs ts
  | [], xs, h => h
  | t :: ts, xs, h => by
    obtain ⟨y, ys, e, h1, h2⟩ := h
    exact ⟨y, ys, e, Is.mv m t y h1, IsAll.mv m ts ys h2⟩
end
theorem Is.mv0 {t : Th} {v : V} (h : Is K b H v t) (m : Mv [] H H') : Is K b H' v t := Is.mv (m.mono (by simp)) t v h
theorem IsAll.mv0 {ts : List Th} {xs : List V} (h : IsAll K b H xs ts) (m : Mv [] H H') : IsAll K b H' xs ts := IsAll.mv (m.mono (by simp)) ts xs h
theorem Is.dr {t : Th} {v : V} (h : Is K b H v t) (m : Dr b H H') : Is K b H' v t := Is.mv m.mv t v h
theorem IsAll.dr {ts : List Th} {xs : List V} (h : IsAll K b H xs ts) (m : Dr b H H') : IsAll K b H' xs ts := IsAll.mv m.mv ts xs h
theorem IsAll.length : ∀ {ts : List Th} {xs : List V}, IsAll K b H xs ts → xs.length = ts.length
  | [], xs, h => by
    have h' : xs = [] := h
    rw [h']
    rfl
  | t :: ts, xs, h => by
    obtain ⟨y, ys, rfl, _, k⟩ := h
    simp [k.length]
theorem IsAll.append : ∀ {ts us : List Th} {xs ys : List V}, IsAll K b H xs ts → IsAll K b H ys us → IsAll K b H (xs ++ ys) (ts ++ us)
  | [], _, xs, _, h, k => by
    have h' : xs = [] := h
    rw [h']
    exact k
  | t :: ts, _, xs, _, h, k => by
    obtain ⟨y, zs, rfl, h1, h2⟩ := h
    exact ⟨y, zs ++ _, rfl, h1, h2.append k⟩
theorem IsAll.nil : IsAll K b H [] [] := rfl
theorem IsAll.cons {t : Th} {ts : List Th} {y : V} {ys : List V} (h : Is K b H y t) (k : IsAll K b H ys ts) : IsAll K b H (y :: ys) (t :: ts) := ⟨y, ys, rfl, h, k⟩
theorem IsAll.get : ∀ {ts : List Th} {xs : List V} {i : Nat} {v : V}, IsAll K b H xs ts → xs[i]? = some v → ∃ t, ts[i]? = some t ∧ Is K b H v t
  | [], xs, _, _, h, e => by
    have h' : xs = [] := h
    rw [h'] at e
    simp at e
  | t :: ts, _, 0, _, h, e => by
    obtain ⟨y, ys, rfl, h1, h2⟩ := h
    simp at e
    subst e
    exact ⟨t, rfl, h1⟩
  | t :: ts, _, i + 1, _, h, e => by
    obtain ⟨y, ys, rfl, h1, h2⟩ := h
    exact h2.get (i := i) (by simpa using e)
theorem IsAll.take : ∀ {ts : List Th} {xs : List V} (n : Nat), IsAll K b H xs ts → IsAll K b H (xs.take n) (ts.take n)
  | [], xs, n, h => by
    have h' : xs = [] := h
    rw [h']
    simpa using IsAll.nil
  | t :: ts, _, 0, h => by simpa using IsAll.nil
  | t :: ts, _, n + 1, h => by
    obtain ⟨y, ys, rfl, h1, h2⟩ := h
    exact IsAll.cons h1 (h2.take n)
theorem IsAll.drop : ∀ {ts : List Th} {xs : List V} (n : Nat), IsAll K b H xs ts → IsAll K b H (xs.drop n) (ts.drop n)
  | [], xs, n, h => by
    have h' : xs = [] := h
    rw [h']
    simpa using IsAll.nil
  | t :: ts, _, 0, h => by simpa using h
  | t :: ts, _, n + 1, h => by
    obtain ⟨y, ys, rfl, h1, h2⟩ := h
    exact h2.drop n
theorem IsAll.last {ts : List Th} {t : Th} : ∀ {us : List Th} {xs : List V}, us = ts ++ [t] → IsAll K b H xs us → ∃ ys y, xs = ys ++ [y] ∧ IsAll K b H ys ts ∧ Is K b H y t := by
  induction ts with
  | nil =>
    intro us xs e h
    subst e
    obtain ⟨y, ys, rfl, h1, h2⟩ := h
    have h3 : ys = [] := h2
    exact ⟨[], y, by rw [h3]; rfl, IsAll.nil, h1⟩
  | cons u ts ih =>
    intro us xs e h
    subst e
    obtain ⟨y, ys, rfl, h1, h2⟩ := h
    obtain ⟨zs, z, rfl, h3, h4⟩ := ih rfl h2
    exact ⟨y :: zs, z, rfl, IsAll.cons h1 h3, h4⟩
/-! classes -/
def tyN : Th → String
  | .non => "NoneType"
  | .bl _ => "bool"
  | .int _ => "int"
  | .str _ => "str"
  | .tup _ => "tuple"
  | .lst => "list"
  | .dct => "dict"
theorem tyx_is {t : Th} {v : V} (h : Is K b H v t) : TyX K H v (.type (tyN t)) := by
  cases t with
  | non => cases (show v = V.non from h); exact .base .non
  | bl c => cases (show v = V.bl c from h); exact .base (.bl c)
  | int i => cases (show v = V.int i from h); exact .base (.int i)
  | str x => cases (show v = V.str x from h.1); exact .base (.str x)
  | tup ts =>
    obtain ⟨a, xs, rfl, hs, _⟩ := h
    rcases hs with (hs | ⟨o, hs⟩) | ⟨o, its, n, hk, hc, _⟩
    · exact .base (.tup hs)
    · exact .fTuple hs
    · exact .kTuple hk hc
  | lst =>
    obtain ⟨a, xs, rfl, _, ha⟩ := h
    exact .base (.lst ha)
  | dct =>
    obtain ⟨a, kvs, rfl, _, ha⟩ := h
    exact .base (.dK ha)
theorem rd_isi {t : Th} {v : V} {T : String} {c : Bool} {Q : VK} (h : Is K b H v t) (k : kitB (tyN t) T = some c) (q : Q (.bl c) H) : rIsi K [v, .ty T] H Q := ⟨v, .ty T, _, _, c, rfl, .ty T, tyx_is h, kit_ty k, q⟩
def isIntT : Th → Bool
  | .int _ => true
  | .bl _ => true
  | _ => false
def isBoolT : Th → Bool
  | .bl _ => true
  | _ => false
def isStrT : Th → Bool
  | .str _ => true
  | _ => false
def isTupT : Th → Bool
  | .tup _ => true
  | _ => false
def isLstT : Th → Bool
  | .lst => true
  | _ => false
theorem kit_int (t : Th) : kitB (tyN t) "int" = some (isIntT t) := by cases t <;> (simp only [tyN, isIntT]; decide +kernel)
theorem kit_bool (t : Th) : kitB (tyN t) "bool" = some (isBoolT t) := by cases t <;> (simp only [tyN, isBoolT]; decide +kernel)
theorem kit_str (t : Th) : kitB (tyN t) "str" = some (isStrT t) := by cases t <;> (simp only [tyN, isStrT]; decide +kernel)
theorem kit_tup (t : Th) : kitB (tyN t) "tuple" = some (isTupT t) := by cases t <;> (simp only [tyN, isTupT]; decide +kernel)
theorem kit_lst (t : Th) : kitB (tyN t) "list" = some (isLstT t) := by cases t <;> (simp only [tyN, isLstT]; decide +kernel)
end
/-! what kind a thing is -/
def lettersS : Str := "abcdefghijklmnopqrstuvwxyz"
def nmd (x : Str) : Bool := decide (1 ≤ x.length) && decide (x.length ≤ 8) && x.cps.toList.all fun c => decide (c ∈ lettersS.cps.toList)
def isWhole : Th → Bool
  | .int _ => true
  | _ => false
def isNamed : Th → Bool
  | .str x => nmd x
  | _ => false
mutual
def isTerm : Th → Bool
  | .int i => decide (0 ≤ i)
  | .tup [] => false
  | .tup (t :: ts) => isNamed t && decide (ts.length ≤ 3) && isTerms ts
  | _ => false
def isTerms : List Th → Bool
  | [] => true
  | t :: ts => isTerm t && isTerms ts
end
mutual
def Th.cnt : Th → Nat
  | .tup ts => Th.cnts ts + 1
  | _ => 1
def Th.cnts : List Th → Nat
  | [] => 0
  | t :: ts => t.cnt + Th.cnts ts
end
theorem isTerms_all : ∀ ts : List Th, isTerms ts = ts.all isTerm
  | [] => by simp [isTerms]
  | t :: ts => by simp [isTerms, isTerms_all ts]
theorem Th.cnts_append : ∀ ts us : List Th, Th.cnts (ts ++ us) = Th.cnts ts + Th.cnts us
  | [], us => by simp [Th.cnts]
  | t :: ts, us => by
    simp only [List.cons_append, Th.cnts, Th.cnts_append ts us]
    omega
mutual
/-- a term as a thing -/
def Tm.th : Tm → Th
  | .var i => .int i
  | .op x ts => .tup (.str x :: Tm.ths ts)
def Tm.ths : List Tm → List Th
  | [] => []
  | t :: ts => t.th :: Tm.ths ts
end
section
variable {K : PySem.W.Frag} {b : Addr} {H : Hp}
mutual
theorem Is.of_im {R : Int → Prop} : ∀ (t : Tm) (v : V), t.ok R → Im K H v t.d → Is K b H v t.th
  | .var i, v, _, h => h.intI
  | .op x ts, v, k, h => by
    obtain ⟨a, xs0, rfl, ha, hxs⟩ := h.tupI
    obtain ⟨x', xs, rfl, hx', hys⟩ := hxs.invD
    exact ⟨a, x' :: xs, rfl, ha, IsAll.cons ⟨hx'.strI, by have := k.1.2.1; omega⟩ (IsAll.of_ims ts xs k.2.2 hys)⟩
theorem IsAll.of_ims {R : Int → Prop} : ∀ (ts : List Tm) (xs : List V), Tm.oks R ts → Ims K H xs (Tm.ds ts) → IsAll K b H xs (Tm.ths ts)
  | [], xs, _, h => h.nilD
  | t :: ts, xs, k, h => by
    obtain ⟨v, vs, rfl, h1, h2⟩ := h.invD
    exact IsAll.cons (Is.of_im t v k.1 h1) (IsAll.of_ims ts vs k.2 h2)
end
end
theorem nmd_nm {x : Str} (h : Nm x) : nmd x = true := by
  unfold nmd
  have h3 : (x.cps.toList.all fun c => decide (c ∈ lettersS.cps.toList)) = true := by
    rw [List.all_eq_true]
    intro c hc
    have := h.2.2 c hc
    have k : ∀ c : Fin 123, 97 ≤ c.val → decide (c.val ∈ lettersS.cps.toList) = true := by decide +kernel
    exact k ⟨c, by omega⟩ this.1
  rw [h3, decide_eq_true h.1, decide_eq_true h.2.1]
  rfl
end Fm
namespace Fm
open PySem PySem.Spec PyProof.Rows L2
local macro_rules | `(tactic| walk_at "nn") => `(tactic| dsimp only [tC, tNil, tCons, tCB, tCall, gName, tSeq, tAsg, tPar, tDrop, tRet])
local macro_rules | `(tactic| walk_at "nc") => `(tactic| dsimp only [tC, tNil, tCons, tCB])
theorem hu65_of {k : Nat} {A : Around} (h : Room k A) : A.units + 65 < cLine := by
  have := h.un
  omega
/-- a test of one thing -/
def sp_kind (K : PySem.W.Frag) (f : Th → Bool) : Sp := fun vs H Q _ => ∃ (v : V) (t : Th) (b : Addr), vs = [v] ∧ Is K b H v t ∧ ∀ H', Mv [] H H' → Q (.bl (f t)) H'
section
variable {P : Program} {w : World} {K : PySem.W.Frag} {mg : Str → Option Value} {base : Heap}
theorem ok_is_integer (T : TX K mg) {k : Nat} : FnOk P w K mg base CX0 (k + 1) T.d_is_integer.f T.d_is_integer.fd P_is_integer (sp_kind K isWhole) := by
  refine T.d_is_integer.F.ok sc_is_integer (fun vs H Q E h => ?_) (fun cdv A outer s H vs Q E hr h => ?_)
  · obtain ⟨_, _, _, rfl, _⟩ := h
    rfl
  · obtain ⟨v, t, b, rfl, hv, q⟩ := h
    refine ⟨_, (pss_one (ps_ret (pe_and (pe_callB (r := rIsi K) call_isi (by rfl) T.b_isinstance bt_isinstance (pa_cons (pv 0) (pa_cons (pe_ty T.b_int bt_int) pa_nil))) (pe_one (pe_not (pe_callB (r := rIsi K) call_isi (by rfl) T.b_isinstance bt_isinstance (pa_cons (pv 0) (pa_cons (pe_ty T.b_bool bt_bool) pa_nil)))))))), ?_⟩
    refine ⟨v, rfl, ?_⟩
    walk_at "nn"
    refine rd_isi hv (kit_int t) ?_
    refine ⟨_, rfl, ?_⟩
    cases t with
    | int j =>
      refine ⟨v, rfl, ?_⟩
      walk_at "nc"
      exact rd_isi hv (kit_bool (.int j)) ⟨_, rfl, q H .refl⟩
    | bl c =>
      refine ⟨v, rfl, ?_⟩
      walk_at "nc"
      exact rd_isi hv (kit_bool (.bl c)) ⟨_, rfl, q H .refl⟩
    | non => exact q H .refl
    | str x => exact q H .refl
    | tup ts => exact q H .refl
    | lst => exact q H .refl
    | dct => exact q H .refl
theorem ok_is_name (T : TX K mg) {k : Nat} : FnOk P w K mg base CX0 (k + 1) T.d_is_name.f T.d_is_name.fd P_is_name (sp_kind K isNamed) := by
  refine T.d_is_name.F.ok sc_is_name (fun vs H Q E h => ?_) (fun cdv A outer s H vs Q E hr h => ?_)
  · obtain ⟨_, _, _, rfl, _⟩ := h
    rfl
  · obtain ⟨v, t, b, rfl, hv, q⟩ := h
    have hu65 := hu65_of hr
    refine ⟨_, (pss_cons (ps_if (PW.pt (pw_or (pt_not (pt_val (pe_callB (r := rIsi K) call_isi (by rfl) T.b_isinstance bt_isinstance (pa_cons (pv 0) (pa_cons (pe_ty T.b_str bt_str) pa_nil))))) (pw_or1 (pt_not (pt_chain op_le op_le pe_int (pe_callB (r := rLenG K) call_lenG (by rfl) T.b_len bt_len (pa_cons (pv 0) pa_nil)) (pe_glob rfl T.c_MOST_LETTERS T.r_MOST_LETTERS)))))) (pss_one (ps_ret pe_bl)) pss_nil) (pss_one (ps_ret (pe_callB (r := rAll K) (cr_all rfl) (by rfl) T.b_all bt_all (pa_cons (pe_lc (own := [("sign", 1)]) (g := gName 1) (by rfl) sc_is_name.nd (pi_str (pv 0)) (blkOk_by (own := [("sign", 1)]) (N := N_is_name) (sc := defScope s_is_name) (by decide +kernel)) (fun _ _ _ _ _ => pg_name (i := 1) sc_is_name.nd rfl (Or.inl rfl)) (fun _ _ _ _ _ => pts_nil) (fun _ _ _ _ _ => (pe_cmpR (r := rInG K) (op_inG hu65) (pv 1) (pe_glob rfl T.c_LETTERS T.r_LETTERS) rfl))) pa_nil))))), ?_⟩
    refine ⟨v, rfl, ?_⟩
    walk_at "nn"
    refine rd_isi hv (kit_str t) ?_
    refine ⟨_, rfl, ?_⟩
    cases t with
    | int j => exact q H .refl
    | bl c => exact q H .refl
    | non => exact q H .refl
    | tup ts => exact q H .refl
    | lst => exact q H .refl
    | dct => exact q H .refl
    | str x =>
      obtain ⟨rfl, hlen⟩ := hv
      refine ⟨.str x, rfl, ?_⟩
      walk_at "nc"
      refine Or.inr (Or.inl ⟨x, rfl, Nat.le_of_lt (small1000 (by omega)), 1, _, rfl, rfl, _, rfl, ite2 (fun e1 => ?_) (fun e1 => ?_)⟩)
      · refine ⟨_, 8, rfl, rfl, _, rfl, ite2 (fun e2 => ?_) (fun e2 => ?_)⟩
        · have e : isNamed (.str x) = false := by
            simp only [isNamed, nmd]
            have : ¬ x.length ≤ 8 := by simp at e2; omega
            rw [decide_eq_false this]
            simp
          rw [e] at q
          exact q H .refl
        · have h1 : 1 ≤ x.length := by simp at e1; omega
          have h2 : x.length ≤ 8 := by simp at e2; omega
          refine ⟨.str x, rfl, x, rfl, fun D nD => ?_⟩
          have hsz : x.cps.toList.length = x.cps.size := by simp
          have hsl : x.cps.size = x.length := rfl
          refine lc_it walk_str (fun i H1 => H1 D = some (.lst (((x.cps.toList.take i).map fun c => decide (c ∈ lettersS.cps.toList)).map V.bl)) ∧ Mv [] H H1) ⟨upd_same, .new nD⟩ (fun _ _ _ _ => trivial) (fun i y H1 H2 hi h1 hy => ?_) (fun H1 h1 => ?_)
          · obtain ⟨e1, m1⟩ := h1
            obtain ⟨rfl, c, hc, rfl⟩ := hy
            have hc' : x.cps.toList[i]? = some c := by simpa using hc
            refine ⟨rfl, .str ⟨#[c]⟩, rfl, Or.inr ⟨c, _, rfl, rfl, _, e1, ?_, ?_, m1.wr nD⟩⟩
            · rw [List.length_map, List.length_map, List.length_take]
              exact small1000 (by omega)
            · rw [upd_same, List.take_add_one, hc']
              simp
              rfl
          · obtain ⟨e1, m1⟩ := h1
            rw [← hsz, List.take_length] at e1
            refine ⟨D, _, rfl, .inl (.inl e1), ?_⟩
            have e : isNamed (.str x) = ((x.cps.toList.map fun c => decide (c ∈ lettersS.cps.toList)).all id) := by
              simp only [isNamed, nmd]
              rw [decide_eq_true h1, decide_eq_true h2, List.all_map]
              rfl
            rw [← e]
            exact q H1 m1
      · have e : isNamed (.str x) = false := by
          simp only [isNamed, nmd]
          have : ¬ 1 ≤ x.length := by simp at e1; omega
          rw [decide_eq_false this]
          simp
        rw [e] at q
        exact ⟨_, rfl, q H .refl⟩
end
end Fm
namespace Fm
open PySem PySem.Spec PyProof.Rows L2
local macro_rules | `(tactic| walk_at "nn") => `(tactic| dsimp only [tC, tNil, tCons, tCB, tCall, gName, tSeq, tAsg, tPar, tDrop, tRet])
local macro_rules | `(tactic| walk_at "nc") => `(tactic| dsimp only [tC, tNil, tCons, tCB])
theorem isTerms_append (ts us : List Th) : isTerms (ts ++ us) = (isTerms ts && isTerms us) := by
  rw [isTerms_all, isTerms_all, isTerms_all, List.all_append]
theorem Th.cnt_pos (t : Th) : 1 ≤ t.cnt := by cases t <;> simp [Th.cnt]
theorem Th.cnts_len : ∀ ts : List Th, ts.length ≤ Th.cnts ts
  | [] => Nat.zero_le _
  | t :: ts => by
    have := Th.cnts_len ts
    have := t.cnt_pos
    simp only [Th.cnts, List.length_cons]
    omega
def sp_isTerm (K : PySem.W.Frag) : Sp := fun vs H Q _ => ∃ (v : V) (t : Th) (b : Addr), vs = [v] ∧ Is K b H v t ∧ t.cnt ≤ 90000 ∧ ∀ H', Mv [] H H' → Q (.bl (isTerm t)) H'
section
variable {P : Program} {w : World} {K : PySem.W.Frag} {mg : Str → Option Value} {base : Heap}
theorem ok_is_term (T : TX K mg) {k : Nat} : FnOk P w K mg base CX0 (k + 2) T.d_is_term.f T.d_is_term.fd P_is_term (sp_isTerm K) := by
  have G_is_integer : FnOk P w K mg base CX0 1 T.d_is_integer.f T.d_is_integer.fd P_is_integer (sp_kind K isWhole) := ok_is_integer T
  have G_is_name : FnOk P w K mg base CX0 1 T.d_is_name.f T.d_is_name.fd P_is_name (sp_kind K isNamed) := ok_is_name T
  refine T.d_is_term.F.ok sc_is_term (fun vs H Q E h => ?_) (fun cdv A outer s H vs Q E hr h => ?_)
  · obtain ⟨_, _, _, rfl, _⟩ := h
    rfl
  · obtain ⟨v, t, b, rfl, hv, hcn, q⟩ := h
    have hu65 := hu65_of hr
    refine ⟨_, (pss_cons (ps_set (i := 1) sc_is_term.nd rfl (Or.inl rfl) (pe_lst (pa_cons (pv 0) pa_nil))) (pss_cons (ps_while PassesOwn.never (pt_cmpR (r := rNeNil K) (op_neNil (Nat.lt_of_le_of_lt (Nat.le_add_right _ 65) hu65)) (pv 1) (pe_lst pa_nil) (nomark _)) (pss_cons (ps_set (i := 2) sc_is_term.nd rfl (Or.inl rfl) (pe_bm0 PySem.F.plainAttrs_list PySem.F.slot_list_pop PySem.F.type_list_pop mt_pop (pv 1))) (pss_one (ps_if (pt_val (pe_call G_is_integer (hr.mono (by omega)) rfl T.d_is_integer.g T.d_is_integer.F.kp T.d_is_integer.b .nil pass0 (pa_cons (pv 2) pa_nil))) (pss_one (ps_if (pt_cmpR op_lt (pv 2) pe_int (nomark _)) (pss_one (ps_ret pe_bl)) pss_nil)) (pss_one (ps_if (PW.pt (pw_or (pt_not (pt_val (pe_callB (r := rIsi K) call_isi (by rfl) T.b_isinstance bt_isinstance (pa_cons (pv 2) (pa_cons (pe_ty T.b_tuple bt_tuple) pa_nil))))) (pw_or (pt_not (pt_chain op_le op_le pe_int (pe_callB (r := rLenG K) call_lenG (by rfl) T.b_len bt_len (pa_cons (pv 2) pa_nil)) (pe_op (r := rAddG K) op_addG pe_int (pe_glob rfl T.c_MOST_PARTS T.r_MOST_PARTS)))) (pw_or1 (pt_not (pt_val (pe_call G_is_name (hr.mono (by omega)) rfl T.d_is_name.g T.d_is_name.F.kp T.d_is_name.b .nil pass0 (pa_cons (pe_ix (r := rIx K) ix_seq (pv 2) pe_int (fun _ _ => rfl)) pa_nil)))))))) (pss_one (ps_ret pe_bl)) (pss_one (ps_expr (pe_bm PySem.F.plainAttrs_list PySem.F.slot_list_extend PySem.F.type_list_extend (r := rExtG K) mt_extendG (pv 1) (pa_cons (pe_slice (r := rSlG K) sl_G (pv 2) (po_some pe_int) po_none) pa_nil)))))))))) (pss_one (ps_ret pe_bl)))), ?_⟩
    refine ⟨v, rfl, (by decide : 1 ≤ sizeLine), fun l nl => ?_⟩
    refine ⟨fun m σ H2 => ∃ (ys : List V) (us : List Th) (y : Option V), σ = [some v, some (.ref l), y] ∧ H2 l = some (.lst ys) ∧ IsAll K b H ys us ∧ isTerms us = isTerm t ∧ Th.cnts us ≤ 90000 ∧ m = Th.cnts us ∧ Mv [] H H2,
      ⟨_, [v], [t], none, rfl, upd_same, IsAll.cons hv IsAll.nil, by simp [isTerms], by simp only [Th.cnts]; omega, rfl, .new nl⟩, fun m σ H2 hW => ?_⟩
    obtain ⟨ys, us, y, rfl, e2, i2, s2, b2, rfl, m2⟩ := hW
    refine ⟨.ref l, rfl, Nat.zero_le _, fun q1 n1 => ⟨l, q1, ys, rfl, rfl, .inl (.inl (same_new n1 _ _ e2)), .inl (.inl upd_same), ?_⟩⟩
    have m23 : Mv [] H (upd H2 q1 (.lst [])) := m2.trans (.new n1)
    have e3 : upd H2 q1 (.lst []) l = some (.lst ys) := same_new n1 _ _ e2
    generalize upd H2 q1 (.lst []) = H3 at m23 e3 ⊢
    refine ⟨_, rfl, ?_⟩
    rcases List.eq_nil_or_concat us with rfl | ⟨us', u, rfl⟩
    · have hy : ys = [] := i2
      subst hy
      rw [show isTerms ([] : List Th) = true from by simp [isTerms]] at s2
      rw [← s2] at q
      exact q H3 m23
    · rw [List.concat_eq_append] at *
      obtain ⟨ys', z, rfl, i4, hz⟩ := IsAll.last rfl i2
      rw [show (!(ys' ++ [z]).isEmpty) = true by simp]
      refine ⟨fun σ' H' => ∃ m', m' < Th.cnts (us' ++ [u]) ∧ _, fun _ _ h => h, ?_⟩
      -- one = waiting.pop()
      refine ⟨.ref l, rfl, .inl ⟨rfl, _, .inl (.inl e3)⟩, l, _, z, rfl, rfl, e3, by simp, ?_⟩
      have m25 : Mv [] H (upd H3 l (.lst (ys' ++ [z]).dropLast)) := m23.wr nl
      have e5 : upd H3 l (.lst (ys' ++ [z]).dropLast) l = some (.lst ys') := by rw [upd_same, List.dropLast_concat]
      generalize upd H3 l (.lst (ys' ++ [z]).dropLast) = H5 at m25 e5 ⊢
      rw [Th.cnts_append] at b2 ⊢
      rw [isTerms_append] at s2
      have e1u : isTerms [u] = isTerm u := by simp [isTerms]
      have c1u : Th.cnts [u] = u.cnt := by simp [Th.cnts]
      rw [e1u] at s2
      rw [c1u] at b2 ⊢
      have hpos := u.cnt_pos
      have hbad : isTerm u = false → isTerm t = false := fun e => by rw [← s2, e, Bool.and_false]
      -- is_integer(one)
      refine ⟨z, rfl, z, u, b, rfl, hz.mv0 m25, fun H6 m6 => ?_⟩
      have m26 := m25.trans m6
      have e6 := m6.same _ _ e5
      refine ⟨_, rfl, ?_⟩
      have bad : isTupT u = false → isWhole u = false → isTerm u = false := fun h1 h2 => by
        cases u <;> simp [isTupT, isWhole, isTerm] at *
      cases u with
      | int i =>
        cases (show z = V.int i from hz)
        refine ⟨.int i, rfl, i, 0, rfl, rfl, _, rfl, ite2 (fun e => ?_) (fun e => ?_)⟩
        · have h0 : ¬ 0 ≤ i := by simp at e; omega
          have e9 := hbad (by simp only [isTerm]; exact decide_eq_false h0)
          rw [e9] at q
          exact q H6 m26
        · have h0 : 0 ≤ i := by simp at e; omega
          refine ⟨Th.cnts us', by omega, ys', us', _, rfl, e6, i4, ?_, by omega, rfl, m26⟩
          rw [← s2]
          simp only [isTerm]
          rw [decide_eq_true h0, Bool.and_true]
      | tup ts =>
        obtain ⟨a1, zs0, rfl, ha1, hzs0⟩ := hz
        have hl0 := hzs0.length
        have ha6 := m26.sqT ha1
        refine ⟨.ref a1, rfl, ?_⟩
        walk_at "nn"
        refine rd_isi (show Is K b H6 (.ref a1) (.tup ts) from ⟨a1, zs0, rfl, ha6, hzs0.mv0 m26⟩) (kit_tup (.tup ts)) ⟨_, rfl, ?_⟩
        refine ⟨.ref a1, rfl, ?_⟩
        walk_at "nc"
        refine rd_len (.inr ha6) ⟨1, _, rfl, rfl, _, rfl, ite2 (fun e => ?_) (fun e => ?_)⟩
        · have h1 : 1 ≤ zs0.length := by simp at e; omega
          refine Or.inl ⟨1, 3, rfl, rfl, _, _, rfl, rfl, _, rfl, ite2 (fun e1 => ?_) (fun e1 => ?_)⟩
          · have h2 : ¬ zs0.length ≤ 4 := by simp at e1; omega
            have e9 := hbad (by
              cases ts with
              | nil => simp [isTerm]
              | cons t0 tr =>
                simp only [List.length_cons] at hl0
                simp only [isTerm]
                rw [decide_eq_false (show ¬ tr.length ≤ 3 by omega)]
                simp)
            rw [e9] at q
            exact q H6 m26
          · have h2 : zs0.length ≤ 4 := by simp at e1; omega
            cases ts with
            | nil =>
              simp only [List.length_nil] at hl0
              omega
            | cons t0 tr =>
              obtain ⟨z0, zs, rfl, hz0, hzs⟩ := hzs0
              simp only [List.length_cons] at hl0 h2
              refine ⟨.ref a1, rfl, rd_ixT ha6 (by decide) (v := z0) rfl ?_⟩
              refine ⟨z0, t0, b, rfl, hz0.mv0 m26, fun H7 m7 => ⟨_, rfl, ite2 (fun e2 => ?_) (fun e2 => ?_)⟩⟩
              · have e9 := hbad (by
                  simp only [isTerm]
                  rw [show isNamed t0 = false by simpa using e2]
                  simp)
                rw [e9] at q
                exact q H7 (m26.trans m7)
              · have m27 := m26.trans m7
                have e7 := m7.same _ _ e6
                refine ⟨.ref l, rfl, .inl ⟨rfl, _, .inl (.inl e7)⟩, .ref a1, rfl, 1, rfl, rd_sl1 (m27.sqT ha1) fun p8 H8 m8 e8 => ?_⟩
                have hl4 := i4.length
                have hc4 := Th.cnts_len us'
                simp only [Th.cnt, Th.cnts] at b2 ⊢
                have hpos0 := t0.cnt_pos
                have hczs := Th.cnts_len tr
                refine Or.inr ⟨l, p8, ys', zs, rfl, rfl, m8.same _ _ e7, e8, Nat.le_trans (show ys'.length + zs.length ≤ 100000 by omega) (by decide), ?_⟩
                refine ⟨Th.cnts (us' ++ tr), by rw [Th.cnts_append]; omega, ys' ++ zs, us' ++ tr, _, rfl, upd_same, i4.append hzs, ?_, by rw [Th.cnts_append]; omega, rfl, (m27.trans m8).wr nl⟩
                rw [← s2, isTerms_append]
                simp only [isTerm]
                rw [show isNamed t0 = true by simpa using e2, decide_eq_true (show tr.length ≤ 3 by omega)]
                rfl
        · have h1 : ¬ 1 ≤ zs0.length := by simp at e; omega
          have e9 := hbad (by
            cases ts with
            | nil => simp [isTerm]
            | cons t0 tr =>
              simp only [List.length_cons] at hl0
              omega)
          rw [e9] at q
          exact ⟨_, rfl, q H6 m26⟩
      | non =>
        refine ⟨z, rfl, ?_⟩
        walk_at "nn"
        refine rd_isi (hz.mv0 m26) (kit_tup .non) ⟨_, rfl, ?_⟩
        have e9 := hbad (by simp [isTerm])
        rw [e9] at q
        exact q H6 m26
      | bl c =>
        refine ⟨z, rfl, ?_⟩
        walk_at "nn"
        refine rd_isi (hz.mv0 m26) (kit_tup (.bl c)) ⟨_, rfl, ?_⟩
        have e9 := hbad (by simp [isTerm])
        rw [e9] at q
        exact q H6 m26
      | str x =>
        refine ⟨z, rfl, ?_⟩
        walk_at "nn"
        refine rd_isi (hz.mv0 m26) (kit_tup (.str x)) ⟨_, rfl, ?_⟩
        have e9 := hbad (by simp [isTerm])
        rw [e9] at q
        exact q H6 m26
      | lst =>
        refine ⟨z, rfl, ?_⟩
        walk_at "nn"
        refine rd_isi (hz.mv0 m26) (kit_tup .lst) ⟨_, rfl, ?_⟩
        have e9 := hbad (by simp [isTerm])
        rw [e9] at q
        exact q H6 m26
      | dct =>
        refine ⟨z, rfl, ?_⟩
        walk_at "nn"
        refine rd_isi (hz.mv0 m26) (kit_tup .dct) ⟨_, rfl, ?_⟩
        have e9 := hbad (by simp [isTerm])
        rw [e9] at q
        exact q H6 m26
end
end Fm
namespace Fm
open PySem PySem.Spec PyProof.Rows L2
local macro_rules | `(tactic| walk_at "nn") => `(tactic| dsimp only [tC, tNil, tCons, tCB, tCall, gName, tSeq, tAsg, tPar, tDrop, tRet])
local macro_rules | `(tactic| walk_at "nc") => `(tactic| dsimp only [tC, tNil, tCons, tCB])
def initS (x : Str) : Str := ⟨(x.cps.toList.take (x.length - 1)).toArray⟩
def dashed (x : Str) : Bool := decide (x.cps.toList.drop (x.length - 1) = [45])
def isOutc : Th → Bool
  | .str x => if dashed x = true then nmd (initS x) else nmd x
  | _ => false
theorem toList_len (x : Str) : x.cps.toList.length = x.length := by simp; rfl
theorem sIx_m1 (n d : Nat) : HT.sIx n d (some (-1)) = n - 1 := by
  show (if (-1 : Int) < 0 then ((-1 : Int) + (n : Int)).toNat else min (-1 : Int).toNat n) = n - 1
  rw [if_pos (by decide)]
  omega
theorem cut_last (x : Str) : cutS x (some (-1)) none = ⟨(x.cps.toList.drop (x.length - 1)).toArray⟩ := by
  unfold cutS
  rw [sIx_m1, HT.sIx_none, List.take_of_length_le]
  rw [List.length_drop, toList_len]
  omega
theorem cut_init (x : Str) : cutS x none (some (-1)) = initS x := by
  unfold cutS initS
  rw [sIx_m1, HT.sIx_none, List.drop_zero, Nat.sub_zero]
theorem dash_eq (x : Str) : decide (V.str (cutS x (some (-1)) none) = V.str "-") = dashed x := by
  rw [cut_last]
  unfold dashed
  rw [Bool.eq_iff_iff, decide_eq_true_iff, decide_eq_true_iff]
  constructor
  · intro h
    injection h with h
    have h2 := congrArg (fun s : Str => s.cps.toList) h
    have e45 : (Str.ofString "-").cps.toList = [45] := by decide +kernel
    rw [← e45]
    simpa using h2
  · intro h
    rw [h]
    rfl
theorem initS_len (x : Str) : (initS x).length = x.length - 1 := by
  show (x.cps.toList.take (x.length - 1)).toArray.size = _
  rw [List.size_toArray, List.length_take, toList_len]
  omega
def sp_vals (K : PySem.W.Frag) : Sp := fun vs H Q _ => ∃ (n : Int) (v : V) (t : Th) (b : Addr), vs = [.int n, v] ∧ Is K b H v t ∧ t.cnt ≤ 90000 ∧ ∀ H', Mv [] H H' → Q (.bl (match t with | .tup ts => decide ((ts.length : Int) = n) && isTerms ts | _ => false)) H'
section
variable {P : Program} {w : World} {K : PySem.W.Frag} {mg : Str → Option Value} {base : Heap}
end
end Fm
namespace Fm
open PySem PySem.Spec PyProof.Rows L2
local macro_rules | `(tactic| walk_at "nn") => `(tactic| dsimp only [tC, tNil, tCons, tCB, tCall, gName, tSeq, tAsg, tPar, tDrop, tRet])
local macro_rules | `(tactic| walk_at "nc") => `(tactic| dsimp only [tC, tNil, tCons, tCB, tCall])
/-! terms over some variables -/
mutual
def under (many : Int) : Th → Bool
  | .int i => decide (i < many)
  | .tup (_ :: ts) => unders many ts
  | _ => true
def unders (many : Int) : List Th → Bool
  | [] => true
  | t :: ts => under many t && unders many ts
end
theorem unders_append (many : Int) (ts us : List Th) : unders many (ts ++ us) = (unders many ts && unders many us) := by
  induction ts with
  | nil => simp [unders]
  | cons t ts ih => simp [unders, ih, Bool.and_assoc]
def sp_termOver (K : PySem.W.Frag) : Sp := fun vs H Q _ => ∃ (many : Int) (v : V) (t : Th) (b : Addr), vs = [.int many, v] ∧ Is K b H v t ∧ t.cnt ≤ 90000 ∧ ∀ H', Mv [] H H' → Q (.bl (isTerm t && under many t)) H'
section
variable {P : Program} {w : World} {K : PySem.W.Frag} {mg : Str → Option Value} {base : Heap}
theorem ok_is_term_over (T : TX K mg) {k : Nat} : FnOk P w K mg base CX0 (k + 3) T.d_is_term_over.f T.d_is_term_over.fd P_is_term_over (sp_termOver K) := by
  have G_is_term : FnOk P w K mg base CX0 2 T.d_is_term.f T.d_is_term.fd P_is_term (sp_isTerm K) := ok_is_term T
  refine T.d_is_term_over.F.ok sc_is_term_over (fun vs H Q E h => ?_) (fun cdv A outer s H vs Q E hr h => ?_)
  · obtain ⟨_, _, _, _, rfl, _⟩ := h
    rfl
  · obtain ⟨many, v, t, b, rfl, hv, hcn, q⟩ := h
    have hu65 := hu65_of hr
    refine ⟨_, (pss_cons (ps_if (pt_not (pt_val (pe_call G_is_term (hr.mono (by omega)) rfl T.d_is_term.g T.d_is_term.F.kp T.d_is_term.b .nil pass0 (pa_cons (pv 1) pa_nil)))) (pss_one (ps_ret pe_bl)) pss_nil) (pss_cons (ps_set (i := 2) sc_is_term_over.nd rfl (Or.inl rfl) (pe_lst (pa_cons (pv 1) pa_nil))) (pss_cons (ps_while PassesOwn.never (pt_cmpR (r := rNeNil K) (op_neNil (Nat.lt_of_le_of_lt (Nat.le_add_right _ 65) hu65)) (pv 2) (pe_lst pa_nil) (nomark _)) (pss_cons (ps_set (i := 3) sc_is_term_over.nd rfl (Or.inl rfl) (pe_bm0 PySem.F.plainAttrs_list PySem.F.slot_list_pop PySem.F.type_list_pop mt_pop (pv 2))) (pss_one (ps_if (pt_not (pt_val (pe_callB (r := rIsi K) call_isi (by rfl) T.b_isinstance bt_isinstance (pa_cons (pv 3) (pa_cons (pe_ty T.b_int bt_int) pa_nil))))) (pss_one (ps_expr (pe_bm PySem.F.plainAttrs_list PySem.F.slot_list_extend PySem.F.type_list_extend (r := rExtG K) mt_extendG (pv 2) (pa_cons (pe_slice (r := rSlG K) sl_G (pv 3) (po_some pe_int) po_none) pa_nil)))) (pss_one (ps_if (pt_cmpR op_ge (pv 3) (pv 0) (nomark _)) (pss_one (ps_ret pe_bl)) pss_nil)))))) (pss_one (ps_ret pe_bl))))), ?_⟩
    refine ⟨v, rfl, v, t, b, rfl, hv, hcn, fun H1 m1 => ⟨_, rfl, ite2 (fun e1 => ?_) (fun e1 => ?_)⟩⟩
    · have e9 : isTerm t = false := by simpa using e1
      rw [e9] at q
      exact q H1 m1
    have e9 : isTerm t = true := by simpa using e1
    rw [e9] at q
    refine ⟨v, rfl, (by decide : 1 ≤ sizeLine), fun l nl => ?_⟩
    have nl0 := m1.free nl
    refine ⟨fun m σ H2 => ∃ (ys : List V) (us : List Th) (y : Option V), σ = [some (.int many), some v, some (.ref l), y] ∧ H2 l = some (.lst ys) ∧ IsAll K b H ys us ∧ isTerms us = true ∧ unders many us = under many t ∧ Th.cnts us ≤ 90000 ∧ m = Th.cnts us ∧ Mv [] H H2,
      ⟨_, [v], [t], none, rfl, upd_same, IsAll.cons hv IsAll.nil, by simp [isTerms, e9], by simp [unders], by simp only [Th.cnts]; omega, rfl, m1.trans (.new nl)⟩, fun m σ H2 hW => ?_⟩
    obtain ⟨ys, us, y, rfl, e2, i2, s2, t2, b2, rfl, m2⟩ := hW
    refine ⟨.ref l, rfl, Nat.zero_le _, fun q1 n1 => ⟨l, q1, ys, rfl, rfl, .inl (.inl (same_new n1 _ _ e2)), .inl (.inl upd_same), ?_⟩⟩
    have m23 : Mv [] H (upd H2 q1 (.lst [])) := m2.trans (.new n1)
    have e3 : upd H2 q1 (.lst []) l = some (.lst ys) := same_new n1 _ _ e2
    generalize upd H2 q1 (.lst []) = H3 at m23 e3 ⊢
    refine ⟨_, rfl, ?_⟩
    rcases List.eq_nil_or_concat us with rfl | ⟨us', u, rfl⟩
    · have hy : ys = [] := i2
      subst hy
      rw [show unders many ([] : List Th) = true from by simp [unders]] at t2
      rw [← t2] at q
      exact q H3 m23
    · rw [List.concat_eq_append] at *
      obtain ⟨ys', z, rfl, i4, hz⟩ := IsAll.last rfl i2
      rw [show (!(ys' ++ [z]).isEmpty) = true by simp]
      refine ⟨fun σ' H' => ∃ m', m' < Th.cnts (us' ++ [u]) ∧ _, fun _ _ h => h, ?_⟩
      refine ⟨.ref l, rfl, .inl ⟨rfl, _, .inl (.inl e3)⟩, l, _, z, rfl, rfl, e3, by simp, ?_⟩
      have m25 : Mv [] H (upd H3 l (.lst (ys' ++ [z]).dropLast)) := m23.wr nl0
      have e5 : upd H3 l (.lst (ys' ++ [z]).dropLast) l = some (.lst ys') := by rw [upd_same, List.dropLast_concat]
      generalize upd H3 l (.lst (ys' ++ [z]).dropLast) = H5 at m25 e5 ⊢
      rw [Th.cnts_append] at b2 ⊢
      rw [isTerms_append, Bool.and_eq_true] at s2
      rw [unders_append] at t2
      have e1u : isTerms [u] = isTerm u := by simp [isTerms]
      have c1u : Th.cnts [u] = u.cnt := by simp [Th.cnts]
      rw [e1u] at s2
      rw [show unders many [u] = under many u by simp [unders]] at t2
      rw [c1u] at b2 ⊢
      have hpos := u.cnt_pos
      refine ⟨z, rfl, ?_⟩
      walk_at "nn"
      refine rd_isi (hz.mv0 m25) (kit_int u) ⟨_, rfl, ?_⟩
      cases u with
      | int i =>
        cases (show z = V.int i from hz)
        refine ⟨.int i, rfl, .int many, rfl, i, many, rfl, rfl, _, rfl, ite2 (fun e => ?_) (fun e => ?_)⟩
        · have h0 : ¬ i < many := by simp at e; omega
          rw [show under many t = false by rw [← t2]; simp only [under]; rw [decide_eq_false h0, Bool.and_false]] at q
          exact q H5 m25
        · have h0 : i < many := by simp at e; omega
          refine ⟨Th.cnts us', by omega, ys', us', _, rfl, e5, i4, s2.1, ?_, by omega, rfl, m25⟩
          rw [← t2]
          simp only [under]
          rw [decide_eq_true h0, Bool.and_true]
      | tup ts =>
        obtain ⟨a1, zs0, rfl, ha1, hzs0⟩ := hz
        cases ts with
        | nil => simp [isTerm] at s2
        | cons t0 tr =>
          obtain ⟨z0, zs, rfl, hz0, hzs⟩ := hzs0
          have s3 : isTerms tr = true ∧ tr.length ≤ 3 := by
            have := s2.2
            simp only [isTerm, Bool.and_eq_true, decide_eq_true_eq] at this
            exact ⟨this.2, this.1.2⟩
          have hlz := hzs.length
          refine ⟨.ref l, rfl, .inl ⟨rfl, _, .inl (.inl e5)⟩, .ref a1, rfl, 1, rfl, rd_sl1 (m25.sqT ha1) fun p8 H8 m8 e8 => ?_⟩
          have hl4 := i4.length
          have hc4 := Th.cnts_len us'
          simp only [Th.cnt, Th.cnts] at b2 ⊢
          have hpos0 := t0.cnt_pos
          have hczs := Th.cnts_len tr
          refine Or.inr ⟨l, p8, ys', zs, rfl, rfl, m8.same _ _ e5, e8, Nat.le_trans (show ys'.length + zs.length ≤ 100000 by omega) (by decide), ?_⟩
          refine ⟨Th.cnts (us' ++ tr), by rw [Th.cnts_append]; omega, ys' ++ zs, us' ++ tr, _, rfl, upd_same, i4.append hzs, ?_, ?_, by rw [Th.cnts_append]; omega, rfl, (m25.trans m8).wr nl0⟩
          · rw [isTerms_append, s2.1, s3.1]
            rfl
          · rw [← t2, unders_append]
            simp only [under]
      | non => simp [isTerm] at s2
      | bl c => simp [isTerm] at s2
      | str x => simp [isTerm] at s2
      | lst => simp [isTerm] at s2
      | dct => simp [isTerm] at s2
end
mutual
theorem isTerm_th {R : Int → Prop} (hR : ∀ i, R i → 0 ≤ i) : ∀ t : Tm, t.ok R → isTerm t.th = true
  | .var i, h => by simpa [Tm.th, isTerm] using hR i h
  | .op x ts, h => by
    simp only [Tm.th, isTerm, isNamed, nmd_nm h.1, isTerms_ths hR ts h.2.2, Bool.true_and, Bool.and_true, ths_len, decide_eq_true_eq]
    exact h.2.1
theorem isTerms_ths {R : Int → Prop} (hR : ∀ i, R i → 0 ≤ i) : ∀ ts : List Tm, Tm.oks R ts → isTerms (Tm.ths ts) = true
  | [], _ => by simp [Tm.ths, isTerms]
  | t :: ts, h => by simp [Tm.ths, isTerms, isTerm_th hR t h.1, isTerms_ths hR ts h.2]
theorem ths_len : ∀ ts : List Tm, (Tm.ths ts).length = ts.length
  | [] => by simp [Tm.ths]
  | t :: ts => by simp [Tm.ths, ths_len ts]
end
mutual
theorem under_th {R : Int → Prop} {n : Int} (hR : ∀ i, R i → i < n) : ∀ t : Tm, t.ok R → under n t.th = true
  | .var i, h => by simpa [Tm.th, under] using hR i h
  | .op x ts, h => by
    simp only [Tm.th, under]
    exact unders_ths hR ts h.2.2
theorem unders_ths {R : Int → Prop} {n : Int} (hR : ∀ i, R i → i < n) : ∀ ts : List Tm, Tm.oks R ts → unders n (Tm.ths ts) = true
  | [], _ => by simp [Tm.ths, unders]
  | t :: ts, h => by simp [Tm.ths, unders, under_th hR t h.1, unders_ths hR ts h.2]
end
mutual
theorem cnt_th : ∀ t : Tm, t.th.cnt ≤ t.cst + t.lv
  | .var i => by simp [Tm.th, Th.cnt, Tm.lv]
  | .op x ts => by
    have := cnts_ths ts
    simp only [Tm.th, Th.cnt, Th.cnts, Tm.cst, Tm.lv]
    omega
theorem cnts_ths : ∀ ts : List Tm, Th.cnts (Tm.ths ts) ≤ Tm.csts ts + Tm.lvs ts
  | [] => by simp [Tm.ths, Th.cnts]
  | t :: ts => by
    have := cnt_th t
    have := cnts_ths ts
    simp only [Tm.ths, Th.cnts, Tm.csts, Tm.lvs]
    omega
end
end Fm
namespace Fm
open PySem PySem.Spec PyProof.Rows L2 SlX
/-! a built-in's method within a comprehension, d.items() -/
section
variable {X : Cx} {K : PySem.W.Frag} {o e : Expr} {es : List Expr} {to : TE} {t : TA} {apos cpos : Pos} {T id : String} {name f : Str} {r : V → List V → Hp → VK → Prop}
theorem pe_bm0C (hK : X.K = K) (pa : PlainAttrs T) (slot : Slot T name id) (hty : typeOf (.builtin id) = pure (.type "method_descriptor")) (hm : MtR X id r) (ho : PE X o to)
    (hbase : attributeBase o name X.env (eval o X.env) = eval o X.env := by rfl) (hline : (apos.endLine == cpos.line) = true := by rfl) : PE X (.Call (.Attribute o name apos) [] [] cpos) (tBM0 K T r to) := by
  subst hK
  exact pe_bm0 pa slot hty hm ho hbase hline
theorem pe_slC (hK : X.K = K) (he : PE X e to) (hb : attributeBase e f X.env (eval e X.env) = eval e X.env := by rfl) : PE X (.Attribute e f apos) (SlX.tSl K to f) := by
  subst hK
  exact pe_sl he hb
end
/-- a dict comprehension over what is walked -/
theorem dc_it {J : It} {n : Nat} {G : Hp → Prop} {Y : Nat → Hp → V → Hp → Prop} (w : Walk J n G Y) {g : TG} {tt : TT} {tk tv : TE} {vs : List Nat} {σ : L2.St} {H1 : Hp} {D : Addr} {Qd : Hp → Prop} (Pv : Nat → Hp → Prop) (h0 : Pv 0 (upd H1 D (.dK []))) (hG : ∀ i H, i ≤ n → Pv i H → G H)
    (hs : ∀ i x H H', i < n → Pv i H → Y i H x H' → g x (wipe σ vs) H' fun σ2 H2 => wipe σ2 vs = wipe σ vs ∧ tt σ2 H2 fun b H3 =>
      if b = true then tk σ2 H3 fun y H4 => tv σ2 H4 fun z H5 => ∃ kvs k, y = kV k ∧ H5 D = some (.dK kvs) ∧ kvs.length < sizeLine ∧ Pv (i + 1) (upd H5 D (.dK (putK kvs k z))) else Pv (i + 1) H3) (hd : ∀ H, Pv n H → Qd H) :
    ∃ W : Nat → Nat → Hp → Prop, (∃ m, W 0 m (upd H1 D (.dK []))) ∧ ∀ i m H, W i m H →
      (J.stop i H ∧ Qd H) ∨ (J.go i H ∧ ∃ Nx : Hp → Prop, (∀ H', Nx H' → ∃ m', m' < m ∧ W (i + 1) m' H') ∧ ∀ x H', J.yld i H x H' → g x (wipe σ vs) H' fun σ2 H2 => wipe σ2 vs = wipe σ vs ∧ tt σ2 H2 fun b H3 =>
        if b = true then tk σ2 H3 fun y H4 => tv σ2 H4 fun z H5 => ∃ kvs k, y = kV k ∧ H5 D = some (.dK kvs) ∧ kvs.length < sizeLine ∧ Nx (upd H5 D (.dK (putK kvs k z))) else Nx H3) := by
  refine ⟨fun i m H => m = n - i ∧ i ≤ n ∧ Pv i H, ⟨n, by simp, Nat.zero_le _, h0⟩, ?_⟩
  rintro i m H ⟨rfl, hi, p⟩
  have q := hG i H hi p
  by_cases hlt : i < n
  · exact .inr ⟨w.goes i H hlt q, Pv (i + 1), fun H' p' => ⟨n - (i + 1), by omega, rfl, hlt, p'⟩, fun x H' y => hs i x H H' hlt p (w.yields i H x H' hlt q y)⟩
  · have e : i = n := by omega
    subst e
    exact .inl ⟨w.stops H q, hd H p⟩
/-! orders -/
structure TotO {κ : Type} (le : κ → κ → Bool) : Prop where
  tr : ∀ a b c, le a b = true → le b c = true → le a c = true
  to : ∀ a b, (le a b || le b a) = true
  an : ∀ a b, le a b = true → le b a = true → a = b
def leS (x y : Str) : Bool := !decide (y.cps.toList < x.cps.toList)
def leZ (i j : Int) : Bool := decide (i ≤ j)
theorem leS_iff {x y : Str} : leS x y = true ↔ x.cps.toList ≤ y.cps.toList := by
  unfold leS
  rw [Bool.not_eq_true', decide_eq_false_iff_not, List.not_lt]
theorem totS : TotO leS where
  tr a b c h k := leS_iff.mpr (List.le_trans (leS_iff.mp h) (leS_iff.mp k))
  to a b := by
    rcases List.le_total a.cps.toList b.cps.toList with h | h
    · rw [leS_iff.mpr h]; rfl
    · rw [leS_iff.mpr h, Bool.or_true]
  an a b h k := str_ext (List.le_antisymm (leS_iff.mp h) (leS_iff.mp k))
theorem totZ : TotO leZ where
  tr a b c h k := by
    have := of_decide_eq_true h
    have := of_decide_eq_true k
    exact decide_eq_true (by omega)
  to a b := by
    unfold leZ
    rw [← Bool.decide_or]
    exact decide_eq_true (by omega)
  an a b h k := by
    have := of_decide_eq_true h
    have := of_decide_eq_true k
    omega
theorem inj_of_nd {α κ : Type} {k : α → κ} : ∀ {xs : List α}, (xs.map k).Nodup → ∀ {a b}, a ∈ xs → b ∈ xs → k a = k b → a = b
  | [], _, _, _, h, _, _ => absurd h List.not_mem_nil
  | x :: xs, n, a, b, ha, hb, e => by
    rw [List.map_cons, List.nodup_cons] at n
    rcases List.mem_cons.mp ha with h1 | h1
    · rcases List.mem_cons.mp hb with h2 | h2
      · rw [h1, h2]
      · exact absurd (List.mem_map.mpr ⟨b, h2, by rw [← e, h1]⟩) n.1
    · rcases List.mem_cons.mp hb with h2 | h2
      · exact absurd (List.mem_map.mpr ⟨a, h1, by rw [e, h2]⟩) n.1
      · exact inj_of_nd n.2 h1 h2 e
section
variable {α κ : Type} {le : κ → κ → Bool} {k : α → κ}
/-- xs by the key k -/
def srt (le : κ → κ → Bool) (k : α → κ) (xs : List α) : List α := xs.mergeSort fun a b => le (k a) (k b)
theorem srt_perm (xs : List α) : (srt le k xs).Perm xs := List.mergeSort_perm _ _
theorem srt_pw (t : TotO le) (xs : List α) : (srt le k xs).Pairwise fun a b => le (k a) (k b) = true :=
  List.pairwise_mergeSort (le := fun a b => le (k a) (k b)) (fun a b c h h' => t.tr (k a) (k b) (k c) h h') (fun a b => t.to (k a) (k b)) xs
theorem srt_mem {xs : List α} {a : α} : a ∈ srt le k xs ↔ a ∈ xs := (srt_perm xs).mem_iff
theorem srt_len (xs : List α) : (srt le k xs).length = xs.length := (srt_perm xs).length_eq
theorem srt_one (t : TotO le) {xs ys : List α} (n : (xs.map k).Nodup) (p : ys.Perm xs) (s : ys.Pairwise fun a b => le (k a) (k b) = true) : ys = srt le k xs :=
  List.Perm.eq_of_pairwise (le := fun a b => le (k a) (k b) = true) (fun a b ha hb h h' => inj_of_nd n (p.mem_iff.mp ha) (srt_mem.mp hb) (t.an _ _ h h')) s (srt_pw t xs) (p.trans (srt_perm xs).symm)
theorem srt_keys (t : TotO le) {xs : List α} (n : (xs.map k).Nodup) {ys : List κ} (p : ys.Perm (xs.map k)) (s : ys.Pairwise fun a b => le a b = true) : ys = (srt le k xs).map k :=
  List.Perm.eq_of_pairwise (le := fun a b => le a b = true) (fun a b _ _ h h' => t.an _ _ h h') s (List.pairwise_map.mpr (srt_pw t xs)) (p.trans ((srt_perm xs).map k).symm)
theorem srt_nd {xs : List α} (n : (xs.map k).Nodup) : ((srt le k xs).map k).Nodup := ((srt_perm xs).map k).nodup_iff.mpr n
theorem srt_idem (t : TotO le) {xs : List α} (n : (xs.map k).Nodup) : srt le k (srt le k xs) = srt le k xs := (srt_one t (srt_nd n) (.refl _) (srt_pw t xs)).symm
theorem srt_of_perm (t : TotO le) {xs ys : List α} (n : (xs.map k).Nodup) (p : ys.Perm xs) : srt le k ys = srt le k xs := srt_one t n ((srt_perm ys).trans p) (srt_pw t ys)
end
theorem srt_map {α β κ : Type} {le : κ → κ → Bool} {k : α → κ} {l : β → κ} (t : TotO le) {f : α → β} (hk : ∀ a, l (f a) = k a) {xs : List α} (n : (xs.map k).Nodup) : srt le l (xs.map f) = (srt le k xs).map f := by
  have e : (xs.map f).map l = xs.map k := by
    rw [List.map_map]
    exact List.map_congr_left fun a _ => hk a
  refine (srt_one t (by rw [e]; exact n) ((srt_perm xs).map f) ?_).symm
  rw [List.pairwise_map]
  refine (srt_pw t xs).imp fun {a b} h => ?_
  rw [hk, hk]
  exact h
theorem risingS_pw : ∀ (p : Str) (l : List Str), risingS p l = true → (p :: l).Pairwise fun a b => leS a b = true
  | p, [], _ => List.pairwise_singleton _ _
  | p, x :: r, h => by
    have h' : (!ltCps x.cps.toList p.cps.toList) = true ∧ risingS x r = true := by simpa [risingS] using h
    have h1 : leS p x = true := by
      have := h'.1
      rw [ltCps_eq] at this
      exact this
    have ih := risingS_pw x r h'.2
    refine .cons (fun c hc => ?_) ih
    rcases List.mem_cons.mp hc with rfl | hc
    · exact h1
    · exact totS.tr _ _ _ h1 ((List.pairwise_cons.mp ih).1 c hc)
theorem sortedS_pw : ∀ (l : List Str), sortedS l = true → l.Pairwise fun a b => leS a b = true
  | [], _ => .nil
  | x :: r, h => risingS_pw x r h
theorem nd_key {α β : Type} {f : α → β} : ∀ {xs : List α} {x y : α}, (xs.map f).Nodup → x ∈ xs → y ∈ xs → f x = f y → x = y
  | z :: xs, x, y, n, hx, hy, e => by
    rw [List.map_cons, List.nodup_cons] at n
    rcases List.mem_cons.mp hx with ex | mx
    · rcases List.mem_cons.mp hy with ey | my
      · rw [ex, ey]
      · exact absurd (List.mem_map.mpr ⟨y, my, by rw [← e, ex]⟩) n.1
    · rcases List.mem_cons.mp hy with ey | my
      · exact absurd (List.mem_map.mpr ⟨x, mx, by rw [e, ey]⟩) n.1
      · exact nd_key n.2 mx my e
/-! dicts -/
section
variable {κ : Type} [DecidableEq κ]
theorem valV_mem {kvs : List (κ × V)} {k : κ} {v : V} (n : (kvs.map (·.1)).Nodup) (h : (k, v) ∈ kvs) : valV kvs k = some v := by
  induction kvs with
  | nil => exact absurd h List.not_mem_nil
  | cons p r ih =>
    rw [List.map_cons, List.nodup_cons] at n
    rcases List.mem_cons.mp h with rfl | h
    · exact valV_pos rfl
    · rw [valV_neg (fun e => n.1 (by rw [e]; exact List.mem_map.mpr ⟨_, h, rfl⟩))]
      exact ih n.2 h
theorem valV_none {kvs : List (κ × V)} {k : κ} (h : k ∉ kvs.map (·.1)) : valV kvs k = none := by
  induction kvs with
  | nil => rfl
  | cons p r ih =>
    rw [List.map_cons, List.mem_cons, not_or] at h
    rw [valV_neg (fun e => h.1 e.symm)]
    exact ih h.2
theorem putK_new {kvs : List (κ × V)} {k : κ} {v : V} (h : k ∉ kvs.map (·.1)) : putK kvs k v = kvs ++ [(k, v)] := by
  unfold putK
  rw [valV_any, valV_none h]
  rfl
theorem putK_keys {kvs : List (κ × V)} {k : κ} {v : V} : (putK kvs k v).map (·.1) = if k ∈ kvs.map (·.1) then kvs.map (·.1) else kvs.map (·.1) ++ [k] := by
  by_cases h : k ∈ kvs.map (·.1)
  · rw [if_pos h]
    unfold putK
    have : (kvs.any fun kv => decide (kv.1 = k)) = true := by
      obtain ⟨p, hp, e⟩ := List.mem_map.mp h
      exact List.any_eq_true.mpr ⟨p, hp, by simpa using e⟩
    rw [if_pos this, List.map_map]
    refine List.map_congr_left fun p _ => ?_
    simp only [Function.comp]
    split <;> rfl
  · rw [if_neg h, putK_new h]
    simp
theorem nd_snoc {α : Type} {xs : List α} {x : α} (n : xs.Nodup) (h : x ∉ xs) : (xs ++ [x]).Nodup := by
  rw [List.nodup_append]
  refine ⟨n, by simp, fun a ha b hb => ?_⟩
  rw [List.mem_singleton] at hb
  subst hb
  exact fun e => h (by rw [← e]; exact ha)
theorem putK_nd {kvs : List (κ × V)} {k : κ} {v : V} (n : (kvs.map (·.1)).Nodup) : ((putK kvs k v).map (·.1)).Nodup := by
  rw [putK_keys]
  split
  · exact n
  · exact nd_snoc n ‹_›
theorem putK_mem {kvs : List (κ × V)} {k : κ} {v : V} {p : κ × V} (h : p ∈ putK kvs k v) : p ∈ kvs ∨ p = (k, v) := by
  unfold putK at h
  split at h
  · obtain ⟨q, hq, rfl⟩ := List.mem_map.mp h
    split
    · rename_i e
      exact .inr (by rw [e])
    · exact .inl hq
  · rcases List.mem_append.mp h with h | h
    · exact .inl h
    · exact .inr (List.mem_singleton.mp h)
theorem putK_len {kvs : List (κ × V)} {k : κ} {v : V} : kvs.length ≤ (putK kvs k v).length ∧ (putK kvs k v).length ≤ kvs.length + 1 ∧ 1 ≤ (putK kvs k v).length := by
  have e : (putK kvs k v).length = ((putK kvs k v).map (·.1)).length := by simp
  have h := putK_keys (kvs := kvs) (k := k) (v := v)
  rw [e, h]
  split
  · rename_i hk
    have : 0 < (kvs.map (·.1)).length := List.length_pos_of_mem hk
    rw [List.length_map] at this ⊢
    omega
  · simp
end
theorem mergeK_nd : ∀ (more kvs : List (L2.Key × V)), ((kvs ++ more).map (·.1)).Nodup → mergeK kvs more = kvs ++ more
  | [], kvs, _ => by simp [mergeK]
  | p :: r, kvs, n => by
    have h : p.1 ∉ kvs.map (·.1) := by
      rw [List.map_append, List.nodup_append] at n
      intro h
      exact n.2.2 _ h p.1 (by simp) rfl
    show mergeK (putK kvs p.1 p.2) r = _
    rw [putK_new h, mergeK_nd r (kvs ++ [(p.1, p.2)]) (by simpa using n)]
    simp
/-! lists of texts -/
section
variable {K : PySem.W.Frag} {H : Hp}
theorem dp_strs : ∀ o : List Str, DpAll K H (o.map V.str) (o.map PyData.str)
  | [] => .nil
  | x :: o => .cons (.str x) (dp_strs o)
theorem strs_shaped {o : List Str} (h : ∀ s ∈ o, PyData.strOk s = true) : SeqAt.shaped (.list (o.map PyData.str)) = true := by
  have h1 : ∀ o : List Str, (∀ s ∈ o, PyData.strOk s = true) → PyData.canLayAll0 (o.map PyData.str) = true := fun o => by
    induction o with
    | nil => intro _; rfl
    | cons x o ih =>
      intro h
      simp [PyData.canLayAll0, PyData.canLay0, ih fun s hs => h s (by simp [hs]), h x (by simp)]
  have h2 : ∀ o : List Str, PyData.depthAll (o.map PyData.str) = 0 := fun o => by
    induction o with
    | nil => rfl
    | cons x o ih => simp [PyData.depthAll, PyData.depth, ih]
  show (PyData.canLay0 (.list (o.map PyData.str)) && decide (PyData.depth (.list (o.map PyData.str)) ≤ 64)) = true
  simp only [PyData.canLay0, PyData.depth, h1 o h, h2]
  rfl
theorem shaped_lay {d : PyData} (h : SeqAt.shaped d = true) : d.canLay0 = true := by
  have h' : (d.canLay0 && decide (d.depth ≤ 64)) = true := h
  rw [Bool.and_eq_true] at h'
  exact h'.1
/-- list of texts == list of texts, the same -/
theorem rd_eqS {a b : Addr} {xs : List Str} {Q : VK} (ha : H a = some (.lst (xs.map V.str))) (hb : H b = some (.lst (xs.map V.str))) (hx : ∀ s ∈ xs, PyData.strOk s = true) (q : Q (.bl true) H) : rEqG K (.ref a) (.ref b) H Q := by
  refine Or.inr ⟨_, _, .lst (.inl (.inl ha)) (dp_strs xs), .lst (.inl (.inl hb)) (dp_strs xs), strs_shaped hx, strs_shaped hx, ?_⟩
  rw [SeqAt.eqv_refl _ (shaped_lay (strs_shaped hx))]
  exact q
theorem inV_strs (x : Str) : ∀ xs : List Str, inV (.str x) (xs.map V.str) = decide (x ∈ xs)
  | [] => rfl
  | y :: ys => by
    have ih := inV_strs x ys
    unfold inV at ih ⊢
    rw [List.map_cons, List.any_cons, ih]
    simp only [eqV, List.mem_cons, Bool.decide_or]
    congr 1
    rw [Bool.eq_iff_iff, beq_iff_eq, decide_eq_true_iff]
    exact eq_comm
theorem flat_strs (xs : List Str) : (xs.map V.str).all flatV = true := by
  rw [List.all_map, List.all_eq_true]
  intro _ _
  rfl
/-- x not in a list of texts -/
theorem rd_notS {a : Addr} {xs : List Str} {x : Str} {Q : VK} (ha : H a = some (.lst (xs.map V.str))) (q : Q (.bl (!decide (x ∈ xs))) H) : rIn K true (.str x) (.ref a) H Q := by
  refine ⟨a, _, rfl, .inl (.inl (.inl ha)), rfl, flat_strs xs, ?_⟩
  rw [inV_strs]
  exact q
end
/-! d != {}, d == {} -/
section
variable {X : Cx}
def rNeE : R2 := fun x y H Q => ∃ (a b : Addr) (kvs : List (L2.Key × V)), x = .ref a ∧ y = .ref b ∧ H a = some (.dK kvs) ∧ H b = some (.dK []) ∧ Q (.bl (!kvs.isEmpty)) H
def rEqE : R2 := fun x y H Q => ∃ (a b : Addr) (kvs : List (L2.Key × V)), x = .ref a ∧ y = .ref b ∧ H a = some (.dK kvs) ∧ H b = some (.dK []) ∧ Q (.bl kvs.isEmpty) H
theorem op_neE (hu : X.A.units < cLine) : OpR X (compareOp .NotEq) rNeE := by
  intro pins s σ H x y v u Q I rx ry h
  obtain ⟨a, b, kvs, rfl, rfl, ea, eb, q⟩ := h
  cases kvs with
  | nil => exact op_ne_dictA hu pins s σ H _ _ v u Q I rx ry ⟨a, b, [], [], rfl, rfl, ea, eb, rfl, fun p hp => absurd hp List.not_mem_nil, q⟩
  | cons kv kvs =>
    obtain rfl : v = Value.ref a := rx
    obtain rfl : u = Value.ref b := ry
    obtain ⟨_, ya, va, ra, da⟩ := (show ObjOk X.prog X.w H s.heap a (.dK (kv :: kvs)) from I.hok a _ ea)
    obtain ⟨_, yb, vb, rb, db⟩ := (show ObjOk X.prog X.w H s.heap b (.dK []) from I.hok b _ eb)
    have hl : va.length ≠ vb.length := by rw [← ra.length, ← rb.length]; simp
    exact PySem.W.keq_ne (knd := mixKind X.prog X.w) (r := true) ya yb da db hu (fun h => absurd h hl) (fin_bl I q (by simp [hl]))
theorem op_eqE (hu : X.A.units < cLine) : OpR X (compareOp .Eq) rEqE := by
  intro pins s σ H x y v u Q I rx ry h
  obtain ⟨a, b, kvs, rfl, rfl, ea, eb, q⟩ := h
  cases kvs with
  | nil => exact op_eq_dictA hu pins s σ H _ _ v u Q I rx ry ⟨a, b, [], [], rfl, rfl, ea, eb, rfl, fun p hp => absurd hp List.not_mem_nil, q⟩
  | cons kv kvs =>
    obtain rfl : v = Value.ref a := rx
    obtain rfl : u = Value.ref b := ry
    obtain ⟨_, ya, va, ra, da⟩ := (show ObjOk X.prog X.w H s.heap a (.dK (kv :: kvs)) from I.hok a _ ea)
    obtain ⟨_, yb, vb, rb, db⟩ := (show ObjOk X.prog X.w H s.heap b (.dK []) from I.hok b _ eb)
    have hl : va.length ≠ vb.length := by rw [← ra.length, ← rb.length]; simp
    exact PySem.W.keq_eq (knd := mixKind X.prog X.w) (r := true) ya yb da db hu (fun h => absurd h hl) (fin_bl I q (by simp [hl]))
end
/-! heaps -/
section
variable {b p : Addr} {H H' : Hp} {o : HO}
theorem Dr.getK (d : Dr b H H') (hB : Bag H b) (h : H p = some o) (ho : ∀ xs, o ≠ .lst xs) : H' p = some o := by
  refine d.get ?_ h
  rintro rfl
  obtain ⟨xs, e⟩ := hB.lst
  rw [e] at h
  exact ho xs (Option.some.inj h).symm
theorem Mv.unlock {d : Addr} {u : HO} {od : Obj} (h : H d = some u) (hu : ∀ xs, u ≠ .tup xs) (hv : ∀ o xs, u ≠ .frz o (.tup xs)) (m : Mv [] (upd H d (.frz od u)) H') : Mv [] H (upd H' d u) := by
  refine ⟨fun a xs r => ?_, fun a o _ e => ?_⟩
  · have hd : a ≠ d := by
      rintro rfl
      rcases r with r | ⟨o, r⟩
      · rw [h] at r
        exact hu xs (Option.some.inj r)
      · rw [h] at r
        exact hv o xs (Option.some.inj r)
    have r' : Rd (upd H d (.frz od u)) a (.tup xs) := r.imp (fun r => by rw [upd_ne hd]; exact r) fun ⟨o, r⟩ => ⟨o, by rw [upd_ne hd]; exact r⟩
    exact (m.tk a xs r').imp (fun r => by rw [upd_ne hd]; exact r) fun ⟨o, r⟩ => ⟨o, by rw [upd_ne hd]; exact r⟩
  · by_cases hd : a = d
    · subst hd
      rw [upd_same, ← e, h]
    · rw [upd_ne hd]
      exact m.keep a o (by simp) (by rw [upd_ne hd]; exact e)
theorem Mv.put {d : Addr} {u o : HO} (h : H d = some u) (hu : ∀ xs, u ≠ .tup xs) (hv : ∀ o xs, u ≠ .frz o (.tup xs)) : Mv [d] H (upd H d o) := by
  refine ⟨fun a xs r => ?_, fun a o n e => ?_⟩
  · have hd : a ≠ d := by
      rintro rfl
      rcases r with r | ⟨o, r⟩
      · rw [h] at r
        exact hu xs (Option.some.inj r)
      · rw [h] at r
        exact hv o xs (Option.some.inj r)
    exact r.imp (fun r => by rw [upd_ne hd]; exact r) fun ⟨o, r⟩ => ⟨o, by rw [upd_ne hd]; exact r⟩
  · rw [upd_ne (fun z => n (by rw [z]; exact List.mem_singleton.mpr rfl))]
    exact e
theorem Mv.putD {d : Addr} {kvs : List (L2.Key × V)} {o : HO} (h : H d = some (.dK kvs)) : Mv [d] H (upd H d o) := .put h (fun _ z => by cases z) (fun _ _ z => by cases z)
theorem Mv.lock {d : Addr} {u : HO} {od : Obj} (h : H d = some u) (hu : ∀ xs, u ≠ .tup xs) (hv : ∀ o xs, u ≠ .frz o (.tup xs)) : Mv [d] H (upd H d (.frz od u)) := .put h hu hv
theorem slO_nolst {a C dx : Addr} {vs : List (Option V)} (xs : List V) : SlO a C dx vs ≠ .lst xs := fun z => by
  unfold SlO at z
  cases z
theorem Slt.mv {a C dx : Addr} {vs : List (Option V)} (h : Slt H a C dx vs) (m : Mv [] H H') : Slt H' a C dx vs := h.imp (fun h => ⟨m.same _ _ h.1, h.2⟩) fun h => ⟨m.same _ _ h.1, m.same _ _ h.2⟩
theorem Slt.dr {a C dx : Addr} {vs : List (Option V)} (h : Slt H a C dx vs) (d : Dr b H H') (hB : Bag H b) : Slt H' a C dx vs :=
  h.imp (fun h => ⟨d.getK hB h.1 (fun _ z => by cases z), h.2⟩) fun h => ⟨d.getK hB h.1 slO_nolst, d.getK hB h.2 (fun _ z => by cases z)⟩
end
/-! acts -/
structure ActR where
  nm : Str
  ar : Int
  outs : List (Str × Int)
/-- an act in a dict: its tuple at a, its outcomes at o -/
structure ActA where
  r : ActR
  a : Addr
  o : Addr
def ActA.kv (z : ActA) : L2.Key × V := (.inr z.r.nm, .ref z.a)
structure ActsAt (K : PySem.W.Frag) (H : Hp) (d : Addr) (zs : List ActA) : Prop where
  at_ : H d = some (.dK (zs.map ActA.kv))
  nd : (zs.map (·.r.nm)).Nodup
  tup : ∀ z ∈ zs, SqT K H z.a [.int z.r.ar, .ref z.o]
  out : ∀ z ∈ zs, H z.o = some (.dK (z.r.outs.map rowK))
  ond : ∀ z ∈ zs, (z.r.outs.map (·.1)).Nodup
section
variable {K : PySem.W.Frag} {H H' : Hp} {b d : Addr} {zs : List ActA}
theorem ActsAt.mv (h : ActsAt K H d zs) (m : Mv [] H H') : ActsAt K H' d zs := ⟨m.same _ _ h.at_, h.nd, fun z hz => m.sqT (h.tup z hz), fun z hz => m.same _ _ (h.out z hz), h.ond⟩
theorem ActsAt.dr (h : ActsAt K H d zs) (m : Dr b H H') (hB : Bag H b) : ActsAt K H' d zs :=
  ⟨m.getK hB h.at_ (fun _ z => by cases z), h.nd, fun z hz => m.mv.sqT (h.tup z hz), fun z hz => m.getK hB (h.out z hz) (fun _ z => by cases z), h.ond⟩
theorem kv_keys (zs : List ActA) : (zs.map ActA.kv).map (·.1) = (zs.map (·.r.nm)).map Sum.inr := by
  rw [List.map_map, List.map_map]
  rfl
theorem nd_inr {xs : List Str} (n : xs.Nodup) : (xs.map (Sum.inr : Str → L2.Key)).Nodup := by
  refine List.Pairwise.map _ (fun a b h => ?_) n
  exact fun e => h (Sum.inr.inj e)
theorem ActsAt.nk (h : ActsAt K H d zs) : ((zs.map ActA.kv).map (·.1)).Nodup := by
  rw [kv_keys]
  exact nd_inr h.nd
theorem ActsAt.val (h : ActsAt K H d zs) {z : ActA} (hz : z ∈ zs) : valV (zs.map ActA.kv) (.inr z.r.nm) = some (.ref z.a) := valV_mem h.nk (List.mem_map.mpr ⟨z, hz, rfl⟩)
theorem row_keys (rs : List (Str × Int)) : (rs.map rowK).map (·.1) = (rs.map (·.1)).map Sum.inr := by
  rw [List.map_map, List.map_map]
  rfl
theorem row_val {rs : List (Str × Int)} (n : (rs.map (·.1)).Nodup) {x : Str} {i : Int} (h : (x, i) ∈ rs) : valV (rs.map rowK) (.inr x) = some (.int i) :=
  valV_mem (by rw [row_keys]; exact nd_inr n) (List.mem_map.mpr ⟨(x, i), h, rfl⟩)
/-- behind a lock on d itself, or on another dict -/
theorem Dr.lst_ne {l : Addr} {xs : List V} (hB : Bag H b) (h : H l = some (.lst xs)) (hx : ∀ i, xs.getLast? ≠ some (.ref i)) : l ≠ b := by
  rintro rfl
  obtain ⟨c, s, m, k, ns, h1, _⟩ := hB
  rw [h1] at h
  have := Option.some.inj h
  injection this with this
  exact hx c (by rw [← this]; rfl)
end
def ActR.norm (r : ActR) : ActR := { r with outs := srt leS (·.1) r.outs }
def normW (rs : List ActR) : List ActR := srt leS (·.nm) (rs.map ActR.norm)
theorem paired_rows {K : PySem.W.Frag} {H : Hp} : ∀ (ps : List (Addr × Str × Int)), (∀ z ∈ ps, H z.1 = some (.tup [.str z.2.1, .int z.2.2])) → Paired (fun p (kv : L2.Key × V) => SqT K H p [kV kv.1, kv.2]) (ps.map (·.1)) ((ps.map (·.2)).map rowK)
  | [], _ => .nil
  | z :: ps, h => .cons (.inl (.inl (h z (by simp)))) (paired_rows ps fun y hy => h y (by simp [hy]))
/-- dict of the pairs of a list, in order by their texts -/
theorem srt_outs {rows qs : List (Str × Int)} (n : (rows.map (·.1)).Nodup) (p : qs.Perm rows) (s : qs.Pairwise fun e f => e.1.cps.toList < f.1.cps.toList) : qs = srt leS (·.1) rows :=
  srt_one totS n p (s.imp fun {a b} h => leS_iff.mpr (List.le_of_lt h))
/-- a World at x -/
def WldAt (K : PySem.W.Frag) (H : Hp) (C x : Addr) (rs : List ActR) : Prop := ∃ dx d zs, Slt H x C dx [some (.ref d)] ∧ ActsAt K H d zs ∧ zs.map (·.r) = rs
section
variable {K : PySem.W.Frag} {H H' : Hp} {b C x : Addr} {rs : List ActR}
theorem WldAt.mv (h : WldAt K H C x rs) (m : Mv [] H H') : WldAt K H' C x rs := by
  obtain ⟨dx, d, zs, h1, h2, h3⟩ := h
  exact ⟨dx, d, zs, Slt.mv h1 m, h2.mv m, h3⟩
theorem WldAt.dr (h : WldAt K H C x rs) (m : Dr b H H') (hB : Bag H b) : WldAt K H' C x rs := by
  obtain ⟨dx, d, zs, h1, h2, h3⟩ := h
  exact ⟨dx, d, zs, Slt.dr h1 m hB, h2.dr m hB, h3⟩
end
end Fm
namespace Fm
open PySem PySem.Spec PyProof.Rows L2 SlX
local macro_rules | `(tactic| walk_at "nn") => `(tactic| dsimp only [tC, tNil, tCons, tCB, tCall, gName, tSeq, tAsg, tPar, tDrop, tRet])
local macro_rules | `(tactic| walk_at "nc") => `(tactic| dsimp only [tC, tNil, tCons, tCB, tCall])
/-- a name of an outcome -/
def On (x : Str) : Prop := isOutc (.str x) = true ∧ x.length ≤ 9
theorem on_nm {x : Str} (h : Nm x) : On x := by
  refine ⟨?_, by have := h.2.1; omega⟩
  have hd : dashed x = false := by
    unfold dashed
    refine decide_eq_false fun e => ?_
    have h1 : 45 ∈ x.cps.toList := List.mem_of_mem_drop (i := x.length - 1) (by rw [e]; simp)
    have := h.2.2 45 h1
    omega
  simp only [isOutc]
  rw [hd]
  exact nmd_nm h
theorem on_ok {x : Str} (h : On x) : PyData.strOk x = true := by
  show x.cps.all (· < 0x110000) = true
  rw [Array.all_eq_true_iff_forall_mem]
  have low : ∀ z : Str, nmd z = true → ∀ c ∈ z.cps.toList, c < 0x110000 := fun z hz c hc => by
    unfold nmd at hz
    rw [Bool.and_eq_true, List.all_eq_true] at hz
    have := hz.2 c hc
    have k : ∀ c ∈ lettersS.cps.toList, c < 0x110000 := by decide +kernel
    exact k c (of_decide_eq_true this)
  intro c hc
  have hc' : c ∈ x.cps.toList := by simpa using hc
  have h1 := h.1
  simp only [isOutc] at h1
  simp only [decide_eq_true_eq]
  split at h1
  · rename_i hd
    have hd' : x.cps.toList.drop (x.length - 1) = [45] := of_decide_eq_true hd
    rw [← List.take_append_drop (x.length - 1) x.cps.toList, hd'] at hc'
    rcases List.mem_append.mp hc' with hc' | hc'
    · exact low _ h1 c (by simpa [initS] using hc')
    · rw [List.mem_singleton] at hc'
      omega
  · exact low x h1 c hc'
structure ActR.ok (r : ActR) : Prop where
  nm : Nm r.nm
  ar0 : 0 ≤ r.ar
  ar2 : r.ar ≤ 2
  o1 : 1 ≤ r.outs.length
  o6 : r.outs.length ≤ 6
  on : ∀ e ∈ r.outs, On e.1 ∧ 0 ≤ e.2 ∧ e.2 ≤ 2
theorem ActR.ok_norm {r : ActR} (h : r.ok) : r.norm.ok := ⟨h.nm, h.ar0, h.ar2, by simp only [ActR.norm]; rw [srt_len]; exact h.o1, by simp only [ActR.norm]; rw [srt_len]; exact h.o6, fun e he => h.on e (srt_mem.mp he)⟩
def within (m : Int) : Th → Bool
  | .int i => decide (0 ≤ i) && decide (i ≤ m)
  | _ => false
def sp_within (K : PySem.W.Frag) : Sp := fun vs H Q _ => ∃ (v : V) (t : Th) (b : Addr) (m : Int), vs = [v, .int m] ∧ Is K b H v t ∧ ∀ H', Mv [] H H' → Q (.bl (within m t)) H'
def sp_outs : Sp := fun vs H Q _ => ∃ (o : Addr) (rows : List (Str × Int)), vs = [.ref o] ∧ H o = some (.dK (rows.map rowK)) ∧ (rows.map (·.1)).Nodup ∧ 1 ≤ rows.length ∧ rows.length ≤ 6 ∧ (∀ e ∈ rows, On e.1 ∧ 0 ≤ e.2 ∧ e.2 ≤ 2) ∧ ∀ H', Mv [] H H' → Q (.bl true) H'
def sp_act (K : PySem.W.Frag) : Sp := fun vs H Q _ => ∃ (r : ActR) (a o : Addr), vs = [.ref a] ∧ SqT K H a [.int r.ar, .ref o] ∧ H o = some (.dK (r.outs.map rowK)) ∧ (r.outs.map (·.1)).Nodup ∧ r.ok ∧ ∀ H', Mv [] H H' → Q (.bl true) H'
theorem tyx_sqT {K : PySem.W.Frag} {H : Hp} {a : Addr} {xs : List V} (h : SqT K H a xs) : TyX K H (.ref a) (.type "tuple") := by
  rcases h with (hs | ⟨o, hs⟩) | ⟨o, its, n, hk, hc, _⟩
  · exact .base (.tup hs)
  · exact .fTuple hs
  · exact .kTuple hk hc
theorem hu1_of {k : Nat} {A : Around} (h : Room k A) : A.units + 1 < cLine := by
  have := hu65_of h
  omega
section
variable {P : Program} {w : World} {K : PySem.W.Frag} {mg : Str → Option Value} {base : Heap}
end
end Fm
namespace Fm
open PySem PySem.Spec PyProof.Rows L2 SlX
local macro_rules | `(tactic| walk_at "nn") => `(tactic| dsimp only [tC, tNil, tCons, tCB, tCall, gName, tSeq, tAsg, tPar, tDrop, tRet])
local macro_rules | `(tactic| walk_at "nc") => `(tactic| dsimp only [tC, tNil, tCons, tCB, tCall])
/-- a World whose dicts are new -/
def WldF (K : PySem.W.Frag) (H0 H : Hp) (C x : Addr) (rs : List ActR) : Prop := ∃ dx d zs, Slt H x C dx [some (.ref d)] ∧ ActsAt K H d zs ∧ zs.map (·.r) = rs ∧ H0 d = none ∧ ∀ z ∈ zs, H0 z.o = none
theorem WldF.at_ {K : PySem.W.Frag} {H0 H : Hp} {C x : Addr} {rs : List ActR} (h : WldF K H0 H C x rs) : WldAt K H C x rs := by
  obtain ⟨dx, d, zs, h1, h2, h3, _⟩ := h
  exact ⟨dx, d, zs, h1, h2, h3⟩
/-- World(d), d a dict of acts -/
def sp_World (K : PySem.W.Frag) (C : Addr) : Sp := fun vs H Q _ => ∃ (x dx d : Addr) (zs : List ActA) (H0 : Hp), vs = [.ref x, .ref d] ∧ H = upd (upd H0 dx (.own x)) x (.ins C dx []) ∧ H0 x = none ∧ H0 dx = none ∧ dx ≠ x ∧ ActsAt K H0 d zs ∧ (∀ z ∈ zs, z.r.ok) ∧ zs.length < 60 ∧
  ∀ H', Mv [] H0 H' → WldF K H0 H' C x (normW (zs.map (·.r))) → Q .non H'
section
variable {P : Program} {w : World} {K : PySem.W.Frag} {mg : Str → Option Value} {base : Heap}
end
end Fm
namespace Fm
open PySem PySem.Spec PyProof.Rows L2 SlX
local macro_rules | `(tactic| walk_at "nn") => `(tactic| dsimp only [tC, tNil, tCons, tCB, tCall, gName, tSeq, tAsg, tPar, tDrop, tRet])
local macro_rules | `(tactic| walk_at "nc") => `(tactic| dsimp only [tC, tNil, tCons, tCB, tCall])
def sp_Wacts (K : PySem.W.Frag) (C : Addr) : Sp := fun vs H Q _ => ∃ (x : Addr) (rs : List ActR), vs = [.ref x] ∧ WldAt K H C x rs ∧ ∀ p, H p = none → Q (.ref p) (upd H p (.lst ((rs.map (·.nm)).map V.str)))
def sp_Wargs (K : PySem.W.Frag) (C : Addr) : Sp := fun vs H Q _ => ∃ (x : Addr) (rs : List ActR) (r : ActR), vs = [.ref x, .str r.nm] ∧ WldAt K H C x rs ∧ r ∈ rs ∧ Q (.int r.ar) H
def sp_Wouts (K : PySem.W.Frag) (C : Addr) : Sp := fun vs H Q _ => ∃ (x : Addr) (rs : List ActR) (r : ActR), vs = [.ref x, .str r.nm] ∧ WldAt K H C x rs ∧ r ∈ rs ∧ ∀ p, H p = none → Q (.ref p) (upd H p (.lst ((r.outs.map (·.1)).map V.str)))
def sp_Wbrings (K : PySem.W.Frag) (C : Addr) : Sp := fun vs H Q _ => ∃ (x : Addr) (rs : List ActR) (r : ActR) (y : Str) (i : Int), vs = [.ref x, .str r.nm, .str y] ∧ WldAt K H C x rs ∧ r ∈ rs ∧ (y, i) ∈ r.outs ∧ Q (.int i) H
section
variable {P : Program} {w : World} {K : PySem.W.Frag} {mg : Str → Option Value} {base : Heap}
end
end Fm
namespace Fm
open PySem PySem.Spec PyProof.Rows L2 SlX
local macro_rules | `(tactic| walk_at "nn") => `(tactic| dsimp only [tC, tNil, tCons, tCB, tCall, gName, tSeq, tAsg, tPar, tDrop, tRet])
local macro_rules | `(tactic| walk_at "nc") => `(tactic| dsimp only [tC, tNil, tCons, tCB, tCall])
/-! statements -/
inductive Sta where
  | set (chs : List (Int × Tm)) (goal : Int)
  | ask (act : Str) (ts : List Tm) (ways : List (Str × List Int × Int))
  | fin (word : Str) (ts : List Tm)
def chD (c : Int × Tm) : PyData := .tuple [.int c.1, c.2.d]
def wayD (w : Str × List Int × Int) : PyData := .tuple [.str w.1, .tuple (w.2.1.map .int), .int w.2.2]
def Sta.d : Sta → PyData
  | .set chs goal => .tuple [.str "set", .tuple (chs.map chD), .int goal]
  | .ask act ts ways => .tuple [.str "ask", .str act, .tuple (Tm.ds ts), .tuple (ways.map wayD)]
  | .fin word ts => .tuple [.str "end", .str word, .tuple (Tm.ds ts)]
def TmOver (many : Int) (t : Tm) : Prop := t.ok (fun i => 0 ≤ i ∧ i < many) ∧ t.th.cnt ≤ 5000 ∧ t.dep ≤ 50
def ChOk (many : Int) (chs : List (Int × Tm)) : Prop := (chs.map (·.1)).Nodup ∧ chs.length ≤ 24 ∧ ∀ c ∈ chs, 0 ≤ c.1 ∧ c.1 < many ∧ TmOver many c.2
def WayOk (r : ActR) (many places : Int) (w : Str × List Int × Int) : Prop := ∃ i, (w.1, i) ∈ r.outs ∧ (w.2.1.length : Int) = i ∧ w.2.1.Nodup ∧ (∀ j ∈ w.2.1, 0 ≤ j ∧ j < many) ∧ 0 ≤ w.2.2 ∧ w.2.2 < places
structure AskOk (r : ActR) (many places : Int) (ts : List Tm) (ways : List (Str × List Int × Int)) : Prop where
  len : (ts.length : Int) = r.ar
  ts : ∀ t ∈ ts, TmOver many t
  pm : (ways.map (·.1)).Perm (r.outs.map (·.1))
  ways : ∀ w ∈ ways, WayOk r many places w
def Sta.ok (rs : List ActR) (many places : Int) : Sta → Prop
  | .set chs goal => ChOk many chs ∧ 0 ≤ goal ∧ goal < places
  | .ask act ts ways => ∃ r ∈ rs, r.nm = act ∧ AskOk r many places ts ways
  | .fin word ts => Nm word ∧ ts.length ≤ 2 ∧ ∀ t ∈ ts, TmOver many t
/-- worlds as they are kept: in order -/
structure WOk (rs : List ActR) : Prop where
  ok : ∀ r ∈ rs, r.ok
  nd : (rs.map (·.nm)).Nodup
  few : rs.length < 60
  ond : ∀ r ∈ rs, (r.outs.map (·.1)).Nodup
  pw : ∀ r ∈ rs, (r.outs.map (·.1)).Pairwise fun a b => leS a b = true
def inPl (places : Int) : Th → Bool
  | .int i => decide (0 ≤ i) && decide (i < places)
  | _ => false
def sp_diff (K : PySem.W.Frag) : Sp := fun vs H Q _ => ∃ (many : Int) (a : Addr) (ns : List Int), vs = [.int many, .ref a] ∧ SqT K H a (ns.map V.int) ∧ ns.Nodup ∧ ns.length ≤ 1000 ∧ (∀ i ∈ ns, 0 ≤ i ∧ i < many) ∧ ∀ H', Mv [] H H' → Q (.bl true) H'
def sp_termsOver (K : PySem.W.Frag) : Sp := fun vs H Q _ => ∃ (many : Int) (v : V) (ts : List Tm), vs = [.int many, v] ∧ Im K H v (.tuple (Tm.ds ts)) ∧ ts.length ≤ 1000 ∧ (∀ t ∈ ts, TmOver many t) ∧ ∀ H', Mv [] H H' → Q (.bl true) H'
def sp_place (K : PySem.W.Frag) : Sp := fun vs H Q _ => ∃ (places : Int) (v : V) (t : Th) (b : Addr), vs = [.int places, v] ∧ Is K b H v t ∧ ∀ H', Mv [] H H' → Q (.bl (inPl places t)) H'
def sp_pair (K : PySem.W.Frag) : Sp := fun vs H Q _ => ∃ (v : V) (d e : PyData), vs = [v] ∧ Im K H v (.tuple [d, e]) ∧ Q (.bl true) H
section
variable {P : Program} {w : World} {K : PySem.W.Frag} {mg : Str → Option Value} {base : Heap}
end
end Fm
namespace Fm
open PySem PySem.Spec PyProof.Rows L2 SlX
local macro_rules | `(tactic| walk_at "nn") => `(tactic| dsimp only [tC, tNil, tCons, tCB, tCall, gName, tSeq, tAsg, tPar, tDrop, tRet])
local macro_rules | `(tactic| walk_at "nc") => `(tactic| dsimp only [tC, tNil, tCons, tCB, tCall])
def sp_set (K : PySem.W.Frag) : Sp := fun vs H Q _ => ∃ (many places : Int) (v : V) (chs : List (Int × Tm)) (goal : Int), vs = [.int many, .int places, v] ∧ Im K H v (Sta.set chs goal).d ∧ ChOk many chs ∧ 0 ≤ goal ∧ goal < places ∧ ∀ H', Mv [] H H' → Q (.bl true) H'
def sp_end (K : PySem.W.Frag) : Sp := fun vs H Q _ => ∃ (many : Int) (v : V) (word : Str) (ts : List Tm), vs = [.int many, v] ∧ Im K H v (Sta.fin word ts).d ∧ Nm word ∧ ts.length ≤ 2 ∧ (∀ t ∈ ts, TmOver many t) ∧ ∀ H', Mv [] H H' → Q (.bl true) H'
def sp_way (K : PySem.W.Frag) (C : Addr) : Sp := fun vs H Q _ => ∃ (x : Addr) (many places : Int) (v : V) (rs : List ActR) (r : ActR) (wy : Str × List Int × Int), vs = [.ref x, .int many, .int places, .str r.nm, v] ∧ WldAt K H C x rs ∧ r ∈ rs ∧ Im K H v (wayD wy) ∧ WayOk r many places wy ∧
  (∀ e ∈ r.outs, 0 ≤ e.2 ∧ e.2 ≤ 2) ∧ ∀ H', Mv [] H H' → Q (.bl true) H'
theorem Im.tup3 {K : PySem.W.Frag} {H : Hp} {v : V} {d e f : PyData} (h : Im K H v (.tuple [d, e, f])) : ∃ a x y z, v = .ref a ∧ SqT K H a [x, y, z] ∧ Im K H x d ∧ Im K H y e ∧ Im K H z f := by
  obtain ⟨a, xs, rfl, ha, hx⟩ := h.tupI
  obtain ⟨x, xs1, rfl, h1, hx⟩ := hx.invD
  obtain ⟨y, xs2, rfl, h2, hx⟩ := hx.invD
  obtain ⟨z, xs3, rfl, h3, hx⟩ := hx.invD
  rw [hx.nilD] at ha
  exact ⟨a, x, y, z, rfl, ha, h1, h2, h3⟩
theorem Im.tup2 {K : PySem.W.Frag} {H : Hp} {v : V} {d e : PyData} (h : Im K H v (.tuple [d, e])) : ∃ a x y, v = .ref a ∧ SqT K H a [x, y] ∧ Im K H x d ∧ Im K H y e := by
  obtain ⟨a, xs, rfl, ha, hx⟩ := h.tupI
  obtain ⟨x, xs1, rfl, h1, hx⟩ := hx.invD
  obtain ⟨y, xs2, rfl, h2, hx⟩ := hx.invD
  rw [hx.nilD] at ha
  exact ⟨a, x, y, rfl, ha, h1, h2⟩
theorem Im.tup4 {K : PySem.W.Frag} {H : Hp} {v : V} {d e f g : PyData} (h : Im K H v (.tuple [d, e, f, g])) : ∃ a x y z u, v = .ref a ∧ SqT K H a [x, y, z, u] ∧ Im K H x d ∧ Im K H y e ∧ Im K H z f ∧ Im K H u g := by
  obtain ⟨a, xs, rfl, ha, hx⟩ := h.tupI
  obtain ⟨x, xs1, rfl, h1, hx⟩ := hx.invD
  obtain ⟨y, xs2, rfl, h2, hx⟩ := hx.invD
  obtain ⟨z, xs3, rfl, h3, hx⟩ := hx.invD
  obtain ⟨u, xs4, rfl, h4, hx⟩ := hx.invD
  rw [hx.nilD] at ha
  exact ⟨a, x, y, z, u, rfl, ha, h1, h2, h3, h4⟩
theorem imm_ints (ns : List Int) : immAll (ns.map PyData.int) = true := immAll_iff.mpr fun x h => by
  obtain ⟨n, _, rfl⟩ := List.mem_map.mp h
  rfl
theorem Ims.intsI {K : PySem.W.Frag} {H : Hp} : ∀ {ns : List Int} {xs : List V}, Ims K H xs (ns.map PyData.int) → xs = ns.map V.int
  | [], _, h => h.nilD
  | n :: ns, _, h => by
    obtain ⟨v, vs, rfl, h1, h2⟩ := h.invD
    rw [h1.intI, Ims.intsI h2]
    rfl
theorem Ims.ofInts {K : PySem.W.Frag} {H : Hp} : ∀ (ns : List Int), Ims K H (ns.map V.int) (ns.map PyData.int)
  | [] => .nil
  | n :: ns => .cons (.int n) (Ims.ofInts ns)
section
variable {P : Program} {w : World} {K : PySem.W.Frag} {mg : Str → Option Value} {base : Heap}
end
end Fm
namespace Fm
open PySem PySem.Spec PyProof.Rows L2 SlX
local macro_rules | `(tactic| walk_at "nn") => `(tactic| dsimp only [tC, tNil, tCons, tCB, tCall, gName, tSeq, tAsg, tPar, tDrop, tRet])
local macro_rules | `(tactic| walk_at "nc") => `(tactic| dsimp only [tC, tNil, tCons, tCB, tCall])
def sp_ask (K : PySem.W.Frag) (C : Addr) : Sp := fun vs H Q _ => ∃ (x : Addr) (many places : Int) (v : V) (rs : List ActR) (r : ActR) (ts : List Tm) (ways : List (Str × List Int × Int)), vs = [.ref x, .int many, .int places, v] ∧ WldAt K H C x rs ∧ WOk rs ∧ r ∈ rs ∧ Im K H v (Sta.ask r.nm ts ways).d ∧ AskOk r many places ts ways ∧
  ∀ H', Mv [] H H' → Q (.bl true) H'
section
variable {P : Program} {w : World} {K : PySem.W.Frag} {mg : Str → Option Value} {base : Heap}
end
end Fm
namespace Fm
open PySem PySem.Spec PyProof.Rows L2 SlX
local macro_rules | `(tactic| walk_at "nn") => `(tactic| dsimp only [tC, tNil, tCons, tCB, tCall, gName, tSeq, tAsg, tPar, tDrop, tRet])
local macro_rules | `(tactic| walk_at "nc") => `(tactic| dsimp only [tC, tNil, tCons, tCB, tCall])
section
variable {P : Program} {w : World} {K : PySem.W.Frag} {mg : Str → Option Value} {base : Heap}
end
end Fm
namespace Fm
open PySem PySem.Spec PyProof.Rows L2 SlX
local macro_rules | `(tactic| walk_at "nn") => `(tactic| dsimp only [tC, tNil, tCons, tCB, tCall, gName, tSeq, tAsg, tPar, tDrop, tRet])
local macro_rules | `(tactic| walk_at "nc") => `(tactic| dsimp only [tC, tNil, tCons, tCB, tCall])
/-! rows put in order by their first part -/
theorem Ims.pairs {α : Type} {K : PySem.W.Frag} {H : Hp} {D : α → PyData} : ∀ {rows : List α} {xs : List V}, Ims K H xs (rows.map D) → ∀ z ∈ rows.zip xs, Im K H z.2 (D z.1)
  | [], _, _, z, hz => by simp at hz
  | r :: rows, _, h, z, hz => by
    obtain ⟨v, vs, rfl, h1, h2⟩ := h.invD
    rw [List.zip_cons_cons, List.mem_cons] at hz
    rcases hz with rfl | hz
    · exact h1
    · exact Ims.pairs h2 z hz
theorem Ims.ofPairs {α : Type} {K : PySem.W.Frag} {H : Hp} {D : α → PyData} : ∀ (zs : List (α × V)), (∀ z ∈ zs, Im K H z.2 (D z.1)) → Ims K H (zs.map (·.2)) ((zs.map (·.1)).map D)
  | [], _ => .nil
  | z :: zs, h => .cons (h z (by simp)) (Ims.ofPairs zs fun y hy => h y (by simp [hy]))
theorem sorted_rows {α κ : Type} {K : PySem.W.Frag} {H : Hp} {D : α → PyData} {le : κ → κ → Bool} (t : TotO le) {key : α → κ} {mk : κ → V} {kf : V → κ} (hm : ∀ k, kf (mk k) = k) (hlt : ∀ i j, ltV (mk j) (mk i) = false → le i j = true)
    {rows : List α} {xs : List V} (h : Ims K H xs (rows.map D)) (n : (rows.map key).Nodup) {ps : List (V × V)} (p : ps.Perm ((rows.map fun r => mk (key r)).zip xs)) (s : ps.Pairwise fun p q => ltV q.1 p.1 = false) :
    Ims K H (ps.map (·.2)) ((srt le key rows).map D) := by
  have hl : rows.length = xs.length := by
    have := h.length
    rw [List.length_map] at this
    exact this.symm
  have e1 : (rows.map fun r => mk (key r)).zip xs = (rows.zip xs).map fun z => (mk (key z.1), z.2) := by
    clear h n p
    induction rows generalizing xs with
    | nil => simp
    | cons r rows ih =>
      cases xs with
      | nil => simp at hl
      | cons x xs => simp [ih (xs := xs) (by simpa using hl)]
  rw [e1] at p
  have nz : ((rows.zip xs).map fun z => key z.1).Nodup := by
    have : (rows.zip xs).map (fun z => key z.1) = rows.map key := by
      rw [show (fun z : α × V => key z.1) = key ∘ Prod.fst from rfl, ← List.map_map, List.map_fst_zip (by omega)]
    rw [this]
    exact n
  have n2 : (((rows.zip xs).map fun z => (mk (key z.1), z.2)).map fun z => kf z.1).Nodup := by
    rw [List.map_map]
    rw [show ((fun z : V × V => kf z.1) ∘ fun z : α × V => (mk (key z.1), z.2)) = fun z => key z.1 from funext fun z => hm _]
    exact nz
  have hps : ps = srt le (fun z => kf z.1) ((rows.zip xs).map fun z => (mk (key z.1), z.2)) := by
    refine srt_one t n2 p ?_
    refine List.Pairwise.imp_of_mem ?_ s
    intro a b ha hb hab
    obtain ⟨za, _, rfl⟩ := List.mem_map.mp (p.mem_iff.mp ha)
    obtain ⟨zb, _, rfl⟩ := List.mem_map.mp (p.mem_iff.mp hb)
    simp only [hm]
    exact hlt _ _ hab
  rw [hps, srt_map (k := fun z : α × V => key z.1) (l := fun z : V × V => kf z.1) (f := fun z : α × V => (mk (key z.1), z.2)) t (fun z => hm _) nz, List.map_map]
  have e2 : srt le key rows = (srt le (fun z : α × V => key z.1) (rows.zip xs)).map (·.1) := by
    rw [← srt_map (f := fun z : α × V => z.1) (k := fun z : α × V => key z.1) (l := key) t (fun _ => rfl) nz, List.map_fst_zip (by omega)]
  rw [e2]
  refine Ims.ofPairs (D := D) (srt le (fun z : α × V => key z.1) (rows.zip xs)) fun z hz => ?_
  exact h.pairs z (srt_mem.mp hz)
def kI : V → Int
  | .int i => i
  | _ => 0
def kS : V → Str
  | .str x => x
  | _ => ""
def Sta.ord : Sta → Sta
  | .set chs goal => .set (srt leZ (·.1) chs) goal
  | .ask act ts ways => .ask act ts (srt leS (·.1) ways)
  | .fin word ts => .fin word ts
/-- what ordered needs -/
def Sta.keyed : Sta → Prop
  | .set chs _ => (chs.map (·.1)).Nodup ∧ chs.length ≤ 1000
  | .ask _ _ ways => (ways.map (·.1)).Nodup ∧ ways.length ≤ 1000
  | .fin _ _ => True
theorem fineAll_ints {ns : List Int} (h : ∀ n ∈ ns, n.natAbs < 10 ^ 40) : fineAll (ns.map PyData.int) := fineAll_iff.mpr fun x hx => by
  obtain ⟨n, hn, rfl⟩ := List.mem_map.mp hx
  exact h n hn
theorem nat_of {i n : Int} (h0 : 0 ≤ i) (h1 : i < n) (hn : n ≤ 1000000) : i.natAbs < 10 ^ 40 := by
  have : i.natAbs < 1000001 := by omega
  exact Nat.lt_trans this (by decide)
theorem fine_over {many : Int} {t : Tm} (h : TmOver many t) (hm : many ≤ 1000000) : fine t.d := fine_d (fun i hi => nat_of hi.1 hi.2 hm) t h.1
theorem fineAll_over {many : Int} {ts : List Tm} (h : ∀ t ∈ ts, TmOver many t) (hm : many ≤ 1000000) : fineAll (Tm.ds ts) := by
  rw [Tm.ds_map]
  exact fineAll_iff.mpr fun x hx => by
    obtain ⟨t, ht, rfl⟩ := List.mem_map.mp hx
    exact fine_over (h t ht) hm
theorem depthAll_le {n : Nat} : ∀ {ds : List PyData}, (∀ d ∈ ds, d.depth ≤ n) → PyData.depthAll ds ≤ n
  | [], _ => by simp [PyData.depthAll]
  | d :: ds, h => by
    have h1 := h d (by simp)
    have h2 := depthAll_le (ds := ds) fun e he => h e (by simp [he])
    simp only [PyData.depthAll]
    omega
theorem strOk_set : PyData.strOk "set" = true := by decide +kernel
theorem strOk_ask : PyData.strOk "ask" = true := by decide +kernel
theorem strOk_end : PyData.strOk "end" = true := by decide +kernel
theorem depth_over {many : Int} {ts : List Tm} (h : ∀ t ∈ ts, TmOver many t) : PyData.depthAll (Tm.ds ts) ≤ 50 := by
  rw [Tm.ds_map]
  exact depthAll_le fun d hd => by
    obtain ⟨t, ht, rfl⟩ := List.mem_map.mp hd
    rw [depth_d]
    exact (h t ht).2.2
theorem sta_fine {rs : List ActR} {many places : Int} (hW : WOk rs) (hm : many ≤ 1000000) (hp : places ≤ 1000000) : ∀ {st : Sta}, st.ok rs many places → fine st.d ∧ st.d.depth ≤ 55
  | .set chs goal, ⟨⟨_, _, hc⟩, g0, g1⟩ => by
    constructor
    · simp only [Sta.d, fine, fineAll]
      refine ⟨strOk_set, fineAll_iff.mpr fun x hx => ?_, nat_of g0 g1 hp, trivial⟩
      obtain ⟨c, hc', rfl⟩ := List.mem_map.mp hx
      obtain ⟨c0, c1, c2⟩ := hc c hc'
      exact ⟨nat_of c0 c1 hm, fine_over c2 hm, trivial⟩
    · have : PyData.depthAll (chs.map chD) ≤ 51 := depthAll_le fun d hd => by
        obtain ⟨c, hc', rfl⟩ := List.mem_map.mp hd
        obtain ⟨c0, c1, c2⟩ := hc c hc'
        have := c2.2.2
        simp only [chD, PyData.depth, PyData.depthAll, depth_d]
        omega
      simp only [Sta.d, PyData.depth, PyData.depthAll]
      omega
  | .ask act ts ways, ⟨r, hr, hnm, hk⟩ => by
    subst hnm
    have hro := hW.ok r hr
    constructor
    · simp only [Sta.d, fine, fineAll]
      refine ⟨strOk_ask, nm_ok hro.nm, fineAll_over hk.ts hm, fineAll_iff.mpr fun x hx => ?_, trivial⟩
      obtain ⟨c, hc', rfl⟩ := List.mem_map.mp hx
      obtain ⟨i, hi, _, _, hj, g0, g1⟩ := hk.ways c hc'
      exact ⟨on_ok (hro.on _ hi).1, fineAll_ints fun n hn => nat_of (hj n hn).1 (hj n hn).2 hm, nat_of g0 g1 hp, trivial⟩
    · have : PyData.depthAll (ways.map wayD) ≤ 2 := depthAll_le fun d hd => by
        obtain ⟨c, hc', rfl⟩ := List.mem_map.mp hd
        have : PyData.depthAll (c.2.1.map PyData.int) ≤ 0 := depthAll_le fun d hd => by
          obtain ⟨n, _, rfl⟩ := List.mem_map.mp hd
          simp [PyData.depth]
        simp only [wayD, PyData.depth, PyData.depthAll]
        omega
      have h2 := depth_over hk.ts
      simp only [Sta.d, PyData.depth, PyData.depthAll]
      omega
  | .fin word ts, ⟨hn, _, hts⟩ => by
    constructor
    · simp only [Sta.d, fine, fineAll]
      exact ⟨strOk_end, nm_ok hn, fineAll_over hts hm, trivial⟩
    · have h2 := depth_over hts
      simp only [Sta.d, PyData.depth, PyData.depthAll]
      omega
theorem sta_keyed {rs : List ActR} {many places : Int} (hW : WOk rs) : ∀ {st : Sta}, st.ok rs many places → st.keyed
  | .set chs goal, ⟨⟨h1, h2, _⟩, _, _⟩ => ⟨h1, by omega⟩
  | .ask act ts ways, ⟨r, hr, _, hk⟩ => by
    have := hk.pm.length_eq
    rw [List.length_map, List.length_map] at this
    have := (hW.ok r hr).o6
    exact ⟨(hk.pm.nodup_iff).mpr (hW.ond r hr), by omega⟩
  | .fin word ts, _ => trivial
theorem shaped_of {d : PyData} (h : fine d) (k : d.depth ≤ 55) : SeqAt.shaped d = true := by
  show (d.canLay0 && decide (d.depth ≤ 64)) = true
  rw [(fine_lay d h).1, decide_eq_true (by omega)]
  rfl
def sp_stmt (K : PySem.W.Frag) (C : Addr) : Sp := fun vs H Q _ => ∃ (x : Addr) (many places : Int) (v : V) (rs : List ActR) (st : Sta), vs = [.ref x, .int many, .int places, v] ∧ WldAt K H C x rs ∧ WOk rs ∧ Im K H v st.d ∧ st.ok rs many places ∧ many ≤ 1000000 ∧ places ≤ 1000000 ∧
  ∀ H', Mv [] H H' → Q (.bl true) H'
theorem sta_tup : ∀ st : Sta, ∃ y e es, st.d = .tuple (.str y :: e :: es)
  | .set _ _ => ⟨_, _, _, rfl⟩
  | .ask _ _ _ => ⟨_, _, _, rfl⟩
  | .fin _ _ => ⟨_, _, _, rfl⟩
theorem ne_str {x y : Str} (h : x ≠ y) : decide (V.str x = V.str y) = false := decide_eq_false fun e => h (V.str.inj e)
theorem eqv_unit (d : PyData) (ds : List PyData) : PyData.eqv (.tuple (d :: ds)) (.tuple []) = false := by simp [PyData.eqv, PyData.eqvAll]
section
variable {P : Program} {w : World} {K : PySem.W.Frag} {mg : Str → Option Value} {base : Heap}
end
end Fm
namespace Fm
open PySem PySem.Spec PyProof.Rows L2 SlX
local macro_rules | `(tactic| walk_at "nn") => `(tactic| dsimp only [tC, tNil, tCons, tCB, tCall, gName, tSeq, tAsg, tPar, tDrop, tRet])
local macro_rules | `(tactic| walk_at "nc") => `(tactic| dsimp only [tC, tNil, tCons, tCB, tCall])
def sp_first_of (K : PySem.W.Frag) : Sp := fun vs H Q _ => ∃ (a : Addr) (x : V) (xs : List V), vs = [.ref a] ∧ SqT K H a (x :: xs) ∧ Q x H
def sp_ordered (K : PySem.W.Frag) : Sp := fun vs H Q _ => ∃ (v : V) (st : Sta), vs = [v] ∧ Im K H v st.d ∧ st.keyed ∧ ∀ v' H', Mv [] H H' → Im K H' v' st.ord.d → Q v' H'
/-- t[:3] of a tuple of four -/
theorem rd_sl3 {K : PySem.W.Frag} {H : Hp} {Q : VK} {a : Addr} {x y z u : V} (ha : SqT K H a [x, y, z, u]) (h : ∀ p H', Mv [] H H' → SqT K H' p [x, y, z] → Q (.ref p) H') : rSlG K (.ref a) none (some 3) H Q := by
  refine rd_slT ha fun p H' m e => h p H' m ?_
  rw [show (some 3 : Option Int) = some ((3 : Nat) : Int) from rfl, cut_hi] at e
  exact e
section
variable {P : Program} {w : World} {K : PySem.W.Frag} {mg : Str → Option Value} {base : Heap}
end
end Fm
namespace Fm
open PySem PySem.Spec PyProof.Rows L2 SlX
local macro_rules | `(tactic| walk_at "nn") => `(tactic| dsimp only [tC, tNil, tCons, tCB, tCall, gName, tSeq, tAsg, tPar, tDrop, tRet])
local macro_rules | `(tactic| walk_at "nc") => `(tactic| dsimp only [tC, tNil, tCons, tCB, tCall])
section
variable {H0 H : Hp} {x dx C : Addr} {vs : List (Option V)}
theorem Mv.sl (m : Mv [] H0 H) (nx : H0 x = none) (ndx : H0 dx = none) : Mv [] H0 (slH H x C dx vs) := by
  unfold slH
  exact (m.wr ndx).wr nx
theorem Mv.slP {u u2 : HO} (hne : dx ≠ x) (hx : H x = some u) (h1 : ∀ xs, u ≠ .tup xs) (h2 : ∀ o xs, u ≠ .frz o (.tup xs)) (hd : H dx = some u2) (h3 : ∀ xs, u2 ≠ .tup xs) (h4 : ∀ o xs, u2 ≠ .frz o (.tup xs)) : Mv [x, dx] H (slH H x C dx vs) := by
  have m1 : Mv [x, dx] H (upd H dx (.xd [])) := (Mv.put hd h3 h4).mono (by simp)
  have m2 : Mv [x, dx] (upd H dx (.xd [])) (slH H x C dx vs) := (Mv.put (u := u) (by rw [upd_ne hne.symm]; exact hx) h1 h2).mono (by simp)
  exact m1.trans m2
theorem slH_x : slH H x C dx vs x = some (SlO x C dx vs) := upd_same
theorem slH_dx (hne : dx ≠ x) : slH H x C dx vs dx = some (.xd []) := by
  unfold slH
  rw [upd_ne hne]
  exact upd_same
theorem slO_notup {xs : List V} : SlO x C dx vs ≠ .tup xs := fun z => by
  unfold SlO at z
  cases z
theorem slO_nofrz {o : Obj} {xs : List V} : SlO x C dx vs ≠ .frz o (.tup xs) := fun z => by
  unfold SlO at z
  cases z
theorem Mv.slA (hne : dx ≠ x) (hx : H x = some (.ins C dx [])) (hd : H dx = some (.own x)) {us : List (Option V)} : Mv [x, dx] H (slH H x C dx us) := .slP hne hx (fun _ z => by cases z) (fun _ _ z => by cases z) hd (fun _ z => by cases z) (fun _ _ z => by cases z)
theorem Mv.slB (hne : dx ≠ x) (hx : H x = some (SlO x C dx vs)) (hd : H dx = some (.xd [])) {us : List (Option V)} : Mv [x, dx] H (slH H x C dx us) := .slP hne hx (fun _ => slO_notup) (fun _ _ => slO_nofrz) hd (fun _ z => by cases z) (fun _ _ z => by cases z)
end
/-- a Code at x over the World at wx -/
def CodAt (K : PySem.W.Frag) (H : Hp) (C CW x wx : Addr) (rs : List ActR) (many given : Int) (sts : List Sta) : Prop := ∃ dx l xs, Slt H x C dx [some (.int given), some (.ref l), some (.int many), some (.ref wx)] ∧ WldAt K H CW wx rs ∧ H l = some (.lst xs) ∧ Ims K H xs (sts.map Sta.d)
/-- the same, its list of statements at l -/
def CodL (K : PySem.W.Frag) (H : Hp) (C CW l x wx : Addr) (rs : List ActR) (many given : Int) (sts : List Sta) : Prop := ∃ dx xs, Slt H x C dx [some (.int given), some (.ref l), some (.int many), some (.ref wx)] ∧ WldAt K H CW wx rs ∧ H l = some (.lst xs) ∧ Ims K H xs (sts.map Sta.d)
theorem CodL.at_ {K : PySem.W.Frag} {H : Hp} {C CW l x wx : Addr} {rs : List ActR} {many given : Int} {sts : List Sta} : CodL K H C CW l x wx rs many given sts → CodAt K H C CW x wx rs many given sts := fun ⟨dx, xs, h⟩ => ⟨dx, l, xs, h⟩
theorem Slt.put {H : Hp} {p a C dx : Addr} {o : HO} {zs : List V} {vs : List (Option V)} (h : Slt H a C dx vs) (hp : H p = some (.lst zs)) : Slt (upd H p o) a C dx vs := by
  have ne : ∀ {q u}, H q = some u → (∀ xs, u ≠ .lst xs) → q ≠ p := fun e n z => by
    subst z
    rw [hp] at e
    exact n _ (Option.some.inj e).symm
  rcases h with ⟨h1, h2⟩ | ⟨h1, h2⟩
  · exact .inl ⟨by rw [upd_ne (ne h1 (fun _ z => by cases z))]; exact h1, h2⟩
  · exact .inr ⟨by rw [upd_ne (ne h1 slO_nolst)]; exact h1, by rw [upd_ne (ne h2 (fun _ z => by cases z))]; exact h2⟩
theorem CodL.put {K : PySem.W.Frag} {H : Hp} {C CW l x wx p : Addr} {o : HO} {zs : List V} {rs : List ActR} {many given : Int} {sts : List Sta} (h : CodL K H C CW l x wx rs many given sts) (hp : H p = some (.lst zs)) (hl : l ≠ p) (hW : WldAt K (upd H p o) CW wx rs) : CodL K (upd H p o) C CW l x wx rs many given sts := by
  obtain ⟨dx, xs, h1, _, h3, h4⟩ := h
  exact ⟨dx, xs, Slt.put h1 hp, hW, by rw [upd_ne hl]; exact h3, h4.mv (Mv.set (S := [p]) hp (by simp))⟩
theorem Bag.ne_sta {K : PySem.W.Frag} {H : Hp} {b l : Addr} {xs : List V} {sts : List Sta} (hB : Bag H b) (hl : H l = some (.lst xs)) (hx : Ims K H xs (sts.map Sta.d)) : l ≠ b := by
  rintro rfl
  obtain ⟨c, s, m, k, ns, h1, _⟩ := hB
  rw [h1] at hl
  have := Option.some.inj hl
  injection this with this
  subst this
  cases sts with
  | nil => have := hx.nilD; cases this
  | cons st sts =>
    obtain ⟨v, vs, e, h2, _⟩ := hx.invD
    cases e
    obtain ⟨y, e1, es, hst⟩ := sta_tup st
    rw [hst] at h2
    obtain ⟨a, xs, e, _⟩ := h2.tupI
    cases e
section
variable {K : PySem.W.Frag} {H H' : Hp} {b C CW x wx : Addr} {rs : List ActR} {many given : Int} {sts : List Sta}
theorem CodAt.mv (h : CodAt K H C CW x wx rs many given sts) (m : Mv [] H H') : CodAt K H' C CW x wx rs many given sts := by
  obtain ⟨dx, l, xs, h1, h2, h3, h4⟩ := h
  exact ⟨dx, l, xs, Slt.mv h1 m, h2.mv m, m.same _ _ h3, h4.mv m⟩
theorem CodL.dr {l : Addr} (h : CodL K H C CW l x wx rs many given sts) (m : Dr b H H') (hB : Bag H b) : CodL K H' C CW l x wx rs many given sts := by
  obtain ⟨dx, xs, h1, h2, h3, h4⟩ := h
  exact ⟨dx, xs, Slt.dr h1 m hB, h2.dr m hB, m.get (hB.ne_sta h3 h4) h3, h4.mv m.mv⟩
theorem CodAt.dr (h : CodAt K H C CW x wx rs many given sts) (m : Dr b H H') (hB : Bag H b) : CodAt K H' C CW x wx rs many given sts := by
  obtain ⟨dx, l, xs, h1, h2, h3, h4⟩ := h
  exact ⟨dx, l, xs, Slt.dr h1 m hB, h2.dr m hB, m.get (hB.ne_sta h3 h4) h3, h4.mv m.mv⟩
end
def sp_Code (K : PySem.W.Frag) (C CW : Addr) : Sp := fun vs H Q _ => ∃ (x dx wx sl : Addr) (rs : List ActR) (many given : Int) (xs : List V) (sts : List Sta) (H0 : Hp), vs = [.ref x, .ref wx, .int many, .int given, .ref sl] ∧ H = upd (upd H0 dx (.own x)) x (.ins C dx []) ∧ H0 x = none ∧ H0 dx = none ∧ dx ≠ x ∧
  WldAt K H0 CW wx rs ∧ WOk rs ∧ 0 ≤ many ∧ many ≤ 24 ∧ 0 ≤ given ∧ given ≤ many ∧ (H0 sl = some (.lst xs) ∨ SqT K H0 sl xs) ∧ Ims K H0 xs (sts.map Sta.d) ∧ (∀ st ∈ sts, st.ok rs many sts.length) ∧ 0 < sts.length ∧ sts.length ≤ 1000 ∧
  ∀ l H', Mv [] H0 H' → H0 l = none → CodL K H' C CW l x wx rs many given (sts.map Sta.ord) → Q .non H'
theorem Mv.seq {K : PySem.W.Frag} {H H' : Hp} {a : Addr} {xs : List V} (m : Mv [] H H') (h : SqL K H a xs ∨ SqT K H a xs) : SqL K H' a xs ∨ SqT K H' a xs := h.imp (fun h => m.same.seq h) fun h => m.sqT h
section
variable {P : Program} {w : World} {K : PySem.W.Frag} {mg : Str → Option Value} {base : Heap}
end
end Fm
namespace Fm
open PySem PySem.Spec PyProof.Rows L2 SlX
local macro_rules | `(tactic| walk_at "nn") => `(tactic| dsimp only [tC, tNil, tCons, tCB, tCall, gName, tSeq, tAsg, tPar, tDrop, tRet])
local macro_rules | `(tactic| walk_at "nc") => `(tactic| dsimp only [tC, tNil, tCons, tCB, tCall])
/-- code.statement(i): the statement, or NoPlace -/
def sp_stAt (K : PySem.W.Frag) (C CW D : Addr) : Sp := fun vs H Q E => ∃ (x wx : Addr) (rs : List ActR) (many given : Int) (sts : List Sta) (i : Int), vs = [.ref x, .int i] ∧ CodAt K H C CW x wx rs many given sts ∧
  (0 ≤ i → i < sts.length → ∀ v st H', sts[i.toNat]? = some st → Mv [] H H' → Im K H' v st.d → Q v H') ∧
  (¬ (0 ≤ i ∧ i < sts.length) → ∀ d H', Mv [] H H' → H' d = none → E (.ref D) (some d) (upd H' d (.xd [("place", .int i)])))
/-! what a place shows -/
def isSet (sts : List Sta) (p : Int) : Bool := match sts[p.toNat]? with
  | some (.set _ _) => true
  | _ => false
def stp (sts : List Sta) (p : Int) : Int := match sts[p.toNat]? with
  | some (.set _ g) => g
  | _ => p
def orb (sts : List Sta) (p : Int) : Nat → Int
  | 0 => p
  | n + 1 => stp sts (orb sts p n)
/-- r is what the place p shows -/
def Shows (sts : List Sta) (p : Int) : Option Int → Prop
  | some q => ∃ n, orb sts p n = q ∧ isSet sts q = false
  | none => ∀ n, isSet sts (orb sts p n) = true
theorem stp_no {sts : List Sta} {p : Int} (h : isSet sts p = false) : stp sts p = p := by
  unfold isSet at h
  unfold stp
  split
  · rename_i e
    rw [e] at h
    cases h
  · rfl
theorem orb_stay {sts : List Sta} {p : Int} {n : Nat} (h : isSet sts (orb sts p n) = false) : ∀ m, orb sts p (n + m) = orb sts p n
  | 0 => rfl
  | m + 1 => by
    show stp sts (orb sts p (n + m)) = _
    rw [orb_stay h m, stp_no h]
theorem shows_one {sts : List Sta} {p : Int} : ∀ {r s : Option Int}, Shows sts p r → Shows sts p s → r = s
  | none, none, _, _ => rfl
  | some q, some q', ⟨n, h1, h2⟩, ⟨m, k1, k2⟩ => by
    rcases Nat.le_total n m with h | h
    · have := orb_stay (sts := sts) (p := p) (n := n) (by rw [h1]; exact h2) (m - n)
      rw [Nat.add_sub_cancel' h, k1, h1] at this
      rw [this]
    · have := orb_stay (sts := sts) (p := p) (n := m) (by rw [k1]; exact k2) (n - m)
      rw [Nat.add_sub_cancel' h, k1, h1] at this
      rw [this]
  | some q, none, ⟨n, h1, h2⟩, k => by
    have := k n
    rw [h1, h2] at this
    cases this
  | none, some q, k, ⟨n, h1, h2⟩ => by
    have := k n
    rw [h1, h2] at this
    cases this
theorem orb_add {sts : List Sta} {p : Int} (n : Nat) : ∀ m, orb sts p (n + m) = orb sts (orb sts p n) m
  | 0 => rfl
  | m + 1 => by
    show stp sts (orb sts p (n + m)) = stp sts (orb sts (orb sts p n) m)
    rw [orb_add n m]
theorem orb_loop {sts : List Sta} {p : Int} {i n : Nat} (hi : i < n) (e : orb sts p n = orb sts p i) (h : ∀ m, m < n → isSet sts (orb sts p m) = true) : ∀ m, isSet sts (orb sts p m) = true := by
  intro m
  induction m using Nat.strongRecOn with
  | _ m ih =>
    by_cases hm : m < n
    · exact h m hm
    · have : orb sts p m = orb sts p (i + (m - n)) := by
        rw [orb_add i, ← e, ← orb_add n, Nat.add_sub_cancel' (by omega)]
      rw [this]
      exact ih _ (by omega)
theorem pigeon : ∀ {n : Nat} {xs : List Int}, xs.Nodup → (∀ x ∈ xs, 0 ≤ x ∧ x < n) → xs.length ≤ n
  | 0, xs, _, h => by
    cases xs with
    | nil => exact Nat.le_refl _
    | cons x xs =>
      have := h x (by simp)
      omega
  | n + 1, xs, nd, h => by
    have h1 : (xs.erase (n : Int)).length ≤ n := pigeon (nd.erase _) fun x hx => by
      have hx' := (nd.mem_erase_iff).mp hx
      have := h x hx'.2
      have := hx'.1
      omega
    have h2 := List.length_erase (a := (n : Int)) (l := xs)
    split at h2 <;> omega
theorem isSet_some {sts : List Sta} {p : Int} (h : isSet sts p = true) : ∃ chs g, sts[p.toNat]? = some (.set chs g) ∧ stp sts p = g := by
  unfold isSet at h
  unfold stp
  split at h
  · rename_i chs g e
    rw [e]
    exact ⟨chs, g, rfl, rfl⟩
  · cases h
def optV : Option Int → V
  | some i => .int i
  | none => .non
def sp_showing (K : PySem.W.Frag) (C CW D : Addr) : Sp := fun vs H Q E => ∃ (x wx : Addr) (rs : List ActR) (many given : Int) (sts : List Sta) (i : Int), vs = [.ref x, .int i] ∧ CodAt K H C CW x wx rs many given sts ∧ sts.length ≤ 1000 ∧ (∀ chs g, Sta.set chs g ∈ sts → 0 ≤ g ∧ g < sts.length) ∧
  (0 ≤ i → i < sts.length → ∀ r H', Shows sts i r → Mv [] H H' → Q (optV r) H') ∧
  (¬ (0 ≤ i ∧ i < sts.length) → ∀ d H', Mv [] H H' → H' d = none → E (.ref D) (some d) (upd H' d (.xd [("place", .int i)])))
section
variable {P : Program} {w : World} {K : PySem.W.Frag} {mg : Str → Option Value} {base : Heap}
end
end Fm
namespace Fm
open PySem PySem.Spec PyProof.Rows L2 SlX
local macro_rules | `(tactic| walk_at "nn") => `(tactic| dsimp only [tC, tNil, tCons, tCB, tCall, gName, tSeq, tAsg, tPar, tDrop, tRet])
local macro_rules | `(tactic| walk_at "nc") => `(tactic| dsimp only [tC, tNil, tCons, tCB, tCall])
def fit (i : Int) : Prop := i.natAbs < 10 ^ 40
/-- values that can be counted -/
structure VsOk (us : List Tm) : Prop where
  ok : Tm.oks fit us
  dp : Tm.deps us ≤ 50
  nd : Tm.nod us ≤ 10000
/-- terms over so many variables that can be counted -/
structure TsOk (many : Int) (ts : List Tm) : Prop where
  ok : Tm.oks (fun i => 0 ≤ i ∧ i < many) ts
  dp : Tm.deps ts ≤ 50
  nd : Tm.nod ts ≤ 10000
theorem Tm.nod_mem {t : Tm} {ts : List Tm} (h : t ∈ ts) : Tm.nod [t] ≤ Tm.nod ts := by
  have h1 := Tm.size_le h
  have h2 := Tm.lv_mem h
  simp only [Tm.nod, Tm.sizes, Tm.lvs]
  omega
theorem VsOk.one {us : List Tm} (h : VsOk us) {t : Tm} (ht : t ∈ us) : Tm.oks fit [t] ∧ Tm.deps [t] ≤ 50 ∧ Tm.nod [t] ≤ 10000 := by
  refine ⟨⟨Tm.oks_iff.mp h.ok t ht, trivial⟩, ?_, Nat.le_trans (Tm.nod_mem ht) h.nd⟩
  have := Tm.deps_le.mp h.dp t ht
  simp only [Tm.deps]
  omega
theorem fit_of {i many : Int} (hm : many ≤ 1000) (h : 0 ≤ i ∧ i < many) : i.natAbs < 10 ^ 40 := Nat.lt_of_lt_of_le (show i.natAbs < 1000 by omega) (by decide)
theorem look_vat {K : PySem.W.Frag} {H : Hp} {c : Addr} {ys : List V} {us : List Tm} (hS : SqL K H c ys ∨ SqT K H c ys) (hy : Ims K H ys (Tm.ds us)) : Look1 K H (.ref c) (fun i => 0 ≤ i ∧ i < us.length) (vat us) := by
  have key : ∀ i : Int, 0 ≤ i ∧ i < us.length → 0 ≤ i ∧ ∃ v, ys[i.toNat]? = some v ∧ Im K H v (vat us i).d := fun i hi => by
    obtain ⟨v, hv, hm⟩ := hy.getD (i := i.toNat) (d := (vat us i).d) (by rw [Tm.ds_map, List.getElem?_map, vat_some hi.1 hi.2]; rfl)
    exact ⟨hi.1, v, hv, hm⟩
  refine ⟨c, rfl, ?_⟩
  rcases hS with h | h
  · exact .inl ⟨ys, h, key⟩
  · exact .inr (.inl ⟨ys, h, key⟩)
def sp_putAll (K : PySem.W.Frag) (d : Nat) : Sp := fun vs H Q _ => ∃ (a c : Addr) (xs ys : List V) (ts us : List Tm), vs = [.ref a, .ref c] ∧ (SqL K H a xs ∨ SqT K H a xs) ∧ Ims K H xs (Tm.ds ts) ∧ (SqL K H c ys ∨ SqT K H c ys) ∧ Ims K H ys (Tm.ds us) ∧
  Tm.oks (fun i => 0 ≤ i ∧ i < us.length) ts ∧ Tm.deps ts < d ∧ ts.length ≤ 1000 ∧ ∀ p zs H', Mv [] H H' → SqT K H' p zs → Ims K H' zs (Tm.ds (ts.map (Tm.put (vat us)))) → Q (.ref p) H'
def sp_sizePut (K : PySem.W.Frag) : Sp := fun vs H Q _ => ∃ (a c : Addr) (xs ys : List V) (ts us : List Tm), vs = [.ref a, .ref c] ∧ (SqL K H a xs ∨ SqT K H a xs) ∧ Ims K H xs (Tm.ds ts) ∧ (SqL K H c ys ∨ SqT K H c ys) ∧ Ims K H ys (Tm.ds us) ∧
  TsOk us.length ts ∧ VsOk us ∧ us.length ≤ 1000 ∧ ∀ H', Mv [] H H' → Q (.int (Tm.sizes (ts.map (Tm.put (vat us))))) H'
theorem sum_nat : ∀ ns : List Nat, (ns.map fun n : Nat => (n : Int)).sum = ((ns.sum : Nat) : Int)
  | [] => rfl
  | n :: ns => by
    rw [List.map_cons, List.sum_cons, List.sum_cons, sum_nat ns]
    omega
section
variable {P : Program} {w : World} {K : PySem.W.Frag} {mg : Str → Option Value} {base : Heap}
theorem ok_put_all (T : TX K mg) (d : Nat) {k : Nat} : FnOk P w K mg base CX0 (k + d + 2) T.d_put_all.f T.d_put_all.fd P_put_all (sp_putAll K d) := by
  have G_put : FnOk P w K mg base CX0 (d + 1) T.d_put.f T.d_put.fd P_put (sp_put K d) := ok_put T d
  refine T.d_put_all.F.ok sc_put_all (fun vs H Q E h => ?_) (fun cdv A outer s H vs Q E hr h => ?_)
  · obtain ⟨_, _, _, _, _, _, rfl, _⟩ := h
    rfl
  · obtain ⟨a, c, xs, ys, ts, us, rfl, hS, hxs, hU, hys, hok, hdp, hln, q⟩ := h
    refine ⟨_, (pss_one (ps_ret (pe_callTy (r := rTupOf K) call_tupG (by rfl) T.b_tuple bt_tuple (pa_cons (pe_lc (own := [("term", 2)]) (g := gName 2) (by rfl) sc_put_all.nd (pi_seq (pv 0)) (blkOk_by (own := [("term", 2)]) (N := N_put_all) (sc := defScope s_put_all) (by decide +kernel)) (fun _ _ _ _ _ => pg_name (i := 2) sc_put_all.nd rfl (Or.inl rfl)) (fun _ _ _ _ _ => pts_nil) (fun _ _ _ _ _ => (pe_call G_put (hr.mono (by omega)) rfl T.d_put.g T.d_put.F.kp T.d_put.b .nil pass0 (pa_cons (pv 2) (pa_cons (pv 1) pa_nil))))) pa_nil)))), ?_⟩
    have hl : xs.length = ts.length := by rw [hxs.length, Tm.ds_map, List.length_map]
    refine ⟨.ref a, rfl, a, rfl, ?_⟩
    refine lc_seq (xs := xs) hS (fun i D H1 => ∃ zs, H1 D = some (.lst zs) ∧ Ims K H1 zs (Tm.ds ((ts.take i).map (Tm.put (vat us)))) ∧ Mv [] H H1)
      (fun D nD => ⟨[], upd_same, Ims.nil, .new nD⟩) (fun i D H1 nD h1 => h1.choose_spec.2.2) (fun D nD i x H1 hx h1 => ?_) (fun D H1 nD h1 => ?_)
    · obtain ⟨zs, e1, i1, m1⟩ := h1
      obtain ⟨xd, hxd, him⟩ := hxs.get hx
      rw [Tm.ds_map, List.getElem?_map] at hxd
      obtain ⟨t, ht, rfl⟩ := Option.map_eq_some_iff.mp hxd
      have hmem := List.mem_of_getElem? ht
      have hi := (List.getElem?_eq_some_iff.mp ht).1
      refine ⟨rfl, x, rfl, .ref c, rfl, x, .ref c, t, _, vat us, rfl, him.mv m1, Tm.oks_iff.mp hok t hmem, ?_, (look_vat hU hys).mv m1, fun v H2 m2 h2 => ?_⟩
      · exact Nat.lt_of_le_of_lt (Tm.deps_le.mp (Nat.le_refl _) t hmem) hdp
      have e2 := m2.same _ _ e1
      refine ⟨_, e2, ?_, zs ++ [v], upd_same, ?_, (m1.trans m2).wr nD⟩
      · rw [i1.length, Tm.ds_map, List.length_map, List.length_map, List.length_take]
        exact small1000 (by omega)
      · rw [List.take_add_one, ht]
        rw [show Tm.ds (List.map (Tm.put (vat us)) (ts.take i ++ (some t).toList)) = Tm.ds ((ts.take i).map (Tm.put (vat us))) ++ [(t.put (vat us)).d] by simp [Tm.ds_map]]
        exact ((i1.mv m2).append (Ims.cons h2 Ims.nil)).mv (Mv.set (S := [D]) e2 (by simp))
    · obtain ⟨zs, e1, i1, m1⟩ := h1
      rw [hl, List.take_length] at i1
      walk_at "nc"
      refine rd_tupOf (.inl (.inl e1)) fun p2 H2 m2 e2 => q p2 zs H2 (m1.trans m2) e2 (i1.mv m2)
end
end Fm
/-! comprehensions over things: which are kept, and what becomes of each -/
namespace Fm
open PySem PySem.Spec PyProof.Rows L2
theorem paired_snoc {α β : Type} {F : α → β → Prop} : ∀ {l₁ : List α} {l₂ : List β} {a : α} {b : β}, Paired F l₁ l₂ → F a b → Paired F (l₁ ++ [a]) (l₂ ++ [b])
  | _, _, _, _, .nil, h => .cons h .nil
  | _, _, _, _, .cons x t, h => .cons x (paired_snoc t h)
theorem paired_len {α β : Type} {F : α → β → Prop} : ∀ {l₁ : List α} {l₂ : List β}, Paired F l₁ l₂ → l₁.length = l₂.length
  | _, _, .nil => rfl
  | _, _, .cons _ t => by simp [paired_len t]
theorem paired_bl {f : Th → Bool} : ∀ {ys : List V} {ts : List Th}, Paired (fun y t => y = V.bl (f t)) ys ts → ys = (ts.map f).map V.bl
  | _, _, .nil => rfl
  | _, _, .cons h t => by rw [h, paired_bl t]; rfl
theorem paired_is {K : PySem.W.Frag} {b : Addr} {H : Hp} {f : Th → Th} : ∀ {ys : List V} {ts : List Th}, Paired (fun y t => Is K b H y (f t)) ys ts → IsAll K b H ys (ts.map f)
  | _, _, .nil => .nil
  | _, _, .cons h t => .cons h (paired_is t)
theorem lc_th {K : PySem.W.Frag} {a b : Addr} {xs : List V} {ts : List Th} {g : TG} {tt : TT} {te : TE} {vs : List Nat} {σ : L2.St} {H : Hp} {Qd : Addr → Hp → Prop} (c : Th → Bool) (Rel : V → Th → Prop) (hS : SqL K H a xs ∨ SqT K H a xs) (hI : IsAll K b H xs ts) (hlen : ts.length ≤ 90000)
    (hs : ∀ x t H' (Q : VK) (R : Hp → Prop), t ∈ ts → Is K b H x t → Mv [] H H' → (c t = true → ∀ y H4, Rel y t → Mv [] H' H4 → Q y H4) → (c t = false → ∀ H4, Mv [] H' H4 → R H4) →
      g x (wipe σ vs) H' fun σ2 H2 => wipe σ2 vs = wipe σ vs ∧ tt σ2 H2 fun k H3 => if k = true then te σ2 H3 Q else R H3)
    (hd : ∀ D ys H', H D = none → H' D = some (.lst ys) → Paired Rel ys (ts.filter c) → Mv [] H H' → Qd D H') :
    ((∃ xs, SqL K H a xs) ∧ ∀ D, H D = none → ∃ W : Nat → Nat → Hp → Prop, (∃ m, W 0 m (upd H D (.lst []))) ∧ ∀ i m H, W i m H →
      ((Itl K a).stop i H ∧ Qd D H) ∨ ((Itl K a).go i H ∧ ∃ Nx : Hp → Prop, (∀ H', Nx H' → ∃ m', m' < m ∧ W (i + 1) m' H') ∧ ∀ x H', (Itl K a).yld i H x H' → g x (wipe σ vs) H' fun σ2 H2 => wipe σ2 vs = wipe σ vs ∧ tt σ2 H2 fun k H3 =>
        if k = true then te σ2 H3 fun y H4 => ∃ acc, H4 D = some (.lst acc) ∧ acc.length < sizeLine ∧ Nx (upd H4 D (.lst (acc ++ [y]))) else Nx H3)) ∨
    ((∃ xs, SqT K H a xs) ∧ ∀ D, H D = none → ∃ W : Nat → Nat → Hp → Prop, (∃ m, W 0 m (upd H D (.lst []))) ∧ ∀ i m H, W i m H →
      ((Itt K a).stop i H ∧ Qd D H) ∨ ((Itt K a).go i H ∧ ∃ Nx : Hp → Prop, (∀ H', Nx H' → ∃ m', m' < m ∧ W (i + 1) m' H') ∧ ∀ x H', (Itt K a).yld i H x H' → g x (wipe σ vs) H' fun σ2 H2 => wipe σ2 vs = wipe σ vs ∧ tt σ2 H2 fun k H3 =>
        if k = true then te σ2 H3 fun y H4 => ∃ acc, H4 D = some (.lst acc) ∧ acc.length < sizeLine ∧ Nx (upd H4 D (.lst (acc ++ [y]))) else Nx H3)) := by
  have hxl := hI.length
  refine lc_seq hS (fun i D H1 => ∃ ys, H1 D = some (.lst ys) ∧ Paired Rel ys ((ts.take i).filter c) ∧ Mv [] H H1)
    (fun D nD => ⟨[], upd_same, .nil, .new nD⟩) (fun i D H1 nD h1 => h1.choose_spec.2.2) (fun D nD i x H1 hx h1 => ?_) (fun D H1 nD h1 => ?_)
  · obtain ⟨ys, e1, i1, m1⟩ := h1
    obtain ⟨t, ht, him⟩ := hI.get hx
    have hil := (List.getElem?_eq_some_iff.mp ht).1
    have htk : ts.take (i + 1) = ts.take i ++ [t] := by rw [List.take_add_one, ht]; rfl
    refine hs x t H1 _ _ (List.mem_of_getElem? ht) him m1 (fun hc y H4 hy m4 => ?_) (fun hc H3 m3 => ?_)
    · have e4 := m4.same _ _ e1
      refine ⟨ys, e4, ?_, ys ++ [y], upd_same, ?_, (m1.trans m4).wr nD⟩
      · rw [paired_len i1]
        have h3 : ((ts.take i).filter c).length ≤ (ts.take i).length := List.length_filter_le _ _
        rw [List.length_take] at h3
        exact Nat.lt_of_le_of_lt (show _ ≤ 90000 by omega) (by decide)
      · rw [htk, List.filter_append]
        simp only [List.filter_cons, hc, if_true, List.filter_nil]
        exact paired_snoc i1 hy
    · refine ⟨ys, m3.same _ _ e1, ?_, m1.trans m3⟩
      rw [htk, List.filter_append]
      simp only [List.filter_cons, hc, Bool.false_eq_true, if_false, List.filter_nil, List.append_nil]
      exact i1
  · obtain ⟨ys, e1, i1, m1⟩ := h1
    rw [hxl, List.take_length] at i1
    exact hd D ys H1 nD e1 i1 m1
end Fm
/-! recipes: made of anything -/
namespace Fm
open PySem PySem.Spec PyProof.Rows L2 SlX
local macro_rules | `(tactic| walk_at "nn") => `(tactic| dsimp only [tC, tNil, tCons, tCB, tCall, gName, tSeq, tAsg, tPar, tDrop, tRet])
local macro_rules | `(tactic| walk_at "nc") => `(tactic| dsimp only [tC, tNil, tCons, tCB, tCall])
/-- what is handed in for the terms of a recipe -/
inductive RcV (K : PySem.W.Frag) (b C : Addr) (H : Hp) : V → Option (List V × List Th) → Prop
  | lst {a : Addr} {xs : List V} {ts : List Th} : a ≠ b → H a = some (.lst xs) → IsAll K b H xs ts → RcV K b C H (.ref a) (some (xs, ts))
  | tup {a : Addr} {xs : List V} {ts : List Th} : SqT K H a xs → IsAll K b H xs ts → RcV K b C H (.ref a) (some (xs, ts))
  | odd {v : V} {t : Th} : Is K b H v t → isLstT t = false → isTupT t = false → RcV K b C H v none
  | ins {a dx : Addr} {vs : List (Option V)} : Slt H a C dx vs → RcV K b C H (.ref a) none
/-- which argument of Recipe(many, terms) is not as it must be -/
def recWrong (tm : Th) (rows : Option (List V × List Th)) : Option Nat :=
  match tm with
  | .int many => if many < 0 then some 0 else match rows with
    | some r => if (r.2.all fun t => isTerm t && under many t) = true then none else some 1
    | none => some 1
  | _ => some 0
/-- a Recipe at x -/
def RecAt (K : PySem.W.Frag) (H : Hp) (C x : Addr) (many : Int) (ts : List Tm) : Prop := ∃ dx p xs, Slt H x C dx [some (.ref p), some (.int many)] ∧ SqT K H p xs ∧ Ims K H xs (Tm.ds ts)
section
variable {K : PySem.W.Frag} {H H' : Hp} {b C x : Addr}
theorem RcV.mv0 {v : V} {o : Option (List V × List Th)} (h : RcV K b C H v o) (m : Mv [] H H') : RcV K b C H' v o := by
  cases h with
  | lst h0 h1 h2 => exact .lst h0 (m.same _ _ h1) (h2.mv0 m)
  | tup h1 h2 => exact .tup (m.sqT h1) (h2.mv0 m)
  | odd h h1 h2 => exact .odd (h.mv0 m) h1 h2
  | ins h => exact .ins (Slt.mv h m)
theorem RecAt.mv {many : Int} {ts : List Tm} (h : RecAt K H C x many ts) (m : Mv [] H H') : RecAt K H' C x many ts := by
  obtain ⟨dx, p, xs, h1, h2, h3⟩ := h
  exact ⟨dx, p, xs, Slt.mv h1 m, m.sqT h2, h3.mv m⟩
theorem RecAt.dr {many : Int} {ts : List Tm} (h : RecAt K H C x many ts) (m : Dr b H H') (hB : Bag H b) : RecAt K H' C x many ts := by
  obtain ⟨dx, p, xs, h1, h2, h3⟩ := h
  exact ⟨dx, p, xs, Slt.dr h1 m hB, m.mv.sqT h2, h3.mv m.mv⟩
theorem rd_isTX {v : V} {o : Option (List V × List Th)} {p : Addr} {Q : VK} (h : RcV K b C H v o) (hp : H p = some (.tup [.ty "list", .ty "tuple"])) (hc : SCls K C) (hi : SIsi K C) (hn : PySem.W.kitAny K (.ref C) [.type "list", .type "tuple"] = some false) (q : Q (.bl o.isSome) H) : rIsiTX K [v, .ref p] H Q := by
  have key : (∃ t c, TyX K H v t ∧ PySem.W.kitAny K t [.type "list", .type "tuple"] = some c ∧ c = o.isSome) ∨ ∃ a dx vs, v = .ref a ∧ Slt H a C dx vs ∧ o = none := by
    cases h with
    | lst h0 h1 h2 => exact .inl ⟨_, true, .base (.lst h1), kitAny_cons (b := true) (kit_ty (b := "list") (by decide +kernel)) (fun z => by cases z) (fun _ => rfl), rfl⟩
    | tup h1 h2 => exact .inl ⟨_, true, tyx_sqT h1, kitAny_cons (r := true) (kit_ty (a := "tuple") (b := "list") (r := false) (by decide +kernel)) (fun _ => kitAny_cons (b := true) (kit_ty (by decide +kernel)) (fun z => by cases z) (fun _ => rfl)) (fun z => by cases z), rfl⟩
    | @odd _ t h h1 h2 =>
      refine .inl ⟨_, false, tyx_is h, kitAny_cons (kit_ty (kit_lst t)) (fun _ => kitAny_cons (kit_ty (kit_tup t)) (fun _ => rfl) (fun e => ?_)) (fun e => ?_), rfl⟩
      · rw [h2] at e
        cases e
      · rw [h1] at e
        cases e
    | ins h => exact .inr ⟨_, _, _, rfl, h, rfl⟩
  rcases key with ⟨t, c, ht, hk, rfl⟩ | ⟨a, dx, vs, rfl, hs, rfl⟩
  · exact .inl ⟨_, p, _, t, [.type "list", .type "tuple"], o.isSome, rfl, hp, .cons (.ty "list") (.cons (.ty "tuple") .nil), ht, hk, q⟩
  · exact .inr ⟨a, C, dx, vs, p, _, [.type "list", .type "tuple"], false, rfl, hp, .cons (.ty "list") (.cons (.ty "tuple") .nil), hs, hc, hi, hn, q⟩
end
/-- tuple(x) of a list or a tuple -/
theorem rd_tupSq {K : PySem.W.Frag} {H : Hp} {a : Addr} {xs : List V} {Q : VK} (h : SqL K H a xs ∨ SqT K H a xs) (q : ∀ p H', Mv [] H H' → SqT K H' p xs → Q (.ref p) H') : rTupOf K [.ref a] H Q :=
  h.elim (fun h => rd_tupOf h q) fun h => ⟨a, xs, rfl, .inr ⟨h, q a H .refl h⟩⟩
def sp_RecT (K : PySem.W.Frag) (C EW : Addr) : Sp := fun vs H Q E => ∃ (x dx : Addr) (mv tv : V) (b : Addr) (tm : Th) (rows : Option (List V × List Th)) (H0 : Hp), vs = [.ref x, mv, tv] ∧ H = upd (upd H0 dx (.own x)) x (.ins C dx []) ∧ H0 x = none ∧ H0 dx = none ∧ dx ≠ x ∧
  Is K b H0 mv tm ∧ RcV K b C H0 tv rows ∧ (∀ r, rows = some r → r.2.length ≤ 90000 ∧ ∀ t ∈ r.2, t.cnt ≤ 90000) ∧
  (∀ k : Nat, recWrong tm rows = some k → ∀ dd H', Mv [] H0 H' → H' dd = none → E (.ref EW) (some dd) (upd H' dd (.xd [("place", .int (k : Nat))]))) ∧
  ∀ many r, tm = .int many → rows = some r → recWrong tm rows = none → ∀ p H', Mv [] H0 H' → Slt H' x C dx [some (.ref p), some (.int many)] → SqT K H' p r.1 → Q .non H'
section
variable {P : Program} {w : World} {K : PySem.W.Frag} {mg : Str → Option Value} {base : Heap}
theorem ok_Recipe___init__ (T : TX K mg) (Y : TY P K mg) {k : Nat} : FnOk P w K mg base (CX P w) (k + 5) T.d_Recipe___init__.f T.d_Recipe___init__.fd P_Recipe___init__ (sp_RecT K T.C_Recipe Y.C_Wrong) := by
  have G_is_integer : FnOk P w K mg base CX0 1 T.d_is_integer.f T.d_is_integer.fd P_is_integer (sp_kind K isWhole) := ok_is_integer T
  have G_is_term_over : FnOk P w K mg base CX0 3 T.d_is_term_over.f T.d_is_term_over.fd P_is_term_over (sp_termOver K) := ok_is_term_over T
  refine T.d_Recipe___init__.F.okX sc_Recipe___init__ (fun vs H Q E h => ?_) (fun cdv A outer s H vs Q E hr h => ?_)
  · obtain ⟨_, _, _, _, _, _, _, _, rfl, _⟩ := h
    rfl
  · obtain ⟨x, dx, mv, tv, b, tm, rows, H0, rfl, eH, nx, ndx, hne, hm0, hT0, hbd, qW, q⟩ := h
    have hu65 := hu65_of hr
    have hu64 := hr.units
    refine ⟨_, (pss_cons (ps_if (PW.pt (pw_or (pt_not (pt_val (pe_call G_is_integer (hr.mono (by omega)) rfl T.d_is_integer.g T.d_is_integer.F.kp T.d_is_integer.b .nil pass0 (pa_cons (pv 1) pa_nil)))) (pw_or1 (pt_cmpR op_lt (pv 1) pe_int (nomark _))))) (pss_one (ps_raise rfl (takes_of rfl rfl rfl rfl) (pmk_x Y.x_Wrong hr (pa_cons pe_int pa_nil)))) pss_nil) (pss_cons (ps_if (PW.pt (pw_or (pt_not (pt_val (pe_callB (r := rIsiTX K) call_isiTX (by rfl) T.b_isinstance bt_isinstance (pa_cons (pv 2) (pa_cons (pe_tup (pa_cons (pe_ty T.b_list bt_list) (pa_cons (pe_ty T.b_tuple bt_tuple) pa_nil))) pa_nil))))) (pw_or1 (pt_not (pt_val (pe_callB (r := rAll K) (cr_all rfl) (by rfl) T.b_all bt_all (pa_cons (pe_lc (own := [("term", 3)]) (g := gName 3) (by rfl) sc_Recipe___init__.nd (pi_seq (pv 2)) (blkOk_by (own := [("term", 3)]) (N := N_Recipe___init__) (sc := defScope s_Recipe___init__) (by decide +kernel)) (fun _ _ _ _ _ => pg_name (i := 3) sc_Recipe___init__.nd rfl (Or.inl rfl)) (fun _ _ _ _ _ => pts_nil) (fun _ _ _ _ _ => (pe_call G_is_term_over (hr.mono (by omega)) rfl T.d_is_term_over.g T.d_is_term_over.F.kp T.d_is_term_over.b .nil pass0 (pa_cons (pv 1) (pa_cons (pv 3) pa_nil))))) pa_nil))))))) (pss_one (ps_raise rfl (takes_of rfl rfl rfl rfl) (pmk_x Y.x_Wrong hr (pa_cons pe_int pa_nil)))) pss_nil) (pss_cons (ps_sl (pv 0) (pv 1)) (pss_one (ps_sl (pv 0) (pe_callTy (r := rTupOf K) call_tupG (by rfl) T.b_tuple bt_tuple (pa_cons (pv 2) pa_nil))))))), ?_⟩
    have mH : Mv [] H0 H := by
      rw [eH]
      exact (Mv.new ndx).wr nx
    have hx : H x = some (.ins T.C_Recipe dx []) := by rw [eH]; exact upd_same
    have hdx : H dx = some (.own x) := by rw [eH, upd_ne hne]; exact upd_same
    clear eH
    have hm := hm0.mv0 mH
    have hT := hT0.mv0 mH
    have wrong : ∀ (k : Nat) H1, recWrong tm rows = some k → Mv [] H H1 → ∀ dd, H1 dd = none → E (.ref Y.C_Wrong) (some dd) (upd H1 dd (.xd [("place", .int (k : Nat))])) := fun k H1 hk m1 dd nd => qW k hk dd H1 (mH.trans m1) nd
    refine ⟨mv, rfl, mv, tm, b, rfl, hm, fun H1 m1 => ⟨_, rfl, ?_⟩⟩
    cases htm : isWhole tm with
    | false =>
      refine ⟨.int 0, rfl, fun dd nd => wrong 0 H1 ?_ m1 dd nd⟩
      cases tm <;> first | rfl | cases htm
    | true =>
      obtain ⟨many, rfl⟩ : ∃ i, tm = .int i := by
        cases tm <;> first | exact ⟨_, rfl⟩ | cases htm
      cases (show mv = V.int many from hm)
      refine ⟨.int many, rfl, many, 0, rfl, rfl, _, rfl, ite2 (fun e0 => ?_) (fun e0 => ?_)⟩
      · have h0 : many < 0 := by simpa using e0
        refine ⟨.int 0, rfl, fun dd nd => wrong 0 H1 ?_ m1 dd nd⟩
        show (if many < 0 then some 0 else _) = _
        rw [if_pos h0]
      have h0 : ¬ many < 0 := by simpa using e0
      refine ⟨tv, rfl, (by decide : 2 ≤ sizeLine), fun p5 np5 => ?_⟩
      have m5 : Mv [] H (upd H1 p5 (.tup [.ty "list", .ty "tuple"])) := m1.trans (.new np5)
      have e5 : upd H1 p5 (.tup [.ty "list", .ty "tuple"]) p5 = some (.tup [.ty "list", .ty "tuple"]) := upd_same
      generalize upd H1 p5 (.tup [.ty "list", .ty "tuple"]) = H5 at m5 e5 ⊢
      have hT5 := hT.mv0 m5
      walk_at "nn"
      refine rd_isTX hT5 e5 T.c_Recipe T.is_Recipe (kitAny_no T.nl_Recipe T.nt_Recipe) ?_
      refine ⟨_, rfl, ?_⟩
      cases hrows : rows with
      | none =>
        refine ⟨.int 1, rfl, fun dd nd => wrong 1 H5 ?_ m5 dd nd⟩
        rw [hrows]
        show (if many < 0 then some 0 else _) = _
        rw [if_neg h0]
      | some r =>
        obtain ⟨xs, ts⟩ := r
        subst hrows
        obtain ⟨sl, rfl, hSq0, hxs0⟩ : ∃ sl, tv = .ref sl ∧ (SqL K H0 sl xs ∨ SqT K H0 sl xs) ∧ IsAll K b H0 xs ts := by
          cases hT0 with
          | lst h0 h1 h2 => exact ⟨_, rfl, .inl (.inl (.inl h1)), h2⟩
          | tup h1 h2 => exact ⟨_, rfl, .inr h1, h2⟩
        have hSq := (mH.trans m5).seq hSq0
        have hxs := hxs0.mv0 (mH.trans m5)
        obtain ⟨hl, hcn⟩ := hbd _ rfl
        refine ⟨.ref sl, rfl, sl, rfl, ?_⟩
        refine lc_th (K := K) (b := b) (fun _ => true) (fun y t => y = V.bl (isTerm t && under many t)) hSq hxs hl (fun y t H6 Q' R hm' hy m6 k1 _ => ?_) (fun D ys H6 nD e6 hp m6 => ?_)
        · exact ⟨rfl, .int many, rfl, y, rfl, many, y, t, b, rfl, hy.mv0 m6, hcn t hm', fun H7 m7 => k1 rfl _ H7 rfl m7⟩
        · rw [List.filter_eq_self.mpr fun _ _ => rfl] at hp
          rw [paired_bl hp] at e6
          have m06 := m5.trans m6
          refine ⟨D, _, rfl, .inl (.inl e6), ?_⟩
          have ea : (ts.map fun t => isTerm t && under many t).all id = ts.all fun t => isTerm t && under many t := by rw [List.all_map]; rfl
          rw [ea]
          refine ⟨_, rfl, ite2 (fun e1 => ?_) (fun e1 => ?_)⟩
          · refine ⟨.int 1, rfl, fun dd nd => wrong 1 H6 ?_ m06 dd nd⟩
            show (if many < 0 then some 0 else if _ then none else some 1) = _
            rw [if_neg h0, if_neg (by simpa using e1)]
          · have hgood : recWrong (.int many) (some (xs, ts)) = none := by
              show (if many < 0 then some 0 else if _ then none else some 1) = _
              rw [if_neg h0, if_pos (by simpa using e1)]
            have hx6 := m06.same _ _ hx
            have hd6 := m06.same _ _ hdx
            refine ⟨.int many, rfl, .ref x, rfl, x, T.C_Recipe, dx, T.p_Recipe_its_variables, [], 1, rfl, Or.inl ⟨hx6, rfl⟩, T.c_Recipe, T.sl_Recipe_its_variables, ?_⟩
            have m7 := (mH.trans m06).sl (C := T.C_Recipe) (vs := putS 1 (.int many) []) nx ndx
            have k7 := Mv.slA hne hx6 hd6 (us := putS 1 (.int many) [])
            have hx7 := slH_x (H := H6) (x := x) (C := T.C_Recipe) (dx := dx) (vs := putS 1 (.int many) [])
            have hd7 := slH_dx (H := H6) (C := T.C_Recipe) (vs := putS 1 (.int many) []) hne
            have hs7 := slH_slt (H := H6) (C := T.C_Recipe) (vs := putS 1 (.int many) []) hne
            generalize slH H6 x T.C_Recipe dx (putS 1 (.int many) []) = H7 at k7 m7 hx7 hd7 hs7 ⊢
            refine ⟨.ref sl, rfl, ?_⟩
            walk_at "nc"
            refine rd_tupSq (m7.seq hSq0) fun p H8 m8 e8 => ?_
            have hx8 := m8.same _ _ hx7
            have hd8 := m8.same _ _ hd7
            refine ⟨.ref x, rfl, x, T.C_Recipe, dx, T.p_Recipe_its_terms, _, 0, rfl, Slt.mv hs7 m8, T.c_Recipe, T.sl_Recipe_its_terms, ?_⟩
            have m9 := (m7.trans m8).sl (C := T.C_Recipe) (vs := putS 0 (.ref p) (putS 1 (.int many) [])) nx ndx
            have k9 := Mv.slB hne hx8 hd8 (us := putS 0 (.ref p) (putS 1 (.int many) []))
            have hs9 := slH_slt (H := H8) (C := T.C_Recipe) (vs := putS 0 (.ref p) (putS 1 (.int many) [])) hne
            generalize slH H8 x T.C_Recipe dx (putS 0 (.ref p) (putS 1 (.int many) [])) = H9 at m9 k9 hs9 ⊢
            exact q many _ rfl rfl hgood p H9 m9 hs9 (k9.sqT e8)
end
end Fm
/-! == of tuples and dicts, their parts compared in this very program and world -/
namespace Fm
open PySem PySem.Spec PyProof.Rows L2
open AutoSeq1 (wpAny_loadPart')
open PySem.MeetsSeq PySem.MeetsSeq2 PySem.MeetsSeq3 PySem.SeqRoads2
def EqW (prog : Program) (w : PySem.World) (A : Around) (s : Shared) (y x : Value) (b : Bool) : Prop := ∀ (E : Value → Shared → Prop) (Q : Bool → Shared → Prop), Q b s → wpAny (model prog w) A (eqBool y x) Q E s
section
variable {prog : Program} {w : PySem.World} {A : Around} {s : Shared} {E : Value → Shared → Prop}
theorem EqW.of_at {y x : Value} {b : Bool} (h : SeqAt.EqAt A s y x b) : EqW prog w A s y x b := fun E Q q => h prog w E Q q
theorem EqW.of_refs {p q : Addr} {b : Bool} (hne : p ≠ q) (h : ∀ (E : Value → Shared → Prop) (Q : Value → Shared → Prop), Q (.bool b) s → wpAny (model prog w) A (richCompare .Eq (.ref p) (.ref q)) Q E s) : EqW prog w A s (.ref p) (.ref q) b :=
  fun E Q hq => GQ.eqBool_refG hne (h E _ ⟨b, rfl, hq⟩)
/-- how two tuples compare, place by place -/
theorem tupW {p q : Addr} {xs ys : Array Value} {e : Nat → Bool} {Q : Value → Shared → Prop} (hp : s.heap.IsTuple p xs) (hq : s.heap.IsTuple q ys) (hu : A.units < cLine)
    (he : ∀ j (h1 : j < xs.size) (h2 : j < ys.size), EqW prog w A.in1 s xs[j] ys[j] (e j)) (h : Q (.bool ((List.range (min xs.size ys.size)).all e && xs.size == ys.size)) s) : wpAny (model prog w) A (richCompare .Eq (.ref p) (.ref q)) Q E s := by
  obtain ⟨⟨c1, d1, t1, l1⟩, o1, k1, n1, r1⟩ := id hp
  obtain ⟨⟨c2, d2, t2, l2⟩, o2, k2, n2, r2⟩ := id hq
  dsimp only at k1 r1 k2 r2
  subst k1 r1 k2 r2
  refine wpAny_richCompare_same_room (op := .Eq) ⟨_, o1, rfl⟩ ⟨_, o2, rfl⟩ PySem.F.slot_tuple_eq (GQ.call_here PySem.F.slot_tuple_eq ⟨_, o1, rfl⟩ PySem.F.entry_tuple_eq (PySem.F.args_tuple_eq_2 _ _) ?_) hu
  have sub := AutoSeq1.sub_tuple_tuple
  have len : (xs.toList.zip ys.toList).length = min xs.size ys.size := by simp
  obtain ⟨hh, gg, dd, tt, oo⟩ := s
  wp_walk using wpAny_loadPart' o1, wpAny_loadPart' o2, wpAny_forIn_list _ (fun rest acc s' => acc.1 = none ∧ s' = ⟨hh, gg, dd, tt, oo⟩ ∧ ∃ i, rest = (xs.toList.zip ys.toList).drop i ∧
    Q (.bool (((List.range (min xs.size ys.size)).drop i).all e && xs.size == ys.size)) ⟨hh, gg, dd, tt, oo⟩) _
  case turn =>
    rintro ⟨y, x⟩ rest acc s' ⟨ha, rfl, i, hz, hQ⟩
    have lt : i < (xs.toList.zip ys.toList).length := Nat.lt_of_not_le fun ge => by
      rw [List.drop_of_length_le ge] at hz
      cases hz
    have lm : i < min xs.size ys.size := len ▸ lt
    have lx : i < xs.size := by omega
    have ly : i < ys.size := by omega
    rw [List.drop_eq_getElem_cons lt] at hz
    injection hz with hyx hrest
    obtain rfl : y = xs[i] := by simpa using congrArg Prod.fst hyx
    obtain rfl : x = ys[i] := by simpa using congrArg Prod.snd hyx
    have dr : (List.range (min xs.size ys.size)).drop i = i :: (List.range (min xs.size ys.size)).drop (i + 1) := by simp [List.drop_eq_getElem_cons, lm]
    rw [dr, List.all_cons] at hQ
    refine wpAny_bind (he i lx ly _ _ ?_)
    cases ei : e i with
    | true =>
      rw [ei] at hQ
      wp_walk
      exact ⟨rfl, rfl, i + 1, hrest, by simpa using hQ⟩
    | false =>
      rw [ei] at hQ
      wp_walk
      exact ⟨(fun z => nomatch z), by simpa using hQ⟩
  case fin =>
    rintro ⟨a1, a2⟩ s' ⟨ha, rfl, i, hz, hQ⟩
    dsimp only at ha
    subst ha
    have ge : min xs.size ys.size ≤ i := Nat.le_of_not_lt fun lt => by
      rw [List.drop_eq_getElem_cons (len ▸ lt)] at hz
      cases hz
    rw [List.drop_of_length_le (by simpa using ge)] at hQ
    wp_walk
    exact ⟨(fun z => nomatch z), by simpa [Builtin.Tuple.tupleCompareSizes] using hQ⟩
  case h => exact ⟨rfl, rfl, 0, rfl, by simpa using h⟩
end
/-- the pairs of one dict looked up in another one -/
inductive HitsW (prog : Program) (w : PySem.World) (A : Around) (s : Shared) (kb : List (L2.Key × Value)) : List (L2.Key × Value) → Bool → Prop
  | done : HitsW prog w A s kb [] true
  | lacks {k : L2.Key} {v : Value} {r : List (L2.Key × Value)} : valueAt kb k = none → HitsW prog w A s kb ((k, v) :: r) false
  | meets {k : L2.Key} {v y : Value} {r : List (L2.Key × Value)} {e b : Bool} : valueAt kb k = some y → EqW prog w A s v y e → HitsW prog w A s kb r b → HitsW prog w A s kb ((k, v) :: r) (e && b)
section
variable {prog : Program} {w : PySem.World} {A : Around} {s : Shared} {E : Value → Shared → Prop}
theorem HitsW.inv {kb r : List (L2.Key × Value)} {k : L2.Key} {v : Value} {b : Bool} (h : HitsW prog w A s kb ((k, v) :: r) b) : (valueAt kb k = none ∧ b = false) ∨ ∃ y e b', valueAt kb k = some y ∧ EqW prog w A s v y e ∧ HitsW prog w A s kb r b' ∧ b = (e && b') := by
  cases h with
  | lacks h => exact .inl ⟨h, rfl⟩
  | meets h1 h2 h3 => exact .inr ⟨_, _, _, h1, h2, h3, rfl⟩
theorem pairsW {nm : String} {p q : Addr} {ka kb : List (L2.Key × Value)} {r : Bool} {Q : Bool → Shared → Prop} (hp : (p == sysModules) = false) (hq : (q == sysModules) = false)
    (dp : s.heap.DictOf (mixKind prog w) p ka) (dq : s.heap.DictOf (mixKind prog w) q kb) (hits : ka.length = kb.length → HitsW prog w A s kb ka r) (h : Q (ka.length == kb.length && r) s) :
    wpAny (model prog w) A (Builtin.Dict.samePairs nm p q) Q E s := by
  obtain ⟨op, ep, np, gp, _, tp, kp, pp, _⟩ := dp
  obtain ⟨oq, eq, nq, gq, _, tq, kq, pq, _⟩ := dq
  have lp : ka.length = ep.size := by rw [← pp.length]; exact Array.length_toList
  have lq : kb.length = eq.size := by rw [← pq.length]; exact Array.length_toList
  have fnd : ∀ k, findBy (mixKind prog w).is eq k = valueAt kb k := fun k => by
    rw [← pq.find k]
    clear lq pq kq tq gq
    obtain ⟨es⟩ := eq
    simp [findBy]
  rw [lp, lq] at h
  unfold Builtin.Dict.samePairs Builtin.Dict.showsAll
  rw [if_neg (by rw [hp]; exact Bool.false_ne_true), if_neg (by rw [hq]; exact Bool.false_ne_true)]
  refine wpAny_bind (wpAny_pure (wpAny_bind (wpAny_pure (wpAny_bind (wpAny_dictEntries gp tp ?_)))))
  dsimp only
  refine wpAny_bind (wpAny_dictEntries gq tq ?_)
  by_cases sz : ep.size = eq.size
  · have hQ : Q r s := by simpa [sz] using h
    have hits' := hits (by omega)
    rw [if_neg (by rw [sz]; simp)]
    refine wpAny_bind (wpAny_dictEpoch gp tp (wpAny_bind ?_))
    rw [Std.Legacy.Range.forIn_eq_forIn_range']
    simp only [Std.Legacy.Range.size, Nat.sub_zero, Nat.add_sub_cancel, Nat.div_one]
    refine wpAny_forIn_list _ (fun rest acc s' => s' = s ∧ acc = (none, ()) ∧ ∃ i, rest = List.range' i (ep.size - i) ∧ i ≤ ep.size ∧ HitsW prog w A s kb (ka.drop i) r) _ ?_ ?_ _ _ ⟨rfl, rfl, 0, by simp, Nat.zero_le _, hits'⟩
    · rintro x rest acc s' ⟨rfl, rfl, i, hr, hi, hd⟩
      have lt : i < ep.size := Nat.lt_of_not_le fun ge => by
        rw [Nat.sub_eq_zero_of_le ge] at hr
        simp at hr
      have e1 : ep.size - i = (ep.size - (i + 1)) + 1 := by omega
      rw [e1, List.range'_succ] at hr
      injection hr with hx hrest
      subst hx
      refine wpAny_bind (wpAny_dictEntries gp tp ?_)
      rw [Array.getElem?_eq_getElem lt]
      have lt' : x < ka.length := by omega
      obtain ⟨k, v, hkv⟩ : ∃ k v, ka[x] = (k, v) := ⟨_, _, rfl⟩
      have hdrop : ka.drop x = (k, v) :: ka.drop (x + 1) := by rw [← hkv]; exact List.drop_eq_getElem_cons lt'
      obtain ⟨hk, hv⟩ := pp.get? (i := x) (e := ep[x]) (k := k) (v := v) (by rw [Array.getElem?_toList]; exact Array.getElem?_eq_getElem lt) (by rw [List.getElem?_eq_getElem lt', hkv])
      obtain ⟨k', hk', hh⟩ := kp ep[x] (Array.getElem_mem lt)
      have ekk : k' = k := (mixKind prog w).inj _ _ _ hk' hk
      rw [ekk] at hh
      rw [hdrop] at hd
      show wpAny _ _ (holding [ep[x].key, ep[x].val] _ >>= _) _ _ _
      rw [hh]
      refine wpAny_bind (wpAny_holding (wpAny_bind (wpAny_dictFind_of hk gq tq kq ?_)))
      cases hj : eq.findIdx? fun e => (mixKind prog w).is k e.key with
      | none =>
        have hn : valueAt kb k = none := by rw [← fnd k, findBy_of_findIdx?, hj]
        rcases hd.inv with ⟨_, er⟩ | ⟨y, _, _, hy, _⟩
        · rw [er] at hQ
          refine wpAny_pure ?_
          show wpAny _ _ (if (!false) = true then _ else _) _ _ _
          rw [if_pos (by decide)]
          exact wpAny_pure (wpAny_pure hQ)
        · rw [hn] at hy
          cases hy
      | some j =>
        obtain ⟨jl, _, _⟩ := Array.findIdx?_eq_some_iff_getElem.mp hj
        have hy' : valueAt kb k = some eq[j].val := by
          rw [← fnd k, findBy_of_findIdx?, hj]
          simp [Array.getElem?_eq_getElem jl]
        refine wpAny_bind (wpAny_dictEntries gq tq ?_)
        rw [Array.getElem?_eq_getElem jl]
        rcases hd.inv with ⟨hn, _⟩ | ⟨y, e, b', hy, he, hrr, er⟩
        · rw [hy'] at hn
          cases hn
        · have ey : eq[j].val = y := Option.some.inj (hy'.symm.trans hy)
          rw [← ey, ← hv] at he
          refine wpAny_holding (he _ _ ?_)
          cases e with
          | false =>
            rw [er, Bool.false_and] at hQ
            show wpAny _ _ (if (!false) = true then _ else _) _ _ _
            rw [if_pos (by decide)]
            exact wpAny_pure (wpAny_pure hQ)
          | true =>
            rw [Bool.true_and] at er
            rw [← er] at hrr
            show wpAny _ _ (if (!true) = true then _ else _) _ _ _
            rw [if_neg (by decide)]
            refine wpAny_bind (wpAny_dictEpoch gp tp ?_)
            rw [if_neg (by simp)]
            exact wpAny_pure ⟨rfl, rfl, x + 1, hrest, lt, hrr⟩
    · rintro acc s' ⟨rfl, rfl, i, hr, hi, hd⟩
      have ei : i = ep.size := Nat.le_antisymm hi (Nat.le_of_not_lt fun lt => by
        have e1 : ep.size - i = (ep.size - (i + 1)) + 1 := by omega
        rw [e1, List.range'_succ] at hr
        cases hr)
      refine wpAny_pure ?_
      rw [ei, ← lp, List.drop_length] at hd
      cases hd
      exact hQ
  · rw [if_pos (by simpa using sz)]
    have bf : (ep.size == eq.size) = false := by simpa using sz
    rw [bf, Bool.false_and] at h
    exact wpAny_bind (wpAny_rule (wpAny_pure h))
/-- how two dicts compare -/
theorem dictW {p q : Addr} {ka kb : List (L2.Key × Value)} {r : Bool} {Q : Value → Shared → Prop} (hp : (p == sysModules) = false) (hq : (q == sysModules) = false) (dp : s.heap.DictOf (mixKind prog w) p ka) (dq : s.heap.DictOf (mixKind prog w) q kb)
    (hu : A.units < cLine) (hits : ka.length = kb.length → HitsW prog w A.in1 s kb ka r) (h : Q (.bool (ka.length == kb.length && r)) s) : wpAny (model prog w) A (richCompare .Eq (.ref p) (.ref q)) Q E s := by
  refine wpAny_richCompare_same_room (op := .Eq) dp.typeIs dq.typeIs PySem.F.slot_dict_eq (wpAny_call_entry PySem.F.slot_dict_eq dp.typeIs PySem.F.entry_dict_eq ?_ (PySem.F.args_dict_eq_2 _ _)) hu
  show wpAny _ _ (Builtin.Dict.dictSlotArgs "__eq__" ⟨[.ref p, .ref q], []⟩ >>= _) _ _ s
  refine wpAny_bind ?_
  unfold Builtin.Dict.dictSlotArgs
  refine wpAny_bind (wpAny_notOrdered_dict dp.typeIs ?_)
  show wpAny _ _ (pure (Value.ref p, Value.ref q)) _ _ s
  refine wpAny_pure (wpAny_bind (wpAny_isInstance (T := "dict") dq.typeIs PySem.F.sub_dict_dict ?_))
  simp only [Bool.not_true, Bool.false_eq_true, if_false]
  refine wpAny_bind (wpAny_pure (wpAny_bind (wpAny_pure (wpAny_bind (pairsW hp hq dp dq hits (wpAny_pure ⟨_, rfl, (fun z => nomatch z), ?_⟩))))))
  simpa using h
end
end Fm
/-! == of acts -/
namespace Fm
open PySem PySem.Spec PyProof.Rows L2
def lk (b : List (Str × Int)) (x : Str) : Option Int := (b.find? fun e => decide (e.1 = x)).map (·.2)
def hitO (b : List (Str × Int)) (e : Str × Int) : Bool := match lk b e.1 with
  | some j => e.2 == j
  | none => false
def outsEq (a b : List (Str × Int)) : Bool := a.length == b.length && a.all (hitO b)
def actEq (r q : ActR) : Bool := r.ar == q.ar && outsEq r.outs q.outs
def hitA (qs : List ActR) (r : ActR) : Bool := match qs.find? fun q => decide (q.nm = r.nm) with
  | some q => actEq r q
  | none => false
def rsEq (rs qs : List ActR) : Bool := rs.length == qs.length && rs.all (hitA qs)
theorem val_row (b : List (Str × Int)) (x : Str) : valV (b.map rowK) (.inr x) = (lk b x).map V.int := by
  unfold valV lk
  rw [List.find?_map, Option.map_map, Option.map_map]
  have : ((fun kv : L2.Key × V => decide (kv.1 = Sum.inr x)) ∘ rowK) = fun e : Str × Int => decide (e.1 = x) := by
    funext e
    show decide ((Sum.inr e.1 : L2.Key) = Sum.inr x) = _
    by_cases h : e.1 = x
    · rw [decide_eq_true h, decide_eq_true (by rw [h])]
    · rw [decide_eq_false h, decide_eq_false fun z => h (Sum.inr.inj z)]
  rw [this]
  rfl
theorem val_act (zs : List ActA) (x : Str) : valV (zs.map ActA.kv) (.inr x) = (zs.find? fun z => decide (z.r.nm = x)).map fun z => V.ref z.a := by
  unfold valV
  rw [List.find?_map, Option.map_map]
  have : ((fun kv : L2.Key × V => decide (kv.1 = Sum.inr x)) ∘ ActA.kv) = fun z : ActA => decide (z.r.nm = x) := by
    funext z
    show decide ((Sum.inr z.r.nm : L2.Key) = Sum.inr x) = _
    by_cases h : z.r.nm = x
    · rw [decide_eq_true h, decide_eq_true (by rw [h])]
    · rw [decide_eq_false h, decide_eq_false fun z => h (Sum.inr.inj z)]
  rw [this]
  rfl
theorem find_act (zs : List ActA) (x : Str) : ((zs.map (·.r)).find? fun q => decide (q.nm = x)) = (zs.find? fun z => decide (z.r.nm = x)).map (·.r) := by
  rw [List.find?_map]
  rfl
theorem lk_mem {b : List (Str × Int)} (n : (b.map (·.1)).Nodup) {e : Str × Int} (h : e ∈ b) : lk b e.1 = some e.2 := by
  have h1 := val_row b e.1
  rw [row_val n (x := e.1) (i := e.2) h] at h1
  cases h2 : lk b e.1 with
  | none => rw [h2] at h1; cases h1
  | some j =>
    rw [h2] at h1
    have : V.int e.2 = V.int j := Option.some.inj h1
    rw [V.int.inj this]
theorem outsEq_refl {a : List (Str × Int)} (n : (a.map (·.1)).Nodup) : outsEq a a = true := by
  unfold outsEq
  rw [beq_self_eq_true, Bool.true_and, List.all_eq_true]
  intro e he
  unfold hitO
  rw [lk_mem n he]
  exact beq_self_eq_true _
section
variable {X : Cx} {pins : List (Addr × Obj)} {σ : L2.St} {H : Hp} {s : Shared}
theorem hits_outs {A : Around} {b : List (Str × Int)} {vb : List (L2.Key × Value)} (rb : KV (b.map rowK) vb) : ∀ {a : List (Str × Int)} {va : List (L2.Key × Value)}, KV (a.map rowK) va → HitsW X.prog X.w A s vb va (a.all (hitO b))
  | [], _, .nil => .done
  | e :: a, _, .cons (b := kv) ⟨hk, hv⟩ t => by
    obtain ⟨k, v⟩ := kv
    cases hk
    have ih := hits_outs (A := A) rb t
    have hr := rb.val (Sum.inr e.1)
    rw [val_row] at hr
    rw [List.all_cons]
    obtain ⟨t1, rfl⟩ := (show ∃ t, v = Value.int e.2 t from hv)
    unfold hitO
    cases hl : lk b e.1 with
    | none =>
      rw [hl] at hr
      have hn : valueAt vb (Sum.inr e.1) = none := by
        cases hx : valueAt vb (Sum.inr e.1) with
        | none => rfl
        | some u => rw [hx] at hr; exact hr.elim
      rw [Bool.false_and]
      exact .lacks hn
    | some j =>
      rw [hl] at hr
      obtain ⟨u, hu, ru⟩ := RelO.some_of (v := V.int j) (o := valueAt vb (Sum.inr e.1)) hr
      obtain ⟨t2, rfl⟩ := (show ∃ t, u = Value.int j t from ru)
      exact .meets hu (.of_at (SeqAt.EqAt.int_int _ _ _ _)) ih
theorem rowK_inj {a b : List (Str × Int)} (h : a.map rowK = b.map rowK) : a = b := by
  refine (List.map_inj_right ?_).mp h
  intro e f he
  obtain ⟨x, i⟩ := e
  obtain ⟨y, j⟩ := f
  cases he
  rfl
theorem eqW_outs {A : Around} {p q : Addr} {a b : List (Str × Int)} (I : Inv X pins σ H s) (hp : H p = some (.dK (a.map rowK))) (hq : H q = some (.dK (b.map rowK))) (n : (a.map (·.1)).Nodup) (hu : A.units < cLine) : EqW X.prog X.w A s (.ref p) (.ref q) (outsEq a b) := by
  by_cases e : p = q
  · subst e
    rw [hp] at hq
    have hk : a.map rowK = b.map rowK := by
      have := Option.some.inj hq
      injection this
    cases rowK_inj hk
    rw [outsEq_refl n]
    exact .of_at (SeqAt.EqAt.same _)
  · obtain ⟨_, ya, va, ra, da⟩ := (show ObjOk X.prog X.w H s.heap p (.dK (a.map rowK)) from I.hok p _ hp)
    obtain ⟨_, yb, vb, rb, db⟩ := (show ObjOk X.prog X.w H s.heap q (.dK (b.map rowK)) from I.hok q _ hq)
    have la : va.length = a.length := by rw [← ra.length, List.length_map]
    have lb : vb.length = b.length := by rw [← rb.length, List.length_map]
    refine .of_refs e fun E Q hQ => dictW ya yb da db hu (fun _ => hits_outs rb ra) ?_
    rw [la, lb]
    exact hQ
theorem eqW_act {A : Around} {z y : ActA} (I : Inv X pins σ H s) (hz : SqT X.K H z.a [.int z.r.ar, .ref z.o]) (hy : SqT X.K H y.a [.int y.r.ar, .ref y.o]) (oz : H z.o = some (.dK (z.r.outs.map rowK))) (oy : H y.o = some (.dK (y.r.outs.map rowK)))
    (n : (z.r.outs.map (·.1)).Nodup) (hu : A.units + 1 < cLine) : EqW X.prog X.w A s (.ref z.a) (.ref y.a) (actEq z.r y.r) := by
  by_cases e : z.a = y.a
  · rw [e] at hz
    have he := I.tuple_inj hz hy
    have ho : z.o = y.o := by injection he with _ he; injection he with he _; injection he
    have har : z.r.ar = y.r.ar := by injection he with he _; injection he
    rw [ho, oy] at oz
    have hk : y.r.outs.map rowK = z.r.outs.map rowK := by
      have := Option.some.inj oz
      injection this
    have := rowK_inj hk
    unfold actEq
    rw [har, this, outsEq_refl n, beq_self_eq_true, e]
    exact .of_at (SeqAt.EqAt.same _)
  · obtain ⟨is, ri, ti, _⟩ := I.tuple hz
    obtain ⟨js, rj, tj, _⟩ := I.tuple hy
    obtain ⟨u1, u2, rfl, r1, r2⟩ := vals2 ri
    obtain ⟨v1, v2, rfl, q1, q2⟩ := vals2 rj
    obtain ⟨t1, rfl⟩ := (show ∃ t, u1 = Value.int z.r.ar t from r1)
    obtain ⟨t2, rfl⟩ := (show ∃ t, v1 = Value.int y.r.ar t from q1)
    cases (show u2 = Value.ref z.o from r2)
    cases (show v2 = Value.ref y.o from q2)
    have hin : A.in1.units < cLine := by show A.units + 1 < cLine; exact hu
    refine .of_refs e fun E Q hQ => tupW (e := fun j => if j = 0 then z.r.ar == y.r.ar else outsEq z.r.outs y.r.outs) ti tj (Nat.lt_of_succ_lt hu) (fun j h1 h2 => ?_) ?_
    · match j, h1, h2 with
      | 0, _, _ => exact .of_at (SeqAt.EqAt.int_int _ _ _ _)
      | 1, _, _ => exact eqW_outs I oz oy n hin
    · show Q (.bool (([0, 1] : List Nat).all _ && (2 : Nat) == 2)) s
      have : (([0, 1] : List Nat).all (fun j => if j = 0 then z.r.ar == y.r.ar else outsEq z.r.outs y.r.outs) && (2 : Nat) == 2) = actEq z.r y.r := by
        simp [actEq]
      rw [this]
      exact hQ
theorem hits_acts {A : Around} (I : Inv X pins σ H s) {ys : List ActA} {vb : List (L2.Key × Value)} (rb : KV (ys.map ActA.kv) vb) (hy : ∀ y ∈ ys, SqT X.K H y.a [.int y.r.ar, .ref y.o]) (oy : ∀ y ∈ ys, H y.o = some (.dK (y.r.outs.map rowK))) (hu : A.units + 1 < cLine) :
    ∀ {zs : List ActA} {va : List (L2.Key × Value)}, KV (zs.map ActA.kv) va → (∀ z ∈ zs, SqT X.K H z.a [.int z.r.ar, .ref z.o]) → (∀ z ∈ zs, H z.o = some (.dK (z.r.outs.map rowK))) → (∀ z ∈ zs, (z.r.outs.map (·.1)).Nodup) → HitsW X.prog X.w A s vb va ((zs.map (·.r)).all (hitA (ys.map (·.r))))
  | [], _, .nil, _, _, _ => .done
  | z :: zs, _, .cons (b := kv) ⟨hk, hv⟩ t, h1, h2, h3 => by
    obtain ⟨k, v⟩ := kv
    cases hk
    have ih := hits_acts (A := A) I rb hy oy hu t (fun z hz => h1 z (by simp [hz])) (fun z hz => h2 z (by simp [hz])) (fun z hz => h3 z (by simp [hz]))
    have hr := rb.val (Sum.inr z.r.nm)
    rw [val_act] at hr
    rw [List.map_cons, List.all_cons]
    cases (show v = Value.ref z.a from hv)
    have eh : hitA (ys.map (·.r)) z.r = match (ys.find? fun y => decide (y.r.nm = z.r.nm)) with | some y => actEq z.r y.r | none => false := by
      unfold hitA
      rw [find_act]
      cases ys.find? fun y => decide (y.r.nm = z.r.nm) <;> rfl
    rw [eh]
    cases hl : ys.find? fun y => decide (y.r.nm = z.r.nm) with
    | none =>
      rw [hl] at hr
      have hn : valueAt vb (Sum.inr z.r.nm) = none := by
        cases hx : valueAt vb (Sum.inr z.r.nm) with
        | none => rfl
        | some u => rw [hx] at hr; exact hr.elim
      rw [Bool.false_and]
      exact .lacks hn
    | some y =>
      rw [hl] at hr
      have hym := List.mem_of_find?_eq_some hl
      obtain ⟨u, hu', ru⟩ := RelO.some_of (v := V.ref y.a) (o := valueAt vb (Sum.inr z.r.nm)) hr
      cases (show u = Value.ref y.a from ru)
      exact .meets hu' (eqW_act I (h1 z (by simp)) (hy y hym) (h2 z (by simp)) (oy y hym) (h3 z (by simp)) hu) ih
def rEqA (K : PySem.W.Frag) : R2 := fun x y H Q => ∃ d e zs ys, x = .ref d ∧ y = .ref e ∧ ActsAt K H d zs ∧ ActsAt K H e ys ∧ Q (.bl (rsEq (zs.map (·.r)) (ys.map (·.r)))) H
theorem op_eqA (hu : X.A.units + 64 < cLine) : OpR X (compareOp .Eq) (rEqA X.K) := by
  intro pins s σ H x y v u Q I rx ry h
  obtain ⟨d, e, zs, ys, rfl, rfl, hz, hy, q⟩ := h
  cases (show v = Value.ref d from rx)
  cases (show u = Value.ref e from ry)
  obtain ⟨_, ya, va, ra, da⟩ := (show ObjOk X.prog X.w H s.heap d (.dK (zs.map ActA.kv)) from I.hok d _ hz.at_)
  obtain ⟨_, yb, vb, rb, db⟩ := (show ObjOk X.prog X.w H s.heap e (.dK (ys.map ActA.kv)) from I.hok e _ hy.at_)
  have la : va.length = zs.length := by rw [← ra.length, List.length_map]
  have lb : vb.length = ys.length := by rw [← rb.length, List.length_map]
  have hin : X.A.in1.units + 1 < cLine := by show X.A.units + 1 + 1 < cLine; omega
  refine dictW ya yb da db (by omega) (fun _ => hits_acts I rb hy.tup hy.out hin ra hz.tup hz.out hz.ond) (fin_bl I q ?_)
  rw [la, lb]
  unfold rsEq
  rw [List.length_map, List.length_map]
end
end Fm
/-! == of Worlds -/
namespace Fm
open PySem PySem.Spec PyProof.Rows L2 SlX
local macro_rules | `(tactic| walk_at "nn") => `(tactic| dsimp only [tC, tNil, tCons, tCB, tCall, gName, tSeq, tAsg, tPar, tDrop, tRet])
local macro_rules | `(tactic| walk_at "nc") => `(tactic| dsimp only [tC, tNil, tCons, tCB, tCall])
def rIsiX (K : PySem.W.Frag) (u : Value) : List V → Hp → VK → Prop := fun xs H Q => rIsiSl K u xs H Q ∨ rIsi K xs H Q
theorem call_isiX {X : Cx} (u : Value) : CallR X (.builtin "isinstance") (rIsiX X.K u) := CallR.or (call_isiSl u) call_isi
/-- a value of a builtin type that is no class of the text's -/
def plainTy (T : String) : Bool := match fastBuiltinMro T with
  | some l => l.all fun v => match v with | .ref _ => false | _ => true
  | none => false
theorem sub_plain {K : PySem.W.Frag} {T : String} {C : Addr} (h : plainTy T = true) : PySem.W.subIn K (.type T) (.ref C) = some false := by
  unfold plainTy at h
  show (fastBuiltinMro T).map _ = some false
  cases e : fastBuiltinMro T with
  | none => rw [e] at h; cases h
  | some l =>
    rw [e] at h
    show some (l.contains (.ref C)) = some false
    congr 1
    cases hc : l.contains (.ref C) with
    | false => rfl
    | true =>
      have hm : Value.ref C ∈ l := by simpa using hc
      have := List.all_eq_true.mp h _ hm
      cases this
theorem notFirst_plain {K : PySem.W.Frag} {T : String} {C : Addr} (h : plainTy T = true) : PySem.W.notFirst K C (.type T) = true := by
  unfold PySem.W.notFirst
  rw [sub_plain h]
  simp
theorem notFirst_self {K : PySem.W.Frag} {C : Addr} : PySem.W.notFirst K C (.ref C) = true := by
  unfold PySem.W.notFirst
  simp
theorem kitOne_plain {K : PySem.W.Frag} {T : String} {C : Addr} (h : plainTy T = true) (hc : PySem.W.isClsIn K C = true) (ht : PySem.W.typeIn K (.ref C) = some (.type "type")) : PySem.W.kitOne K (.type T) (.ref C) = some false := by
  unfold PySem.W.kitOne
  rw [if_neg (by simp)]
  show (if _ then _ else _) = _
  rw [if_pos ?_]
  · exact sub_plain h
  · rw [ht]
    unfold PySem.W.isClsIn at hc
    simp [hc]
def sp_WorldEq (K : PySem.W.Frag) (C : Addr) : Sp := fun vs H Q _ => ∃ (x : Addr) (rs : List ActR) (y : V), vs = [.ref x, y] ∧ WldAt K H C x rs ∧
  ((∃ x2 rs2, y = .ref x2 ∧ WldAt K H C x2 rs2 ∧ Q (.bl (rsEq rs rs2)) H) ∨ ∃ T, TyX K H y (.type T) ∧ plainTy T = true ∧ Q (.bl false) H)
section
variable {P : Program} {w : World} {K : PySem.W.Frag} {mg : Str → Option Value} {base : Heap}
end
end Fm
/-! recipes: what they tell, made by keeping, called, joined, compared, shown -/
namespace Fm
open PySem PySem.Spec PyProof.Rows L2 SlX
local macro_rules | `(tactic| walk_at "nn") => `(tactic| dsimp only [tC, tNil, tCons, tCB, tCall, gName, tSeq, tAsg, tPar, tDrop, tRet])
local macro_rules | `(tactic| walk_at "nc") => `(tactic| dsimp only [tC, tNil, tCons, tCB, tCall])
def tsD (ts : List Tm) : PyData := .tuple (Tm.ds ts)
def over (n : Int) (i : Int) : Prop := 0 ≤ i ∧ i < n
def varsT (n : Nat) : List Tm := (List.range n).map fun i => Tm.var (i : Nat)
def sp_Recvars (K : PySem.W.Frag) (C : Addr) : Sp := fun vs H Q _ => ∃ (x : Addr) (many : Int) (ts : List Tm), vs = [.ref x] ∧ RecAt K H C x many ts ∧ Q (.int many) H
def sp_Recterms (K : PySem.W.Frag) (C : Addr) : Sp := fun vs H Q _ => ∃ (x : Addr) (many : Int) (ts : List Tm), vs = [.ref x] ∧ RecAt K H C x many ts ∧ ∀ v, Im K H v (tsD ts) → Q v H
def sp_Reclen (K : PySem.W.Frag) (C : Addr) : Sp := fun vs H Q _ => ∃ (x : Addr) (many : Int) (ts : List Tm), vs = [.ref x] ∧ RecAt K H C x many ts ∧ Q (.int ts.length) H
def sp_Reckeep (K : PySem.W.Frag) (C : Addr) : Sp := fun vs H Q _ => ∃ (many : Int), vs = [.int many] ∧ 0 ≤ many ∧ many ≤ 1000 ∧ ∀ x H', Mv [] H H' → RecAt K H' C x many (varsT many.toNat) → Q (.ref x) H'
def sp_Reccall (K : PySem.W.Frag) (C : Addr) (d : Nat) : Sp := fun vs H Q _ => ∃ (x c : Addr) (many : Int) (ts us : List Tm) (ys : List V), vs = [.ref x, .ref c] ∧ RecAt K H C x many ts ∧ (SqL K H c ys ∨ SqT K H c ys) ∧ Ims K H ys (Tm.ds us) ∧
  Tm.oks (fun i => 0 ≤ i ∧ i < us.length) ts ∧ Tm.deps ts < d ∧ ts.length ≤ 1000 ∧ ∀ v H', Mv [] H H' → Im K H' v (tsD (ts.map (Tm.put (vat us)))) → Q v H'
def sp_Recmul (K : PySem.W.Frag) (C EU : Addr) (d : Nat) : Sp := fun vs H Q E => ∃ (x y : Addr) (many wide : Int) (ts us : List Tm), vs = [.ref x, .ref y] ∧ RecAt K H C x many ts ∧ RecAt K H C y wide us ∧ 0 ≤ many ∧ ts.length ≤ 1000 ∧
  (wide ≠ ts.length → E (.ref EU) none H) ∧
  (wide = ts.length → Tm.oks (fun i => 0 ≤ i ∧ i < many) ts ∧ Tm.oks (fun i => 0 ≤ i ∧ i < ts.length) us ∧ Tm.deps us < d ∧ us.length ≤ 1000 ∧ (∀ t ∈ us.map (Tm.put (vat ts)), t.cst + t.lv ≤ 90000) ∧ ∀ z H', Mv [] H H' → RecAt K H' C z many (us.map (Tm.put (vat ts))) → Q (.ref z) H')
def recEq (many many2 : Int) (ts ts2 : List Tm) : Bool := decide (many = many2) && PyData.eqv (tsD ts) (tsD ts2)
def sp_RecipeEq (K : PySem.W.Frag) (C : Addr) : Sp := fun vs H Q _ => ∃ (x : Addr) (many : Int) (ts : List Tm) (y : V), vs = [.ref x, y] ∧ RecAt K H C x many ts ∧ SeqAt.shaped (tsD ts) = true ∧
  ((∃ x2 many2 ts2, y = .ref x2 ∧ RecAt K H C x2 many2 ts2 ∧ SeqAt.shaped (tsD ts2) = true ∧ Q (.bl (recEq many many2 ts ts2)) H) ∨ (∃ T, TyX K H y (.type T) ∧ plainTy T = true ∧ Q (.bl false) H))
def recText (many : Int) (ts : List Tm) : Str := Str.ofString "Recipe(" ++ (PyData.int many).shown ++ Str.ofString ", " ++ (tsD ts).shown ++ Str.ofString ")"
def sp_Recrepr (K : PySem.W.Frag) (C : Addr) : Sp := fun vs H Q _ => ∃ (x : Addr) (many : Int) (ts : List Tm), vs = [.ref x] ∧ RecAt K H C x many ts ∧ many.natAbs < 10 ^ 40 ∧ Shw (tsD ts) ∧ Q (.str (recText many ts)) H
theorem th_cnts {ts : List Tm} : (Tm.ths ts).length = ts.length := ths_len ts
theorem ths_map : ∀ ts : List Tm, Tm.ths ts = ts.map Tm.th
  | [] => by simp [Tm.ths]
  | t :: ts => by simp [Tm.ths, ths_map ts]
/-- terms over its variables: a recipe of them is made -/
theorem rec_good {many : Int} {ts : List Tm} {xs : List V} (hm : 0 ≤ many) (ho : Tm.oks (fun i => 0 ≤ i ∧ i < many) ts) (hl : ts.length ≤ 90000) (hc : ∀ t ∈ ts, t.cst + t.lv ≤ 90000) :
    recWrong (.int many) (some (xs, Tm.ths ts)) = none ∧ (Tm.ths ts).length ≤ 90000 ∧ ∀ t ∈ Tm.ths ts, t.cnt ≤ 90000 := by
  refine ⟨?_, by rw [ths_len]; exact hl, fun t ht => ?_⟩
  · show (if many < 0 then some 0 else if _ then none else some 1) = _
    rw [if_neg (by omega), if_pos ?_]
    rw [List.all_eq_true]
    intro t ht
    rw [ths_map] at ht
    obtain ⟨u, hu, rfl⟩ := List.mem_map.mp ht
    have h1 := Tm.oks_iff.mp ho u hu
    rw [isTerm_th (fun i h => h.1) u h1, under_th (fun i h => h.2) u h1]
    rfl
  · rw [ths_map] at ht
    obtain ⟨u, hu, rfl⟩ := List.mem_map.mp ht
    have := cnt_th u
    have := hc u hu
    omega
def vv : Tm → V
  | .var i => .int i
  | _ => .non
theorem rgv_vars (n : Int) : rgV 0 n = (varsT n.toNat).map vv := by
  unfold rgV varsT
  rw [List.map_map, Int.sub_zero]
  refine List.map_congr_left fun i _ => ?_
  show V.int (0 + (i : Int)) = V.int (i : Int)
  rw [Int.zero_add]
theorem ims_list {K : PySem.W.Frag} {H : Hp} : ∀ is : List Int, Ims K H ((is.map Tm.var).map vv) (Tm.ds (is.map Tm.var))
  | [] => .nil
  | i :: is => .cons (Im.int i) (ims_list is)
theorem vars_is (n : Nat) : varsT n = ((List.range n).map fun i : Nat => (i : Int)).map Tm.var := by
  unfold varsT
  rw [List.map_map]
  rfl
theorem ims_vars {K : PySem.W.Frag} {H : Hp} (n : Nat) : Ims K H ((varsT n).map vv) (Tm.ds (varsT n)) := by
  rw [vars_is]
  exact ims_list _
theorem vars_len (n : Nat) : (varsT n).length = n := by
  unfold varsT
  rw [List.length_map, List.length_range]
theorem vars_ok {many : Int} (h : 0 ≤ many) : Tm.oks (fun i => 0 ≤ i ∧ i < many) (varsT many.toNat) := by
  rw [Tm.oks_iff]
  intro t ht
  obtain ⟨i, hi, rfl⟩ := List.mem_map.mp ht
  have := List.mem_range.mp hi
  show 0 ≤ ((i : Nat) : Int) ∧ ((i : Nat) : Int) < many
  omega
theorem RecAt.tm {K : PySem.W.Frag} {H : Hp} {C x : Addr} {many : Int} {ts : List Tm} (h : RecAt K H C x many ts) : ∃ dx p xs, Slt H x C dx [some (.ref p), some (.int many)] ∧ SqT K H p xs ∧ Ims K H xs (Tm.ds ts) ∧ xs.length = ts.length := by
  obtain ⟨dx, p, xs, h1, h2, h3⟩ := h
  exact ⟨dx, p, xs, h1, h2, h3, by rw [h3.length, Tm.ds_map, List.length_map]⟩
section
variable {P : Program} {w : World} {K : PySem.W.Frag} {mg : Str → Option Value} {base : Heap}
theorem ok_Recipe_variables (T : TX K mg) {k : Nat} : FnOk P w K mg base CX0 (k + 1) T.d_Recipe_variables.f T.d_Recipe_variables.fd P_Recipe_variables (sp_Recvars K T.C_Recipe) := by
  refine T.d_Recipe_variables.F.ok sc_Recipe_variables (fun vs H Q E h => ?_) (fun cdv A outer s H vs Q E hr h => ?_)
  · obtain ⟨_, _, _, rfl, _⟩ := h
    rfl
  · obtain ⟨x, many, ts, rfl, hR, q⟩ := h
    obtain ⟨dx, p, xs, hs, hp, hx, hl⟩ := hR.tm
    refine ⟨_, (pss_one (ps_ret (pe_slC (K := K) rfl (pv 0)))), ?_⟩
    exact ⟨.ref x, rfl, x, T.C_Recipe, dx, T.p_Recipe_its_variables, _, 1, .int many, rfl, hs, T.c_Recipe, T.sl_Recipe_its_variables, rfl, q⟩
theorem ok_Recipe_terms (T : TX K mg) {k : Nat} : FnOk P w K mg base CX0 (k + 1) T.d_Recipe_terms.f T.d_Recipe_terms.fd P_Recipe_terms (sp_Recterms K T.C_Recipe) := by
  refine T.d_Recipe_terms.F.ok sc_Recipe_terms (fun vs H Q E h => ?_) (fun cdv A outer s H vs Q E hr h => ?_)
  · obtain ⟨_, _, _, rfl, _⟩ := h
    rfl
  · obtain ⟨x, many, ts, rfl, hR, q⟩ := h
    obtain ⟨dx, p, xs, hs, hp, hx, hl⟩ := hR.tm
    refine ⟨_, (pss_one (ps_ret (pe_slC (K := K) rfl (pv 0)))), ?_⟩
    exact ⟨.ref x, rfl, x, T.C_Recipe, dx, T.p_Recipe_its_terms, _, 0, .ref p, rfl, hs, T.c_Recipe, T.sl_Recipe_its_terms, rfl, q _ (.tup hp hx)⟩
theorem ok_Recipe___len__ (T : TX K mg) {k : Nat} : FnOk P w K mg base CX0 (k + 1) T.d_Recipe___len__.f T.d_Recipe___len__.fd P_Recipe___len__ (sp_Reclen K T.C_Recipe) := by
  refine T.d_Recipe___len__.F.ok sc_Recipe___len__ (fun vs H Q E h => ?_) (fun cdv A outer s H vs Q E hr h => ?_)
  · obtain ⟨_, _, _, rfl, _⟩ := h
    rfl
  · obtain ⟨x, many, ts, rfl, hR, q⟩ := h
    obtain ⟨dx, p, xs, hs, hp, hx, hl⟩ := hR.tm
    refine ⟨_, (pss_one (ps_ret (pe_callB (r := rLenG K) call_lenG (by rfl) T.b_len bt_len (pa_cons (pe_slC (K := K) rfl (pv 0)) pa_nil)))), ?_⟩
    refine ⟨.ref x, rfl, x, T.C_Recipe, dx, T.p_Recipe_its_terms, _, 0, .ref p, rfl, hs, T.c_Recipe, T.sl_Recipe_its_terms, rfl, ?_⟩
    walk_at "nc"
    refine rd_len (.inr hp) ?_
    rw [hl]
    exact q
theorem ok_Recipe___call__ (T : TX K mg) (d : Nat) {k : Nat} : FnOk P w K mg base CX0 (k + d + 3) T.d_Recipe___call__.f T.d_Recipe___call__.fd P_Recipe___call__ (sp_Reccall K T.C_Recipe d) := by
  have G_put_all : FnOk P w K mg base CX0 (d + 2) T.d_put_all.f T.d_put_all.fd P_put_all (sp_putAll K d) := by
    have h := ok_put_all (P := P) (w := w) (base := base) T d (k := 0)
    rwa [Nat.zero_add] at h
  refine T.d_Recipe___call__.F.ok sc_Recipe___call__ (fun vs H Q E h => ?_) (fun cdv A outer s H vs Q E hr h => ?_)
  · obtain ⟨_, _, _, _, _, _, rfl, _⟩ := h
    rfl
  · obtain ⟨x, c, many, ts, us, ys, rfl, hR, hU, hys, hok, hd, hl', q⟩ := h
    obtain ⟨dx, p, xs, hs, hp, hx, hl⟩ := hR.tm
    refine ⟨_, (pss_one (ps_ret (pe_call G_put_all (hr.mono (by omega)) rfl T.d_put_all.g T.d_put_all.F.kp T.d_put_all.b .nil pass0 (pa_cons (pe_slC (K := K) rfl (pv 0)) (pa_cons (pv 1) pa_nil))))), ?_⟩
    refine ⟨.ref x, rfl, x, T.C_Recipe, dx, T.p_Recipe_its_terms, _, 0, .ref p, rfl, hs, T.c_Recipe, T.sl_Recipe_its_terms, rfl, .ref c, rfl, ?_⟩
    exact ⟨p, c, xs, ys, ts, us, rfl, .inr hp, hx, hU, hys, hok, hd, hl', fun p' zs H' m' h1 h2 => q _ H' m' (.tup h1 h2)⟩
theorem ok_Recipe___eq__ (T : TX K mg) {k : Nat} : FnOk P w K mg base CX0 (k + 1) T.d_Recipe___eq__.f T.d_Recipe___eq__.fd P_Recipe___eq__ (sp_RecipeEq K T.C_Recipe) := by
  refine T.d_Recipe___eq__.F.ok sc_Recipe___eq__ (fun vs H Q E h => ?_) (fun cdv A outer s H vs Q E hr h => ?_)
  · obtain ⟨_, _, _, _, rfl, _⟩ := h
    rfl
  · obtain ⟨x, many, ts, y, rfl, hR, hsh, h⟩ := h
    obtain ⟨dx, p, xs, hs, hp, hx, hl⟩ := hR.tm
    have hu64 := hr.units
    refine ⟨_, (pss_cons (ps_if (PW.pt (pw_or (pt_not (pt_val (pe_callB (r := rIsiX K (.ref T.C_Recipe)) (call_isiX (.ref T.C_Recipe)) (by rfl) T.b_isinstance bt_isinstance (pa_cons (pv 1) (pa_cons (pe_glob rfl T.g_Recipe (show L2.RelV (.ref T.C_Recipe) _ from rfl)) pa_nil))))) (pw_or1 (pt_cmpR (r := rNeG K) (op_neG hu64) (pe_slC (K := K) rfl (pv 0)) (pe_slC (K := K) rfl (pv 1)) (nomark _))))) (pss_one (ps_ret pe_bl)) pss_nil) (pss_one (ps_ret (pe_cmpR (r := rEqG K) (op_eqG hu64) (pe_slC (K := K) rfl (pv 0)) (pe_slC (K := K) rfl (pv 1)) (nomark _))))), ?_⟩
    rcases h with ⟨x2, many2, ts2, rfl, hR2, hsh2, q⟩ | ⟨ty, ht, hpl, q⟩
    · obtain ⟨dx2, p2, xs2, hs2, hp2, hx2, hl2⟩ := hR2.tm
      refine ⟨.ref x2, rfl, ?_⟩
      walk_at "nc"
      refine Or.inl ⟨x2, T.C_Recipe, dx2, _, .ref T.C_Recipe, true, rfl, rfl, fun _ h => h, hs2, T.c_Recipe, T.is_Recipe, kitOne_self _, ?_⟩
      refine ⟨_, rfl, ?_⟩
      refine ⟨.ref x, rfl, x, T.C_Recipe, dx, T.p_Recipe_its_variables, _, 1, .int many, rfl, hs, T.c_Recipe, T.sl_Recipe_its_variables, rfl, ?_⟩
      refine ⟨.ref x2, rfl, x2, T.C_Recipe, dx2, T.p_Recipe_its_variables, _, 1, .int many2, rfl, hs2, T.c_Recipe, T.sl_Recipe_its_variables, rfl, ?_⟩
      refine Or.inl ⟨rfl, _, rfl, ite2 (fun e => ?_) (fun e => ?_)⟩
      · have hn : many ≠ many2 := fun z => by rw [z] at e; simp at e
        rw [show recEq many many2 ts ts2 = false by unfold recEq; rw [decide_eq_false hn]; rfl] at q
        exact q
      have hn : many = many2 := by simpa using e
      refine ⟨.ref x, rfl, x, T.C_Recipe, dx, T.p_Recipe_its_terms, _, 0, .ref p, rfl, hs, T.c_Recipe, T.sl_Recipe_its_terms, rfl, ?_⟩
      refine ⟨.ref x2, rfl, x2, T.C_Recipe, dx2, T.p_Recipe_its_terms, _, 0, .ref p2, rfl, hs2, T.c_Recipe, T.sl_Recipe_its_terms, rfl, ?_⟩
      refine Or.inr ⟨_, _, (Im.tup hp hx).dp, (Im.tup hp2 hx2).dp, hsh, hsh2, ?_⟩
      rw [show recEq many many2 ts ts2 = PyData.eqv (tsD ts) (tsD ts2) by unfold recEq; rw [decide_eq_true hn]; rfl] at q
      exact q
    · refine ⟨y, rfl, ?_⟩
      walk_at "nc"
      refine Or.inr ⟨y, .ref T.C_Recipe, .type ty, .ref T.C_Recipe, false, rfl, .own _, ht, kitOne_plain hpl T.c_Recipe.ic T.ty_Recipe, ?_⟩
      exact ⟨_, rfl, q⟩
theorem ok_Recipe___repr__ (T : TX K mg) {k : Nat} : FnOkG P w K mg base CX0 (k + 1) T.d_Recipe___repr__.f T.d_Recipe___repr__.fd P_Recipe___repr__ (sp_Recrepr K T.C_Recipe) := by
  refine okG T.d_Recipe___repr__.F sc_Recipe___repr__ (fun vs H Q E h => ?_) (fun cdv A outer s H vs Q E hgd hr h => ?_)
  · obtain ⟨_, _, _, rfl, _⟩ := h
    rfl
  · obtain ⟨x, many, ts, rfl, hR, h40, hsh, q⟩ := h
    obtain ⟨dx, p, xs, hs, hp, hx, hl⟩ := hR.tm
    have hu64 := hr.units
    refine ⟨_, (pss_one (ps_ret (pe_joined (PJ.cons pe_str (PJ.cons (pe_fmt (pe_slC (K := K) rfl (pv 0))) (PJ.cons pe_str (PJ.cons (pe_fmtRD hgd hu64 (pe_slC (K := K) rfl (pv 0))) (PJ.cons pe_str PJ.nil)))))))), ?_⟩
    have hf := fine_lay _ hsh.fi
    have hl1 : ((PyData.int many).shown).length ≤ 41 := shown_le (.int many) h40
    have hl2 : (tsD ts).shown.length ≤ 16000000 := Nat.le_trans (shown_le _ hsh.fi) hsh.wl
    have h16 : 16000100 ≤ sizeLine := by decide
    have l1 : (Str.ofString "Recipe(").length = 7 := by decide +kernel
    have l2 : (Str.ofString ", ").length = 2 := by decide +kernel
    have l3 : (Str.ofString ")").length = 1 := by decide +kernel
    have l4 : (Str.ofString "Recipe(" ++ (PyData.int many).shown).length ≤ 48 := by rw [strLen_append]; omega
    have l5 : (Str.ofString "Recipe(" ++ (PyData.int many).shown ++ Str.ofString ", ").length ≤ 50 := by rw [strLen_append]; omega
    have l6 : (Str.ofString "Recipe(" ++ (PyData.int many).shown ++ Str.ofString ", " ++ (tsD ts).shown).length ≤ 16000050 := by rw [strLen_append]; omega
    have l7 : (Str.ofString "Recipe(" ++ (PyData.int many).shown ++ Str.ofString ", " ++ (tsD ts).shown ++ Str.ofString ")").length ≤ 16000051 := by rw [strLen_append]; omega
    refine ⟨_, rfl, (by decide : _ ≤ sizeLine), ?_⟩
    rw [show Str.empty ++ Str.ofString "Recipe(" = Str.ofString "Recipe(" by decide +kernel]
    refine ⟨.ref x, rfl, x, T.C_Recipe, dx, T.p_Recipe_its_variables, _, 1, .int many, rfl, hs, T.c_Recipe, T.sl_Recipe_its_variables, rfl, .inr ⟨many, rfl, ?_, _, rfl, ?_, ?_⟩⟩
    · exact Nat.lt_trans (PySem.Flt.log2_lt_of (by decide) (Nat.lt_trans h40 (show 10 ^ 40 < 2 ^ 200 by decide))) (by decide)
    · exact Nat.le_trans l4 (by decide)
    refine ⟨_, rfl, ?_, ?_⟩
    · exact Nat.le_trans l5 (by decide)
    refine ⟨.ref x, rfl, x, T.C_Recipe, dx, T.p_Recipe_its_terms, _, 0, .ref p, rfl, hs, T.c_Recipe, T.sl_Recipe_its_terms, rfl, p, tsD ts, rfl, (Im.tup hp hx).dp, hf.2.1, hf.2.2, hsh.dp, Nat.le_trans hl2 (by decide), _, rfl, ?_, ?_⟩
    · exact Nat.le_trans l6 (by decide)
    refine ⟨_, rfl, ?_, ?_⟩
    · exact Nat.le_trans l7 (by decide)
    exact q
theorem ok_Recipe_keeping (T : TX K mg) (Y : TY P K mg) {k : Nat} : FnOk P w K mg base CX0 (k + 7) T.d_Recipe_keeping.f T.d_Recipe_keeping.fd P_Recipe_keeping (sp_Reckeep K T.C_Recipe) := by
  have G_Recipe___init__ : FnOk P w K mg base (CX P w) 5 T.d_Recipe___init__.f T.d_Recipe___init__.fd P_Recipe___init__ (sp_RecT K T.C_Recipe Y.C_Wrong) := ok_Recipe___init__ T Y
  refine T.d_Recipe_keeping.F.ok sc_Recipe_keeping (fun vs H Q E h => ?_) (fun cdv A outer s H vs Q E hr h => ?_)
  · obtain ⟨_, rfl, _⟩ := h
    rfl
  · obtain ⟨many, rfl, hm0, hm1, q⟩ := h
    refine ⟨_, (pss_one (ps_ret (pe_makeS ⟨T.mk_Recipe, T.d_Recipe___init__.M.at_, T.d_Recipe___init__.M.fn, T.k_Recipe⟩ G_Recipe___init__ (hr.mono (by omega)) rfl T.g_Recipe T.d_Recipe___init__.b (fun σ => passAt takes0 σ) (pa_cons (pv 0) (pa_cons (pe_listRg rfl (by rfl) T.b_list (prg_1 (by rfl) T.b_range (pv 0))) pa_nil))))), ?_⟩
    refine ⟨.int many, rfl, .int many, rfl, many, rfl, RgOk.of_le (by decide) (by omega) (by decide) (by omega), fun rl nrl => ?_⟩
    rw [rgv_vars]
    have e1 : upd H rl (.lst ((varsT many.toNat).map vv)) rl = some (.lst ((varsT many.toNat).map vv)) := upd_same
    have m1 : Mv [] H (upd H rl (.lst ((varsT many.toNat).map vv))) := .new nrl
    generalize upd H rl (.lst ((varsT many.toNat).map vv)) = H1 at e1 m1 ⊢
    intro z dz nz ndz hne
    have hi : Ims K H1 ((varsT many.toNat).map vv) (Tm.ds (varsT many.toNat)) := ims_vars _
    have hov := vars_ok hm0
    obtain ⟨hgood, hbd⟩ := rec_good (xs := (varsT many.toNat).map vv) hm0 hov (by rw [vars_len]; omega) (fun t ht => by
      obtain ⟨i, _, rfl⟩ := List.mem_map.mp ht
      simp [Tm.cst, Tm.lv])
    refine ⟨z, dz, .int many, .ref rl, z, .int many, _, H1, rfl, rfl, nz, ndz, hne, rfl, .lst (fun e => by rw [e, nz] at e1; cases e1) e1 (IsAll.of_ims _ _ hov hi), fun r hr' => ?_, fun k hk => ?_, fun many' r h1 h2 h3 p4 H4 m4 s4 e4 => ?_⟩
    · cases hr'
      exact hbd
    · rw [hgood] at hk
      cases hk
    · cases h1
      cases h2
      exact ⟨rfl, q z H4 (m1.trans m4) ⟨dz, p4, _, s4, e4, hi.mv m4⟩⟩
theorem ok_Recipe___mul__ (T : TX K mg) (Y : TY P K mg) (d : Nat) {k : Nat} : FnOk P w K mg base (CX P w) (k + d + 9) T.d_Recipe___mul__.f T.d_Recipe___mul__.fd P_Recipe___mul__ (sp_Recmul K T.C_Recipe Y.C_Unlike d) := by
  have G_put_all : FnOk P w K mg base CX0 (d + 2) T.d_put_all.f T.d_put_all.fd P_put_all (sp_putAll K d) := by
    have h := ok_put_all (P := P) (w := w) (base := base) T d (k := 0)
    rwa [Nat.zero_add] at h
  have G_Recipe___init__ : FnOk P w K mg base (CX P w) 5 T.d_Recipe___init__.f T.d_Recipe___init__.fd P_Recipe___init__ (sp_RecT K T.C_Recipe Y.C_Wrong) := ok_Recipe___init__ T Y
  refine T.d_Recipe___mul__.F.okX sc_Recipe___mul__ (fun vs H Q E h => ?_) (fun cdv A outer s H vs Q E hr h => ?_)
  · obtain ⟨_, _, _, _, _, _, rfl, _⟩ := h
    rfl
  · obtain ⟨x, y, many, wide, ts, us, rfl, hR, hR2, hm0, hl', qU, q⟩ := h
    obtain ⟨dx, p, xs, hs, hp, hx, hl⟩ := hR.tm
    obtain ⟨dx2, p2, xs2, hs2, hp2, hx2, hl2⟩ := hR2.tm
    have hu64 := hr.units
    refine ⟨_, (pss_cons (ps_if (pt_cmpR (r := rNeG K) (op_neG hu64) (pe_slC (K := K) rfl (pv 1)) (pe_callB (r := rLenG K) call_lenG (by rfl) T.b_len bt_len (pa_cons (pe_slC (K := K) rfl (pv 0)) pa_nil)) (nomark _)) (pss_one (ps_raise rfl (takes_of rfl rfl rfl rfl) (pmk_z Y.x_Unlike))) pss_nil) (pss_one (ps_ret (pe_makeS ⟨T.mk_Recipe, T.d_Recipe___init__.M.at_, T.d_Recipe___init__.M.fn, T.k_Recipe⟩ G_Recipe___init__ (hr.mono (by omega)) rfl T.g_Recipe T.d_Recipe___init__.b (fun σ => passAt (takes_of rfl rfl rfl rfl) σ) (pa_cons (pe_slC (K := K) rfl (pv 0)) (pa_cons (pe_call G_put_all (hr.mono (by omega)) rfl T.d_put_all.g T.d_put_all.F.kp T.d_put_all.b .nil pass0 (pa_cons (pe_slC (K := K) rfl (pv 1)) (pa_cons (pe_slC (K := K) rfl (pv 0)) pa_nil))) pa_nil)))))), ?_⟩
    refine ⟨.ref y, rfl, y, T.C_Recipe, dx2, T.p_Recipe_its_variables, _, 1, .int wide, rfl, hs2, T.c_Recipe, T.sl_Recipe_its_variables, rfl, ?_⟩
    refine ⟨.ref x, rfl, x, T.C_Recipe, dx, T.p_Recipe_its_terms, _, 0, .ref p, rfl, hs, T.c_Recipe, T.sl_Recipe_its_terms, rfl, ?_⟩
    walk_at "nc"
    refine rd_len (.inr hp) (Or.inl ⟨rfl, _, rfl, ?_⟩)
    rw [hl]
    refine ite2 (fun e => ?_) (fun e => ?_)
    · exact qU fun z => by rw [z] at e; simp at e
    have hw : wide = ts.length := by simpa using e
    obtain ⟨hts, hok, hd, hul, hcst, q2⟩ := q hw
    refine ⟨.ref x, rfl, x, T.C_Recipe, dx, T.p_Recipe_its_variables, _, 1, .int many, rfl, hs, T.c_Recipe, T.sl_Recipe_its_variables, rfl, ?_⟩
    refine ⟨.ref y, rfl, y, T.C_Recipe, dx2, T.p_Recipe_its_terms, _, 0, .ref p2, rfl, hs2, T.c_Recipe, T.sl_Recipe_its_terms, rfl, ?_⟩
    refine ⟨.ref x, rfl, x, T.C_Recipe, dx, T.p_Recipe_its_terms, _, 0, .ref p, rfl, hs, T.c_Recipe, T.sl_Recipe_its_terms, rfl, ?_⟩
    refine ⟨p2, p, xs2, xs, us, ts, rfl, .inr hp2, hx2, .inr hp, hx, hok, hd, hul, fun p3 zs H3 m3 e3 i3 => ?_⟩
    intro z dz nz ndz hne
    have hov : Tm.oks (fun i => 0 ≤ i ∧ i < many) (us.map (Tm.put (vat ts))) := by
      rw [← Tm.puts_map]
      exact Tm.oks_puts (fun i hi => Tm.oks_iff.mp hts _ (vat_mem hi.1 hi.2)) us hok
    obtain ⟨hgood, hbd⟩ := rec_good (xs := zs) hm0 hov (by rw [List.length_map]; omega) hcst
    refine ⟨z, dz, .int many, .ref p3, z, .int many, _, H3, rfl, rfl, nz, ndz, hne, rfl, .tup e3 (IsAll.of_ims _ _ hov i3), fun r hr' => ?_, fun k hk => ?_, fun many' r h1 h2 h3 p4 H4 m4 s4 e4 => ?_⟩
    · cases hr'
      exact hbd
    · rw [hgood] at hk
      cases hk
    · cases h1
      cases h2
      exact ⟨rfl, q2 z H4 (m3.trans m4) ⟨dz, p4, zs, s4, e4, i3.mv m4⟩⟩
end
end Fm
namespace Fm
open PySem PySem.Spec PyProof.Rows L2
theorem no0 {X : Cx} : ∀ (H : Hp) (s : Shared) (e : Value) (s' : Shared), CX0 X.stack H s E0 e s' → False := fun _ _ _ _ h => h
end Fm
/-! recipes as they are made, joined, told -/
namespace Fm
open PySem PySem.Spec PyProof.Rows L2 SlX
local macro_rules | `(tactic| walk_at "nn") => `(tactic| dsimp only [tC, tNil, tCons, tCB, tCall, gName, tSeq, tAsg, tPar, tDrop, tRet])
local macro_rules | `(tactic| walk_at "nc") => `(tactic| dsimp only [tC, tNil, tCons, tCB, tCall])
theorem xfC_ofR {K : PySem.W.Frag} {C : Addr} (h : ExcC K C) : XfC K C := ⟨h.hg, h.hk, h.hs, h.hd⟩
/-- terms that may be told -/
structure TsF (ts : List Tm) : Prop where
  ok : Tm.oks fit ts
  dp : Tm.deps ts ≤ 50
  sz : Tm.csts ts + 41 * Tm.lvs ts ≤ 300000
  ln : ts.length ≤ 100
theorem TsF.wl {ts : List Tm} (h : TsF ts) : fineAll (Tm.ds ts) ∧ PyData.depthAll (Tm.ds ts) ≤ 50 ∧ wls (Tm.ds ts) ≤ 300000 :=
  ⟨fine_ds (fun _ h => h) ts h.ok, by rw [depth_ds]; exact h.dp, Nat.le_trans (wl_ds ts h.ok) h.sz⟩
theorem TsF.shw {ts : List Tm} (h : TsF ts) : Shw (tsD ts) := by
  obtain ⟨h1, h2, h3⟩ := h.wl
  exact ⟨h1, by simp only [tsD, PyData.depth]; omega, by simp only [tsD, Fm.wl]; omega⟩
theorem rectext_ok {many : Int} {ts : List Tm} (hm : many.natAbs < 10 ^ 40) (h : TsF ts) : PyData.strOk (recText many ts) = true ∧ (recText many ts).length ≤ 300100 := by
  obtain ⟨h1, h2, h3⟩ := h.wl
  refine ⟨Txo.ok ?_, ?_⟩
  · unfold recText
    exact ((((txo_str _).app (txo_shown (.int many) hm)).app (txo_str _)).app (txo_shown (tsD ts) h1)).app (txo_str _)
  · have hl1 : ((PyData.int many).shown).length ≤ 41 := shown_le (.int many) hm
    have hl2 : (tsD ts).shown.length ≤ 300002 := Nat.le_trans (shown_le (tsD ts) h1) (by simp only [tsD, Fm.wl]; omega)
    have l1 : (Str.ofString "Recipe(").length = 7 := by decide +kernel
    have l2 : (Str.ofString ", ").length = 2 := by decide +kernel
    have l3 : (Str.ofString ")").length = 1 := by decide +kernel
    unfold recText
    rw [strLen_append, strLen_append, strLen_append, strLen_append]
    omega
def tellD (many : Int) (ts : List Tm) : PyData := .list [.int many, tsD ts, .int ts.length, .str (recText many ts)]
theorem tell_shw {many : Int} {ts : List Tm} (hm : many.natAbs < 10 ^ 40) (h : TsF ts) : Shw (tellD many ts) := by
  obtain ⟨h1, h2, h3⟩ := h.wl
  obtain ⟨h4, h5⟩ := rectext_ok hm h
  have hl := h.ln
  refine ⟨⟨hm, h1, Nat.lt_of_le_of_lt (show ((ts.length : Nat) : Int).natAbs ≤ 100 by omega) (by decide), h4, trivial⟩, ?_, ?_⟩
  · simp only [tellD, tsD, PyData.depth, PyData.depthAll]
    omega
  · simp only [tellD, tsD, Fm.wl, wls]
    omega
def sp_rmade (K : PySem.W.Frag) (C : Addr) : Sp := fun vs H Q _ => ∃ (mv tv : V) (b : Addr) (tm : Th) (rows : Option (List V × List Th)) (k : Nat), vs = [mv, tv] ∧ Is K b H mv tm ∧ RcV K b C H tv rows ∧ (∀ r, rows = some r → r.2.length ≤ 90000 ∧ ∀ t ∈ r.2, t.cnt ≤ 90000) ∧ recWrong tm rows = some k ∧
  ∀ v H', Mv [] H H' → Im K H' v (.tuple [.str "wrong", .int (k : Nat)]) → Q v H'
def sp_rtimes (K : PySem.W.Frag) (C : Addr) (d : Nat) : Sp := fun vs H Q _ => ∃ (x y : Addr) (many wide : Int) (ts us : List Tm), vs = [.ref x, .ref y] ∧ RecAt K H C x many ts ∧ RecAt K H C y wide us ∧ 0 ≤ many ∧ ts.length ≤ 1000 ∧
  (wide ≠ ts.length → ∀ v H', Mv [] H H' → Im K H' v (.tuple [.str "unlike", .none]) → Q v H') ∧
  (wide = ts.length → Tm.oks (fun i => 0 ≤ i ∧ i < many) ts ∧ Tm.oks (fun i => 0 ≤ i ∧ i < ts.length) us ∧ Tm.deps us < d ∧ us.length ≤ 1000 ∧ (∀ t ∈ us.map (Tm.put (vat ts)), t.cst + t.lv ≤ 90000) ∧ ∀ p z H', Mv [] H H' → SqT K H' p [.str "told", .ref z] → RecAt K H' C z many (us.map (Tm.put (vat ts))) → Q (.ref p) H')
def sp_rtells (K : PySem.W.Frag) (C : Addr) : Sp := fun vs H Q _ => ∃ (x c : Addr) (many : Int) (ts : List Tm) (ys : List V), vs = [.ref x, .int many, .ref c] ∧ RecAt K H C x many ts ∧ SqT K H c ys ∧ Ims K H ys (Tm.ds ts) ∧ many.natAbs < 10 ^ 40 ∧ TsF ts ∧ ∀ H', Mv [] H H' → Q (.bl true) H'
section
variable {P : Program} {w : World} {K : PySem.W.Frag} {mg : Str → Option Value} {base : Heap}
theorem ok__law_made (T : TX K mg) (Y : TY P K mg) {k : Nat} : FnOk P w K mg base CX0 (k + 8) T.d__law_made.f T.d__law_made.fd P__law_made (sp_rmade K T.C_Recipe) := by
  have G_Recipe___init__ : FnOk P w K mg base (CX P w) 5 T.d_Recipe___init__.f T.d_Recipe___init__.fd P_Recipe___init__ (sp_RecT K T.C_Recipe Y.C_Wrong) := ok_Recipe___init__ T Y
  refine T.d__law_made.F.ok sc__law_made (fun vs H Q E h => ?_) (fun cdv A outer s H vs Q E hr h => ?_)
  · obtain ⟨_, _, _, _, _, _, rfl, _⟩ := h
    rfl
  · obtain ⟨mv, tv, b, tm, rows, k, rfl, hm, hT, hbd, hk, q⟩ := h
    have hu64 := hr.units
    refine ⟨_, (pss_one (ps_try_as (i := 2) rfl rfl sc__law_made.nd rfl rfl ⟨rfl, by decide, Or.inl Y.x_MoveError.gC⟩ takes0 (fun W pn xe tk po => (pss_one (ps_ret (pe_tup (pa_cons pe_str (pa_cons (pe_makeS ⟨T.mk_Recipe, T.d_Recipe___init__.M.at_, T.d_Recipe___init__.M.fn, T.k_Recipe⟩ G_Recipe___init__ (hr.mono (by omega)) rfl T.g_Recipe T.d_Recipe___init__.b (fun σ => passAt tk σ) (pa_cons (pv 0) (pa_cons (pv 1) pa_nil))) pa_nil)))))) (fun a oe cls d pn hz hf => (pss_one (ps_ret (pe_ifExp (PW.pt (pw_and (pt_val (pe_callB (call_isX hz hf) (by rfl) T.b_isinstance bt_isinstance (pa_cons (pv 2) (pa_cons (pe_glob rfl Y.x_Wrong.gC (show L2.RelV (.ref Y.C_Wrong) _ from rfl)) pa_nil)))) (pw_and1 (pt_val (pe_callB (call_isX hz hf) (by rfl) T.b_isinstance bt_isinstance (pa_cons (pv 2) (pa_cons (pe_ty T.b_ValueError bt_ValueError) pa_nil))))))) (pe_tup (pa_cons pe_str (pa_cons (pe_xfG hz hf (pv 2)) pa_nil))) (pe_tup (pa_cons pe_str (pa_cons pe_non pa_nil))))))))), ?_⟩
    refine ⟨mv, rfl, tv, rfl, ?_⟩
    intro z dz nz ndz hne
    refine ⟨z, dz, mv, tv, b, tm, rows, H, rfl, rfl, nz, ndz, hne, hm, hT, hbd, fun k' hk' dd H1 m1 nd => ?_, fun many' r h1 h2 h3 p4 H4 m4 s4 e4 => ?_⟩
    · rw [hk] at hk'
      cases hk'
      refine ⟨true, Y.em_Wrong_MoveError, fun _ a na => ?_, fun z => by cases z⟩
      have e2 : upd H1 dd (.xd [("place", .int (k : Nat))]) dd = some (.xd [("place", .int (k : Nat))]) := upd_same
      have m2 : Mv [] H (upd H1 dd (.xd [("place", .int (k : Nat))])) := m1.trans (.new nd)
      generalize upd H1 dd (.xd [("place", .int (k : Nat))]) = H2 at e2 m2 na ⊢
      refine ⟨.ref a, rfl, ?_⟩
      walk_at "nc"
      refine ⟨Y.C_Wrong, .ref Y.C_Wrong, .ref Y.C_Wrong, true, rfl, Y.xc_Wrong, .inr ⟨dd, _, rfl, e2⟩, rfl, fun _ h => h, kitOne_self _, ?_⟩
      refine ⟨_, rfl, .ref a, rfl, Y.C_Wrong, .ty "ValueError", .type "ValueError", true, rfl, Y.xc_Wrong, .inr ⟨dd, _, rfl, e2⟩, rfl, fun _ h => h, Y.ev_Wrong, ?_⟩
      refine ⟨_, rfl, .ref a, rfl, rfl, Y.C_Wrong, dd, _, .int (k : Nat), rfl, xfC_ofR Y.xc_Wrong, Y.x_Wrong.no, rfl, e2, rfl, ?_⟩
      refine ⟨(by decide : 2 ≤ sizeLine), fun p np => ?_⟩
      exact q _ _ (m2.trans (.new np)) (.tup (.inl (.inl upd_same)) (.cons (.str _) (.cons (.int _) .nil)))
    · rw [hk] at h3
      cases h3
theorem ok__law_times (T : TX K mg) (Y : TY P K mg) {k : Nat} : FnOk P w K mg base CX0 (k + 21) T.d__law_times.f T.d__law_times.fd P__law_times (sp_rtimes K T.C_Recipe 8) := by
  have G_Recipe___mul__ : FnOk P w K mg base (CX P w) 20 T.d_Recipe___mul__.f T.d_Recipe___mul__.fd P_Recipe___mul__ (sp_Recmul K T.C_Recipe Y.C_Unlike 8) := ok_Recipe___mul__ T Y 8 (k := 3)
  refine T.d__law_times.F.ok sc__law_times (fun vs H Q E h => ?_) (fun cdv A outer s H vs Q E hr h => ?_)
  · obtain ⟨_, _, _, _, _, _, rfl, _⟩ := h
    rfl
  · obtain ⟨x, y, many, wide, ts, us, rfl, hR, hR2, hm0, hl, qU, q⟩ := h
    have hu64 := hr.units
    refine ⟨_, (pss_one (ps_try_as (i := 2) rfl rfl sc__law_times.nd rfl rfl ⟨rfl, by decide, Or.inl Y.x_MoveError.gC⟩ takes0 (fun W pn xe tk po => (pss_one (ps_ret (pe_tup (pa_cons pe_str (pa_cons (pe_mulS (k := 20) ⟨T.mul_Recipe, T.d_Recipe___mul__.M.at_, T.d_Recipe___mul__.M.fn⟩ G_Recipe___mul__ (hr.mono (by omega)) T.d_Recipe___mul__.b (fun σ => passAt tk σ) (pv 0) (pv 1)) pa_nil)))))) (fun a oe cls d pn hz hf => (pss_one (ps_ret (pe_ifExp (PW.pt (pw_and (pt_val (pe_callB (call_isX hz hf) (by rfl) T.b_isinstance bt_isinstance (pa_cons (pv 2) (pa_cons (pe_glob rfl Y.x_Unlike.gC (show L2.RelV (.ref Y.C_Unlike) _ from rfl)) pa_nil)))) (pw_and1 (pt_not (pt_val (pe_callB (call_isX hz hf) (by rfl) T.b_isinstance bt_isinstance (pa_cons (pv 2) (pa_cons (pe_glob rfl Y.x_Wrong.gC (show L2.RelV (.ref Y.C_Wrong) _ from rfl)) pa_nil)))))))) (pe_tup (pa_cons pe_str (pa_cons pe_non pa_nil))) (pe_tup (pa_cons pe_str (pa_cons pe_non pa_nil))))))))), ?_⟩
    obtain ⟨dx, p, xs, hs, hp, hx, _⟩ := hR.tm
    obtain ⟨dx2, p2, xs2, hs2, hp2, hx2, _⟩ := hR2.tm
    refine ⟨.ref x, rfl, .ref y, rfl, x, y, dx, dx2, _, _, rfl, rfl, hs, hs2, x, y, many, wide, ts, us, rfl, hR, hR2, hm0, hl, fun hw => ?_, fun hw => ?_⟩
    · refine ⟨true, Y.em_Unlike_MoveError, fun _ a na => ?_, fun z => by cases z⟩
      refine ⟨.ref a, rfl, ?_⟩
      walk_at "nc"
      refine ⟨Y.C_Unlike, .ref Y.C_Unlike, .ref Y.C_Unlike, true, rfl, Y.xc_Unlike, .inl rfl, rfl, fun _ h => h, kitOne_self _, ?_⟩
      refine ⟨_, rfl, .ref a, rfl, Y.C_Unlike, .ref Y.C_Wrong, .ref Y.C_Wrong, false, rfl, Y.xc_Unlike, .inl rfl, rfl, fun _ h => h, Y.ed_Unlike_Wrong, ?_⟩
      refine ⟨_, rfl, (by decide : 2 ≤ sizeLine), fun p np => ?_⟩
      exact qU hw _ _ (.new np) (.tup (.inl (.inl upd_same)) (.cons (.str _) (.cons .non .nil)))
    · obtain ⟨h1, h2, h3, h4, h5, q2⟩ := q hw
      refine ⟨h1, h2, h3, h4, h5, fun z H' m' hz => ⟨⟨z, rfl⟩, ?_⟩⟩
      refine ⟨(by decide : 2 ≤ sizeLine), fun p np => ?_⟩
      have mp := Mv.new (S := []) (o := .tup [.str "told", .ref z]) np
      exact q2 p z _ (m'.trans mp) (.inl (.inl upd_same)) (hz.mv mp)
theorem ok__law_tells (T : TX K mg) {k : Nat} : FnOkG P w K mg base CX0 (k + 3) T.d__law_tells.f T.d__law_tells.fd P__law_tells (sp_rtells K T.C_Recipe) := by
  have G__law_alike : FnOkG P w K mg base CX0 1 T.d__law_alike.f T.d__law_alike.fd P__law_alike (sp_alike K) := ok__law_alike T
  have G_Recipe_variables : FnOk P w K mg base CX0 1 T.d_Recipe_variables.f T.d_Recipe_variables.fd P_Recipe_variables (sp_Recvars K T.C_Recipe) := ok_Recipe_variables T
  have G_Recipe_terms : FnOk P w K mg base CX0 1 T.d_Recipe_terms.f T.d_Recipe_terms.fd P_Recipe_terms (sp_Recterms K T.C_Recipe) := ok_Recipe_terms T
  have G_Recipe___len__ : FnOk P w K mg base CX0 1 T.d_Recipe___len__.f T.d_Recipe___len__.fd P_Recipe___len__ (sp_Reclen K T.C_Recipe) := ok_Recipe___len__ T
  have G_Recipe___repr__ : FnOkG P w K mg base CX0 1 T.d_Recipe___repr__.f T.d_Recipe___repr__.fd P_Recipe___repr__ (sp_Recrepr K T.C_Recipe) := ok_Recipe___repr__ T
  refine okG T.d__law_tells.F sc__law_tells (fun vs H Q E h => ?_) (fun cdv A outer s H vs Q E hgd hr h => ?_)
  · obtain ⟨_, _, _, _, _, rfl, _⟩ := h
    rfl
  · obtain ⟨x, c, many, ts, ys, rfl, hR, hc, hy, h40, hF, q⟩ := h
    obtain ⟨dx, p, xs, hs, hp, hx, hl⟩ := hR.tm
    have hu64 := hr.units
    have hyl : ys.length = ts.length := by rw [hy.length, Tm.ds_map, List.length_map]
    refine ⟨_, (pss_cons (ps_set (i := 3) sc__law_tells.nd rfl (Or.inl rfl) (pe_op (r := rAddG K) op_addG (pe_op (r := rAddG K) op_addG (pe_op (r := rAddG K) op_addG (pe_op (r := rAddG K) op_addG pe_str (pe_callB (r := rReprG K) (call_reprG hgd hu64) (by rfl) T.b_repr bt_repr (pa_cons (pv 1) pa_nil))) pe_str) (pe_callB (r := rReprG K) (call_reprG hgd hu64) (by rfl) T.b_repr bt_repr (pa_cons (pv 2) pa_nil))) pe_str)) (pss_one (ps_ret (pe_callG G__law_alike hgd (hr.mono (by omega)) rfl T.d__law_alike.g T.d__law_alike.F.kp T.d__law_alike.b .nil pass0 (pa_cons (pe_lst (pa_cons (pe_propSl (pv 0) T.c_Recipe T.d_Recipe_variables.at_ T.d_Recipe_variables.get T.d_Recipe_variables.tk T.d_Recipe_variables.rc (fnR_of G_Recipe_variables T.d_Recipe_variables.b) (hr.mono (by omega)) no0) (pa_cons (pe_propSl (pv 0) T.c_Recipe T.d_Recipe_terms.at_ T.d_Recipe_terms.get T.d_Recipe_terms.tk T.d_Recipe_terms.rc (fnR_of G_Recipe_terms T.d_Recipe_terms.b) (hr.mono (by omega)) no0) (pa_cons (pe_callB (r := rLenOwn T.C_Recipe (sp_Reclen K T.C_Recipe) _) (call_lenOwn T.d_Recipe___len__.M.at_ T.d_Recipe___len__.M.fn (fnR_of G_Recipe___len__ T.d_Recipe___len__.b) (hr.mono (by omega)) pass0) (by rfl) T.b_len bt_len (pa_cons (pv 0) pa_nil)) (pa_cons (pe_callB (call_reprOwn T.d_Recipe___repr__.M.at_ T.d_Recipe___repr__.M.fn G_Recipe___repr__ T.d_Recipe___repr__.b hgd (hr.mono (by omega)) pass0) (by rfl) T.b_repr bt_repr (pa_cons (pv 0) pa_nil)) pa_nil))))) (pa_cons (pe_lst (pa_cons (pv 1) (pa_cons (pv 2) (pa_cons (pe_callB (r := rLenG K) call_lenG (by rfl) T.b_len bt_len (pa_cons (pv 2) pa_nil)) (pa_cons (pv 3) pa_nil))))) pa_nil)))))), ?_⟩
    have hsh := hF.shw
    have hf := fine_lay _ hsh.fi
    have l1 : (Str.ofString "Recipe(").length = 7 := by decide +kernel
    have l2 : (Str.ofString ", ").length = 2 := by decide +kernel
    have l3 : (Str.ofString ")").length = 1 := by decide +kernel
    have hl1 : ((PyData.int many).shown).length ≤ 41 := shown_le (.int many) h40
    have hl2 : (tsD ts).shown.length ≤ 300002 := Nat.le_trans (shown_le (tsD ts) hsh.fi) (by have := hF.wl.2.2; simp only [tsD, Fm.wl]; omega)
    have fits : ∀ x : Str, x.length ≤ 400000 → x.length ≤ sizeLine := fun x hx => Nat.le_trans hx (by decide)
    refine ⟨.int many, rfl, ?_⟩
    walk_at "nc"
    have hfm := fine_lay (.int many) h40
    have la : (Str.ofString "Recipe(" ++ (PyData.int many).shown).length ≤ 48 := by rw [strLen_append]; omega
    have lb : (Str.ofString "Recipe(" ++ (PyData.int many).shown ++ Str.ofString ", ").length ≤ 50 := by rw [strLen_append]; omega
    have lc : (Str.ofString "Recipe(" ++ (PyData.int many).shown ++ Str.ofString ", " ++ (tsD ts).shown).length ≤ 300052 := by rw [strLen_append]; omega
    have hln : ts.length ≤ 1000000 := Nat.le_trans hF.ln (by decide)
    refine ⟨.int many, .int many, rfl, .int many, hfm.2.1, hfm.2.2, by simp [PyData.depth], fits _ (by omega), ?_⟩
    refine Or.inr (Or.inl ⟨_, _, rfl, rfl, Nat.le_trans (show _ ≤ 300100 by omega) (by decide), ?_⟩)
    refine Or.inr (Or.inl ⟨_, _, rfl, rfl, Nat.le_trans (show _ ≤ 300100 by omega) (by decide), ?_⟩)
    refine ⟨.ref c, rfl, .ref c, tsD ts, rfl, (Im.tup hc hy).dp, hf.2.1, hf.2.2, hsh.dp, fits _ (by omega), ?_⟩
    refine Or.inr (Or.inl ⟨_, _, rfl, rfl, Nat.le_trans (show _ ≤ 300100 by omega) (by decide), ?_⟩)
    refine Or.inr (Or.inl ⟨_, _, rfl, rfl, Nat.le_trans (show _ ≤ 300100 by omega) (by decide), ?_⟩)
    refine ⟨.ref x, rfl, x, dx, _, rfl, hs, x, many, ts, rfl, hR, ?_⟩
    refine ⟨.ref x, rfl, x, dx, _, rfl, hs, x, many, ts, rfl, hR, fun v hv => ?_⟩
    refine ⟨.ref x, rfl, x, dx, _, rfl, hs, x, many, ts, rfl, hR, ts.length, rfl, hln, ?_⟩
    refine ⟨.ref x, rfl, x, dx, _, rfl, hs, x, many, ts, rfl, hR, h40, hsh, ⟨_, rfl⟩, ?_⟩
    refine ⟨(by decide : 4 ≤ sizeLine), fun p1 n1 => ?_⟩
    have m1 := Mv.new (S := []) (o := .lst [.int many, v, .int (ts.length : Nat), .str (recText many ts)]) n1
    have e1 : upd H p1 (.lst [.int many, v, .int (ts.length : Nat), .str (recText many ts)]) p1 = some (.lst [.int many, v, .int (ts.length : Nat), .str (recText many ts)]) := upd_same
    generalize upd H p1 (.lst [.int many, v, .int (ts.length : Nat), .str (recText many ts)]) = H1 at m1 e1 ⊢
    refine ⟨.int many, rfl, .ref c, rfl, .ref c, rfl, ?_⟩
    walk_at "nc"
    refine rd_len (.inr (m1.sqT hc)) ?_
    rw [hyl]
    refine ⟨_, rfl, (by decide : 4 ≤ sizeLine), fun p2 n2 => ?_⟩
    have m2 := Mv.new (S := []) (o := .lst [.int many, .ref c, .int (ts.length : Nat), .str (recText many ts)]) n2
    have e2 : upd H1 p2 (.lst [.int many, .ref c, .int (ts.length : Nat), .str (recText many ts)]) p2 = some (.lst [.int many, .ref c, .int (ts.length : Nat), .str (recText many ts)]) := upd_same
    have e12 := m2.same _ _ e1
    have m12 := m1.trans m2
    trace_state
    refine ⟨.ref p1, .ref p2, tellD many ts, rfl, .lst (.inl (.inl e12)) (.cons (.int _) (.cons (hv.mv m12).dp (.cons (.int _) (.cons (.str _) .nil)))), .lst (.inl (.inl e2)) (.cons (.int _) (.cons ((Im.tup hc hy).mv m12).dp (.cons (.int _) (.cons (.str _) .nil)))), tell_shw h40 hF, q _ m12⟩
end
end Fm
/-! data with lists and dicts in it: as it lies, and its text -/
namespace Fm
open PySem PySem.Spec PyProof.Rows L2
def kD : L2.Key → PyData
  | .inl i => .int i
  | .inr x => .str x
mutual
/-- v is laid as d; b: a list that may change meanwhile -/
inductive Js (K : PySem.W.Frag) (b : Addr) (H : Hp) : V → PyData → Prop
  | non : Js K b H .non .none
  | bl (c : Bool) : Js K b H (.bl c) (.bool c)
  | int (i : Int) : Js K b H (.int i) (.int i)
  | str (x : Str) (h : x.length ≤ 1000) : Js K b H (.str x) (.str x)
  | lst {a : Addr} {xs : List V} {ds : List PyData} : a ≠ b → H a = some (.lst xs) → JsAll K b H xs ds → Js K b H (.ref a) (.list ds)
  | tup {a : Addr} {xs : List V} {ds : List PyData} : SqT K H a xs → JsAll K b H xs ds → Js K b H (.ref a) (.tuple ds)
  | dct {a : Addr} {es : List (L2.Key × V)} {kvs : List (PyData × PyData)} : a ≠ b → H a = some (.dK es) → JsKv K b H es kvs → Js K b H (.ref a) (.dict kvs)
inductive JsAll (K : PySem.W.Frag) (b : Addr) (H : Hp) : List V → List PyData → Prop
  | nil : JsAll K b H [] []
  | cons {v : V} {vs : List V} {d : PyData} {ds : List PyData} : Js K b H v d → JsAll K b H vs ds → JsAll K b H (v :: vs) (d :: ds)
inductive JsKv (K : PySem.W.Frag) (b : Addr) (H : Hp) : List (L2.Key × V) → List (PyData × PyData) → Prop
  | nil : JsKv K b H [] []
  | cons {k : L2.Key} {v : V} {es : List (L2.Key × V)} {d : PyData} {kvs : List (PyData × PyData)} : Js K b H v d → JsKv K b H es kvs → JsKv K b H ((k, v) :: es) ((kD k, d) :: kvs)
end
section
variable {K : PySem.W.Frag} {b : Addr} {H H' : Hp}
mutual
theorem Js.mv (m : Mv [b] H H') : ∀ (d : PyData) (v : V), Js K b H v d → Js K b H' v d
  | .none, _, h => by cases h; exact .non
  | .bool c, _, h => by cases h; exact .bl c
  | .int i, _, h => by cases h; exact .int i
  | .str x, _, h => by
    cases h with
    | str _ h => exact .str x h
  | .list ds, _, h => by
    cases h with
    | lst hb ha hs => exact .lst hb (m.keep _ _ (by simpa using hb) ha) (JsAll.mv m ds _ hs)
  | .tuple ds, _, h => by
    cases h with
    | tup ha hs => exact .tup (m.sqT ha) (JsAll.mv m ds _ hs)
  | .dict kvs, _, h => by
    cases h with
    | dct hb ha hs => exact .dct hb (m.keep _ _ (by simpa using hb) ha) (JsKv.mv m kvs _ hs)
theorem JsAll.mv (m : Mv [b] H H') : ∀ (ds : List PyData) (vs : List V), JsAll K b H vs ds → JsAll K b H' vs ds
  | [], _, h => by cases h; exact .nil
  | d :: ds, _, h => by
    cases h with
    | cons h1 h2 => exact .cons (Js.mv m d _ h1) (JsAll.mv m ds _ h2)
theorem JsKv.mv (m : Mv [b] H H') : ∀ (kvs : List (PyData × PyData)) (es : List (L2.Key × V)), JsKv K b H es kvs → JsKv K b H' es kvs
  | [], _, h => by cases h; exact .nil
  | (_, d) :: kvs, _, h => by
    cases h with
    | cons h1 h2 => exact .cons (Js.mv m d _ h1) (JsKv.mv m kvs _ h2)
end
theorem Js.mv0 {d : PyData} {v : V} (h : Js K b H v d) (m : Mv [] H H') : Js K b H' v d := Js.mv (m.mono (by simp)) d v h
theorem Js.dr {d : PyData} {v : V} (h : Js K b H v d) (m : Dr b H H') : Js K b H' v d := Js.mv m.mv d v h
theorem JsAll.mv0 {ds : List PyData} {vs : List V} (h : JsAll K b H vs ds) (m : Mv [] H H') : JsAll K b H' vs ds := JsAll.mv (m.mono (by simp)) ds vs h
theorem JsAll.dr {ds : List PyData} {vs : List V} (h : JsAll K b H vs ds) (m : Dr b H H') : JsAll K b H' vs ds := JsAll.mv m.mv ds vs h
theorem JsAll.length : ∀ {ds : List PyData} {vs : List V}, JsAll K b H vs ds → vs.length = ds.length
  | [], _, h => by cases h; rfl
  | d :: ds, _, h => by
    cases h with
    | cons _ h2 => simp [h2.length]
theorem JsAll.append : ∀ {ds es : List PyData} {vs us : List V}, JsAll K b H vs ds → JsAll K b H us es → JsAll K b H (vs ++ us) (ds ++ es)
  | [], _, _, _, h, k => by cases h; exact k
  | d :: ds, _, _, _, h, k => by
    cases h with
    | cons h1 h2 => exact .cons h1 (h2.append k)
theorem JsAll.get : ∀ {ds : List PyData} {vs : List V} {i : Nat} {v : V}, JsAll K b H vs ds → vs[i]? = some v → ∃ d, ds[i]? = some d ∧ Js K b H v d
  | [], _, _, _, h, e => by cases h; simp at e
  | d :: ds, _, 0, _, h, e => by
    cases h with
    | cons h1 h2 =>
      simp at e
      subst e
      exact ⟨d, rfl, h1⟩
  | d :: ds, _, i + 1, _, h, e => by
    cases h with
    | cons h1 h2 => exact h2.get (i := i) (by simpa using e)
theorem JsAll.getD : ∀ {ds : List PyData} {vs : List V} {i : Nat} {d : PyData}, JsAll K b H vs ds → ds[i]? = some d → ∃ v, vs[i]? = some v ∧ Js K b H v d
  | [], _, _, _, h, e => by simp at e
  | d :: ds, _, 0, _, h, e => by
    cases h with
    | cons h1 h2 =>
      simp at e
      subst e
      exact ⟨_, rfl, h1⟩
  | d :: ds, _, i + 1, _, h, e => by
    cases h with
    | cons h1 h2 => exact h2.getD (i := i) (by simpa using e)
theorem JsAll.take : ∀ {ds : List PyData} {vs : List V} (n : Nat), JsAll K b H vs ds → JsAll K b H (vs.take n) (ds.take n)
  | [], _, n, h => by cases h; simpa using JsAll.nil
  | d :: ds, _, 0, h => by simpa using JsAll.nil
  | d :: ds, _, n + 1, h => by
    cases h with
    | cons h1 h2 => exact .cons h1 (h2.take n)
theorem JsAll.drop : ∀ {ds : List PyData} {vs : List V} (n : Nat), JsAll K b H vs ds → JsAll K b H (vs.drop n) (ds.drop n)
  | [], _, n, h => by cases h; simpa using JsAll.nil
  | d :: ds, _, 0, h => by simpa using h
  | d :: ds, _, n + 1, h => by
    cases h with
    | cons h1 h2 => exact h2.drop n
theorem Js.tup2 {v : V} {d e : PyData} (h : Js K b H v (.tuple [d, e])) : ∃ a x y, v = .ref a ∧ SqT K H a [x, y] ∧ Js K b H x d ∧ Js K b H y e := by
  cases h with
  | tup ha hs =>
    cases hs with
    | cons h1 h2 =>
      cases h2 with
      | cons h3 h4 =>
        cases h4
        exact ⟨_, _, _, rfl, ha, h1, h3⟩
mutual
/-- what kind of thing it is -/
def thD : PyData → Th
  | .none => .non
  | .bool c => .bl c
  | .int i => .int i
  | .str x => .str x
  | .list _ => .lst
  | .tuple ds => .tup (thDs ds)
  | .dict _ => .dct
def thDs : List PyData → List Th
  | [] => []
  | d :: ds => thD d :: thDs ds
end
theorem thDs_map : ∀ ds : List PyData, thDs ds = ds.map thD
  | [] => by simp [thDs]
  | d :: ds => by simp [thDs, thDs_map ds]
mutual
theorem Js.is : ∀ (d : PyData) (v : V), Js K b H v d → Is K b H v (thD d)
  | .none, _, h => by cases h; rfl
  | .bool c, _, h => by cases h; rfl
  | .int i, _, h => by cases h; rfl
  | .str x, _, h => by
    cases h with
    | str _ h => exact ⟨rfl, h⟩
  | .list ds, _, h => by
    cases h with
    | lst hb ha hs => exact ⟨_, _, rfl, hb, ha⟩
  | .tuple ds, _, h => by
    cases h with
    | tup ha hs => exact ⟨_, _, rfl, ha, JsAll.is ds _ hs⟩
  | .dict kvs, _, h => by
    cases h with
    | dct hb ha hs => exact ⟨_, _, rfl, hb, ha⟩
theorem JsAll.is : ∀ (ds : List PyData) (vs : List V), JsAll K b H vs ds → IsAll K b H vs (thDs ds)
  | [], _, h => by cases h; exact IsAll.nil
  | d :: ds, _, h => by
    cases h with
    | cons h1 h2 => exact IsAll.cons (Js.is d _ h1) (JsAll.is ds _ h2)
end
mutual
/-- no text is long -/
def shs : PyData → Prop
  | .none => True
  | .bool _ => True
  | .int _ => True
  | .str x => x.length ≤ 1000
  | .list xs => shsA xs
  | .tuple xs => shsA xs
  | .dict _ => True
def shsA : List PyData → Prop
  | [] => True
  | x :: xs => shs x ∧ shsA xs
end
mutual
theorem Js.of0 : ∀ (d : PyData) (v : V), imm d = true → Dp K H v d → shs d → Js K b H v d
  | .none, _, _, h, _ => by cases h; exact .non
  | .bool c, _, _, h, _ => by cases h; exact .bl c
  | .int i, _, _, h, _ => by cases h; exact .int i
  | .str x, _, _, h, l => by
    cases h
    exact .str x l
  | .list ds, _, i, _, _ => by simp [imm] at i
  | .tuple ds, _, i, h, l => by
    cases h with
    | tup ha hs => exact .tup ha (JsAll.of0 ds _ (by simpa [imm] using i) hs l)
  | .dict _, _, i, _, _ => by simp [imm] at i
theorem JsAll.of0 : ∀ (ds : List PyData) (vs : List V), immAll ds = true → DpAll K H vs ds → shsA ds → JsAll K b H vs ds
  | [], _, _, h, _ => by cases h; exact .nil
  | d :: ds, _, i, h, l => by
    have i' : imm d = true ∧ immAll ds = true := by simpa [immAll] using i
    cases h with
    | cons h1 h2 => exact .cons (Js.of0 d _ i'.1 h1 l.1) (JsAll.of0 ds _ i'.2 h2 l.2)
end
theorem Js.of {d : PyData} {v : V} (h : Im K H v d) (l : shs d) : Js K b H v d := Js.of0 d v h.im h.dp l
theorem JsAll.of {ds : List PyData} {vs : List V} (h : Ims K H vs ds) (l : shsA ds) : JsAll K b H vs ds := JsAll.of0 ds vs h.im h.dp l
end
/-! its text -/
mutual
def fin : PyData → Prop
  | .none => True
  | .bool _ => True
  | .int i => i.natAbs < 10 ^ 40
  | .str x => PyData.strOk x = true
  | .list xs => fins xs
  | .tuple xs => fins xs
  | .dict kvs => finK kvs
def fins : List PyData → Prop
  | [] => True
  | x :: xs => fin x ∧ fins xs
def finK : List (PyData × PyData) → Prop
  | [] => True
  | (k, v) :: r => fin k ∧ fin v ∧ finK r
end
mutual
def wj : PyData → Nat
  | .none => 4
  | .bool _ => 5
  | .int _ => 41
  | .str x => 10 * x.length + 2
  | .list xs => wjs xs + 2
  | .tuple xs => wjs xs + 2
  | .dict kvs => wjK kvs + 2
def wjs : List PyData → Nat
  | [] => 0
  | x :: xs => wj x + 2 + wjs xs
def wjK : List (PyData × PyData) → Nat
  | [] => 0
  | (k, v) :: r => wj k + wj v + 4 + wjK r
end
theorem dictText_le (ts : List Str) : (dictText ts).length ≤ piled ts + 2 := by
  unfold dictText
  rw [strLen_append, strLen_append]
  have e1 : ((("{" : String) : Str)).length = 1 := rfl
  have e2 : ((("}" : String) : Str)).length = 1 := rfl
  rw [e1, e2]
  cases ts with
  | nil => decide +kernel
  | cons t r =>
    have := join_length_add (t :: r) (by simp)
    omega
mutual
theorem shown_wj : ∀ d : PyData, fin d → d.shown.length ≤ wj d
  | .none, _ => by simp only [PyData.shown]; decide
  | .bool b, _ => by cases b <;> (simp only [PyData.shown]; decide)
  | .int i, h => by
    simp only [PyData.shown, wj]
    rw [PySem.ofString_length]
    exact int_text_length_le10 (k := 40) (by decide) h
  | .str x, h => by
    simp only [PyData.shown, wj]
    refine StrLaws.reprText_len x fun c hc => ?_
    have h' : x.cps.all (· < 0x110000) = true := h
    rw [Array.all_eq_true_iff_forall_mem] at h'
    have := h' c (by simpa using hc)
    simp at this
    omega
  | .list xs, h => by
    have := shown_wjs xs h
    have := listText_le (PyData.shownAll xs)
    simp only [PyData.shown, wj]
    omega
  | .tuple xs, h => by
    have := shown_wjs xs h
    have := tupleText_le (PyData.shownAll xs)
    simp only [PyData.shown, wj]
    omega
  | .dict kvs, h => by
    have := shown_wjK kvs h
    have := dictText_le (PyData.shownKv kvs)
    simp only [PyData.shown, wj]
    omega
theorem shown_wjs : ∀ xs : List PyData, fins xs → piled (PyData.shownAll xs) ≤ wjs xs
  | [], _ => by simp [PyData.shownAll, piled, wjs]
  | x :: xs, h => by
    have h1 := shown_wj x h.1
    have h2 := shown_wjs xs h.2
    simp only [PyData.shownAll, wjs]
    rw [piled_cons]
    omega
theorem shown_wjK : ∀ kvs : List (PyData × PyData), finK kvs → piled (PyData.shownKv kvs) ≤ wjK kvs
  | [], _ => by simp [PyData.shownKv, piled, wjK]
  | (k, v) :: r, h => by
    have h1 := shown_wj k h.1
    have h2 := shown_wj v h.2.1
    have h3 := shown_wjK r h.2.2
    have e2 : (((": " : String) : Str)).length = 2 := rfl
    simp only [PyData.shownKv, wjK]
    rw [piled_cons, strLen_append, strLen_append, e2]
    omega
end
mutual
theorem showable_fin : ∀ d : PyData, fin d → d.showable = true
  | .none, _ => by simp [PyData.showable]
  | .bool b, _ => by simp [PyData.showable]
  | .int i, h => by
    have h' : i.natAbs < 10 ^ 40 := h
    have h2 : i.natAbs < 2 ^ 200 := Nat.lt_trans h' (by decide)
    simp only [PyData.showable, decide_eq_true_eq]
    exact Nat.lt_trans (PySem.Flt.log2_lt_of (by decide) h2) (by decide)
  | .str x, h => by simp [PyData.showable]
  | .list xs, h => by simpa [PyData.showable] using showable_fins xs h
  | .tuple xs, h => by simpa [PyData.showable] using showable_fins xs h
  | .dict kvs, h => by simpa [PyData.showable] using showable_finK kvs h
theorem showable_fins : ∀ xs : List PyData, fins xs → PyData.showableAll xs = true
  | [], _ => by simp [PyData.showableAll]
  | x :: xs, h => by simp [PyData.showableAll, showable_fin x h.1, showable_fins xs h.2]
theorem showable_finK : ∀ kvs : List (PyData × PyData), finK kvs → PyData.showableKv kvs = true
  | [], _ => by simp [PyData.showableKv]
  | (k, v) :: r, h => by simp [PyData.showableKv, showable_fin k h.1, showable_fin v h.2.1, showable_finK r h.2.2]
end
/-- what may be shown -/
structure ShJ (d : PyData) : Prop where
  fi : fin d
  dp : d.depth ≤ 60
  wj : wj d ≤ 16000000
/-! repr -/
/-- the modules' table is known -/
def SysAt (h : Heap) : Prop := ∃ o : Obj, h.get? sysModules = some o
section
variable {X : Cx} {pins : List (Addr × Obj)} {σ : L2.St} {H : Hp} {s : Shared} {b : Addr}
theorem noSys (I : Inv X pins σ H s) (hn : SysAt X.base) {a : Addr} {o : HO} (e : H a = some o) : a ≠ sysModules := by
  rintro rfl
  obtain ⟨u, hu⟩ := hn
  rw [(I.bs _ _ hu).2] at e
  cases e
theorem kv_rel : ∀ {es : List (L2.Key × V)} {kvs : List (PyData × PyData)}, JsKv X.K b H es kvs → ∀ {vs : List (L2.Key × Value)} {ens : List DictEntry}, KV es vs → Pairs (mixKind X.prog X.w) ens vs →
    (∀ d v u, (∃ k, (k, d) ∈ kvs) → Js X.K b H v d → RelV v u → ∃ as, Reads s.heap u d as ∧ sysModules ∉ as) →
    (∃ as, ReadsAll s.heap (ens.map (·.key)) (kvs.map (·.1)) as ∧ sysModules ∉ as) ∧ ∃ as, ReadsAll s.heap (ens.map (·.val)) (kvs.map (·.2)) as ∧ sysModules ∉ as
  | [], _, h, _, _, r, p, _ => by
    cases h
    cases r
    cases p
    exact ⟨⟨[], .nil, by simp⟩, [], .nil, by simp⟩
  | (k, v) :: es, _, h, _, _, r, p, ih => by
    cases h with
    | cons hd hs =>
      cases r with
      | cons e t =>
        obtain ⟨e, rv⟩ := e
        cases p with
        | cons hk hv hp =>
          have ih2 := kv_rel hs t hp fun d' v u h' => ih d' v u (h'.elim fun k' hm => ⟨k', List.mem_cons_of_mem _ hm⟩)
          obtain ⟨⟨as, a1, a2⟩, bs, b1, b2⟩ := ih2
          obtain ⟨cs, c1, c2⟩ := ih _ _ _ ⟨_, List.mem_cons_self⟩ hd rv
          have hk' : ∀ {u : Value}, keyIs k u = true → ∃ ks, Reads s.heap u (kD k) ks ∧ sysModules ∉ ks := by
            intro u hk
            rcases keyIs_shape hk with ⟨i, u, e1, e2⟩ | ⟨y, u, e1, e2⟩
            · rw [e1, e2]
              exact ⟨[], .int i u, by simp⟩
            · rw [e1, e2]
              exact ⟨[], .str y u, by simp⟩
          have e' : k = _ := e
          rw [← e'] at hk
          obtain ⟨ks, k1, k2⟩ := hk' hk
          refine ⟨⟨ks ++ as, .cons k1 a1, by simp [k2, a2]⟩, cs ++ bs, .cons ?_ b1, by simp [c2, b2]⟩
          rw [← hv] at c1
          exact c1
mutual
theorem Js.reads (I : Inv X pins σ H s) (hn : SysAt X.base) : ∀ (d : PyData) (v : V) (u : Value), Js X.K b H v d → RelV v u → ∃ as, Reads s.heap u d as ∧ sysModules ∉ as
  | .none, _, _, h, r => by
    cases h
    cases r
    exact ⟨_, Reads.none, by simp⟩
  | .bool b, _, _, h, r => by
    cases h
    cases r
    exact ⟨_, Reads.bool b, by simp⟩
  | .int i, _, _, h, r => by
    cases h
    obtain ⟨t, rfl⟩ := r
    exact ⟨_, Reads.int i t, by simp⟩
  | .str x, _, _, h, r => by
    cases h
    obtain ⟨t, rfl⟩ := r
    exact ⟨_, Reads.str x t, by simp⟩
  | .list ds, _, _, h, r => by
    cases h with
    | lst hb hs ha =>
      cases r
      obtain ⟨its, rv, ⟨o, n, ho, hc, _, hd⟩, _⟩ := I.list (.inl (.inl hs))
      obtain ⟨as, hr, hm⟩ := Js.readsAll I hn ds _ its ha rv
      refine ⟨_, Reads.list ho hc hd hr, ?_⟩
      rw [List.mem_cons]
      rintro (e | e)
      · exact noSys I hn hs e.symm
      · exact hm e
  | .tuple ds, _, _, h, r => by
    cases h with
    | tup hs ha =>
      cases r
      obtain ⟨its, rv, ⟨o, ho, hc, n, hd⟩, _⟩ := I.tuple hs
      obtain ⟨as, hr, hm⟩ := Js.readsAll I hn ds _ its ha rv
      exact ⟨_, Reads.tuple ho hc hd hr, hm⟩
  | .dict kvs, _, _, h, r => by
    cases h with
    | dct hb hs ha =>
      cases r
      obtain ⟨_, hne, vs, rk, o, es, ep, ho, hx, hd, _, hp, _⟩ := dk_of I.hok hs
      obtain ⟨⟨as, a1, a2⟩, bs, b1, b2⟩ := kv_rel ha rk hp (Js.readsKv I hn kvs)
      refine ⟨_, Reads.dict ho hx.1 hd a1 b1, ?_⟩
      have hne' := beq_eq_false_iff_ne.mp hne
      simp only [List.cons_append, List.mem_cons, List.mem_append]
      rintro (e | e | e)
      · exact hne' e.symm
      · exact a2 e
      · exact b2 e
theorem Js.readsAll (I : Inv X pins σ H s) (hn : SysAt X.base) : ∀ (ds : List PyData) (vs : List V) (us : List Value), JsAll X.K b H vs ds → Vals vs us → ∃ as, ReadsAll s.heap us ds as ∧ sysModules ∉ as
  | [], _, _, h, r => by
    cases h
    cases r
    exact ⟨_, ReadsAll.nil, by simp⟩
  | d :: ds, _, _, h, r => by
    cases h with
    | cons h1 h2 =>
      cases r with
      | cons r1 r2 =>
        obtain ⟨as, q1, n1⟩ := Js.reads I hn d _ _ h1 r1
        obtain ⟨bs, q2, n2⟩ := Js.readsAll I hn ds _ _ h2 r2
        exact ⟨_, ReadsAll.cons q1 q2, by simp [n1, n2]⟩
theorem Js.readsKv (I : Inv X pins σ H s) (hn : SysAt X.base) : ∀ (kvs : List (PyData × PyData)) (d : PyData) (v : V) (u : Value), (∃ k, (k, d) ∈ kvs) → Js X.K b H v d → RelV v u → ∃ as, Reads s.heap u d as ∧ sysModules ∉ as
  | [], _, _, _, ⟨_, h⟩, _, _ => by cases h
  | (k', d') :: kvs, d, v, u, ⟨k, h⟩, hj, r => by
    rcases List.mem_cons.mp h with e | h
    · have e' : d = d' := congrArg Prod.snd e
      rw [e'] at hj ⊢
      exact Js.reads I hn d' v u hj r
    · exact Js.readsKv I hn kvs d v u ⟨k, h⟩ hj r
end
def rReprJ (K : PySem.W.Frag) : List V → Hp → VK → Prop := fun xs H Q => ∃ (x : V) (d : PyData) (b : Addr), xs = [x] ∧ Js K b H x d ∧ ShJ d ∧ Q (.str d.shown) H
theorem call_reprJ (hn : SysAt X.base) (hg : X.A.guards = some []) (hu : X.A.units + 64 < cLine) : CallR X (.builtin "repr") (rReprJ X.K) := by
  intro pins s σ H xs us Q I rv h
  obtain ⟨x, d, b, rfl, hd, hsh, q⟩ := h
  obtain ⟨u, rfl, ru⟩ := rv.one
  obtain ⟨as, R, ns⟩ := Js.reads I hn d x u hd ru
  have hs := showable_fin d hsh.fi
  have hdp := hsh.dp
  have hz : d.shown.length ≤ sizeLine := by
    have := shown_wj d hsh.fi
    have := hsh.wj
    have e : sizeLine = 16777216 := rfl
    omega
  have fin : ∀ h' (t : Tok) tk, (∀ b o, s.heap.get? b = some o → h'.get? b = some o) → EP X pins σ Q (.str d.shown t) { s with heap := h', toks := tk } := fun h' t tk hk =>
    ⟨.str d.shown, H, I.kept (h' := h') (t' := tk) hk, ⟨t, rfl⟩, q⟩
  cases hd with
  | non =>
    cases ru
    exact PySem.P.repr_of_none (fin s.heap _ _ fun _ _ e => e)
  | bl b =>
    cases ru
    exact PySem.P.repr_of_bool (fin s.heap _ _ fun _ _ e => e)
  | int i =>
    obtain ⟨t, rfl⟩ := ru
    exact PySem.P.repr_of_int (by simpa [PyData.showable] using hs) (fin s.heap _ _ fun _ _ e => e)
  | str y =>
    obtain ⟨t, rfl⟩ := ru
    exact PySem.P.repr_of_str (fin s.heap _ _ fun _ _ e => e) hz
  | lst h0 h1 h2 =>
    cases ru
    exact PySem.repr_of_reads' R hs (fun _ => ns) hg (by omega) (fun _ _ e => e) (fun h' t tk hk => fin h' t tk hk) hz
  | tup h1 h2 =>
    cases ru
    exact PySem.repr_of_reads' R hs (fun _ => ns) hg (by omega) (fun _ _ e => e) (fun h' t tk hk => fin h' t tk hk) hz
  | dct h0 h1 h2 =>
    cases ru
    exact PySem.repr_of_reads' R hs (fun _ => ns) hg (by omega) (fun _ _ e => e) (fun h' t tk hk => fin h' t tk hk) hz
end
end Fm
namespace Fm
open PySem PySem.Spec PyProof.Rows L2
/-! tuple * int, also once and not at all -/
theorem tmul_one (l : Addr) (items : Array Value) (n : Nat) (dd : Option Addr) (sl : Array (Option Value)) (u : Tok) :
    Meets (Builtin.«tuple.__mul__» ⟨[.ref l, .int 1 u], []⟩) (fun _ R s => s.heap.get? l = some { cls := .type "tuple", dict := dd, data := .seq items n, slots := sl } ∧ R (.ok (.ret (Value.ref l))) s) :=
  .of_wp fun prog w A R s h => by
    obtain ⟨hp, g, d, tk, os⟩ := s
    obtain ⟨hl, h⟩ := h
    have f1 := AutoSeq1.idx_int
    have c0 : (decide ((1 : Int) < -(2 ^ 63)) || decide ((1 : Int) ≥ 2 ^ 63)) = false := by decide
    have c1 : (items.isEmpty || (1 : Int) == 1) = true := by simp
    wp_walk using wpAny_loadPart' hl
    repeat (first
      | (refine wpAny_ite_false (decide_eq_false (by rw [c0]; exact Bool.false_ne_true)) ?_; wp_walk using wpAny_loadPart' hl)
      | (refine wpAny_ite_true (decide_eq_true c1) ?_; wp_walk using wpAny_loadPart' hl))
    exact ⟨_, rfl, h⟩
theorem tmul_zero (l : Addr) (items : Array Value) (n : Nat) (dd : Option Addr) (sl : Array (Option Value)) (u : Tok) (hi : items.isEmpty = false) :
    Meets (Builtin.«tuple.__mul__» ⟨[.ref l, .int 0 u], []⟩) (fun _ R s => s.heap.get? l = some { cls := .type "tuple", dict := dd, data := .seq items n, slots := sl } ∧
      R (.ok (.ret (Value.ref s.heap.objs.size))) { s with heap := s.heap.push { cls := Value.type "tuple", data := Data.seq #[] }, toks := s.toks }) :=
  .of_wp fun prog w A R s h => by
    obtain ⟨hp, g, d, tk, os⟩ := s
    obtain ⟨hl, h⟩ := h
    have f1 := AutoSeq1.idx_int
    have c0 : (decide ((0 : Int) < -(2 ^ 63)) || decide ((0 : Int) ≥ 2 ^ 63)) = false := by decide
    have c1 : (items.isEmpty || (0 : Int) == 1) = false := by rw [hi]; rfl
    have c2 : (decide ((0 : Int) ≤ 0) || items.isEmpty) = true := by simp
    have hsz : (#[] : Array Value).size ≤ sizeLine := Nat.zero_le _
    wp_walk using wpAny_loadPart' hl
    repeat (first
      | (refine wpAny_ite_false (decide_eq_false (by rw [c0]; exact Bool.false_ne_true)) ?_; wp_walk using wpAny_loadPart' hl)
      | (refine wpAny_ite_false (decide_eq_false (by rw [c1]; exact Bool.false_ne_true)) ?_; wp_walk using wpAny_loadPart' hl)
      | (refine wpAny_ite_true (decide_eq_true c2) ?_; wp_walk using wpAny_loadPart' hl)
      | (refine wpAny_ite_false (decide_eq_false (Nat.not_lt.mpr hsz)) ?_; wp_walk using wpAny_loadPart' hl))
    exact ⟨_, rfl, h⟩
def rRepTG (K : PySem.W.Frag) : R2 := fun x y H Q => ∃ l k xs, x = .ref l ∧ y = .int k ∧ SqT K H l xs ∧ xs ≠ [] ∧ 0 ≤ k ∧ k ≤ 1000 ∧ xs.length ≤ 1000 ∧ (k = 1 → Q (.ref l) H) ∧ (k ≠ 1 → ∀ p, H p = none → Q (.ref p) (upd H p (.tup (List.replicate k.toNat xs).flatten)))
section
variable {X : Cx}
theorem op_repTG : OpR X (binaryOp .Mult) (rRepTG X.K) := by
  intro pins s σ H x y v u Q I rx ry h
  obtain ⟨l, k, xs, rfl, rfl, hT, hne, h1, h2, hz, q1, q2⟩ := h
  by_cases hk : 2 ≤ k
  · exact op_repT pins s σ H _ _ _ _ Q I rx ry ⟨l, k, xs, rfl, rfl, hT, hne, hk, h2, hz, q2 (by omega)⟩
  cases rx
  obtain ⟨t, rfl⟩ := ry
  obtain ⟨its, r, ⟨⟨cls, dd, data, sl⟩, ho, hc, n, hd⟩, hs⟩ := I.tuple hT
  simp only at hc hd
  subst hc hd
  have hle : its.length = xs.length := r.length.symm
  have hi : its.toArray.isEmpty = false := by
    cases its with
    | nil => exact absurd (List.eq_nil_of_length_eq_zero hle.symm) hne
    | cons a b => rfl
  have hk' : k = 0 ∨ k = 1 := by omega
  rcases hk' with rfl | rfl
  · refine wpAny_binaryOp_repeat_ref (T := "tuple") (U := "int") (by decide) ⟨_, ho, rfl⟩ (fun s' => typeIs_int s' 0 t) noFill_tuple_mul F.fills_int_mul F.slot_int_rmul repeat_tuple F.slot_int_index.lookup
      (call_meets F.slot_int_rmul (typeIs_int s 0 t) F.entry_int_rmul (F.args_int_rmul_2 _ _) (int_rmul_tuple 0 t l its.toArray n dd sl)
        ⟨ho, rfl, ⟨_, ho, rfl⟩, call_meets F.slot_tuple_mul ⟨_, ho, rfl⟩ F.entry_tuple_mul (F.args_tuple_mul_2 _ _) (tmul_zero l its.toArray n dd sl t hi) ⟨ho, ?_⟩⟩)
    refine ⟨.ref s.heap.objs.size, _, I.laid (t' := s.toks) (o := .tup []) (fun b ob q => Heap.get?_push_of_some _ q) (Nat.le_refl _) ?_, rfl, q2 (by decide) _ (I.hok.fresh (Nat.le_refl _))⟩
    exact ⟨Nat.zero_le _, [], .nil, IsTup.new _ _⟩
  · refine wpAny_binaryOp_repeat_ref (T := "tuple") (U := "int") (by decide) ⟨_, ho, rfl⟩ (fun s' => typeIs_int s' 1 t) noFill_tuple_mul F.fills_int_mul F.slot_int_rmul repeat_tuple F.slot_int_index.lookup
      (call_meets F.slot_int_rmul (typeIs_int s 1 t) F.entry_int_rmul (F.args_int_rmul_2 _ _) (int_rmul_tuple 1 t l its.toArray n dd sl)
        ⟨ho, rfl, ⟨_, ho, rfl⟩, call_meets F.slot_tuple_mul ⟨_, ho, rfl⟩ F.entry_tuple_mul (F.args_tuple_mul_2 _ _) (tmul_one l its.toArray n dd sl t) ⟨ho, ?_⟩⟩)
    exact ⟨.ref l, H, I, rfl, q1 rfl⟩
end
end Fm
/-! what is written down makes data -/
namespace Fm
open PySem PySem.Spec PyProof.Rows L2
theorem Mv.thereJ {H H' : Hp} {b : Addr} (m : Mv [] H H') (h : H b ≠ none) : H' b ≠ none := by
  cases e : H b with
  | none => exact absurd e h
  | some o =>
    rw [m.same _ _ e]
    exact Option.some_ne_none o
def MkJ (K : PySem.W.Frag) (b : Addr) (H0 : Hp) (σ : L2.St) (te : TE) (d : PyData) : Prop := ∀ (H : Hp) (Q : VK), Mv [] H0 H → (∀ v H', Mv [] H H' → Js K b H' v d → Q v H') → te σ H Q
def MkJs (K : PySem.W.Frag) (b : Addr) (H0 : Hp) (σ : L2.St) (ta : TA) (ds : List PyData) : Prop := ∀ (H : Hp) (Q : List V → Hp → Prop), Mv [] H0 H → (∀ xs H', Mv [] H H' → JsAll K b H' xs ds → Q xs H') → ta σ H Q
section
variable {K : PySem.W.Frag} {b : Addr} {H0 : Hp} {σ : L2.St} {te : TE} {ta : TA} {d : PyData} {ds : List PyData}
theorem mj_non : MkJ K b H0 σ (tC .non) .none := fun H Q _ q => q _ H .refl .non
theorem mj_bl (c : Bool) : MkJ K b H0 σ (tC (.bl c)) (.bool c) := fun H Q _ q => q _ H .refl (.bl c)
theorem mj_int (i : Int) : MkJ K b H0 σ (tC (.int i)) (.int i) := fun H Q _ q => q _ H .refl (.int i)
theorem mj_neg (i : Int) : MkJ K b H0 σ (tUn (rU fun i => .int (-i)) (tC (.int i))) (.int (-i)) := fun H Q _ q => ⟨i, rfl, q _ H .refl (.int _)⟩
theorem mj_str (x : Str) (h : x.length ≤ 1000) : MkJ K b H0 σ (tC (.str x)) (.str x) := fun H Q _ q => q _ H .refl (.str x h)
theorem mj_var {j : Nat} {v : V} (hj : σ[j]? = some (some v)) (h : Js K b H0 v d) : MkJ K b H0 σ (tVar j) d := fun H Q m q => ⟨v, hj, q _ H .refl (h.mv0 m)⟩
theorem mjs_nil : MkJs K b H0 σ tNil [] := fun H Q _ q => q _ H .refl .nil
theorem mjs_cons (h : MkJ K b H0 σ te d) (k : MkJs K b H0 σ ta ds) : MkJs K b H0 σ (tCons te ta) (d :: ds) := fun H Q hm q =>
  h H _ hm fun v H1 m1 i1 => k H1 _ (hm.trans m1) fun xs H2 m2 i2 => q _ H2 (m1.trans m2) (.cons (i1.mv0 m2) i2)
theorem mj_tup (hl : ds.length ≤ 1000) (h : MkJs K b H0 σ ta ds) : MkJ K b H0 σ (tTup ta) (.tuple ds) := fun H Q hm q =>
  h H _ hm fun xs H1 m1 i1 => ⟨Nat.le_of_lt (Nat.lt_of_le_of_lt (show xs.length ≤ 1000 by rw [i1.length]; exact hl) (by decide)), fun p np => q _ _ (m1.trans (.new np)) (.tup (.inl (.inl upd_same)) (i1.mv0 (.new np)))⟩
theorem mj_lst (hb : H0 b ≠ none) (hl : ds.length ≤ 1000) (h : MkJs K b H0 σ ta ds) : MkJ K b H0 σ (tLst ta) (.list ds) := fun H Q hm q =>
  h H _ hm fun xs H1 m1 i1 => ⟨Nat.le_of_lt (Nat.lt_of_le_of_lt (show xs.length ≤ 1000 by rw [i1.length]; exact hl) (by decide)), fun p np => q _ _ (m1.trans (.new np)) (.lst (fun e => (hm.trans m1).thereJ hb (e ▸ np)) upd_same (i1.mv0 (.new np)))⟩
theorem mj_dct (hb : H0 b ≠ none) : MkJ K b H0 σ tDNewK (.dict []) := fun H Q hm q p np => q _ _ (.new np) (.dct (fun e => hm.thereJ hb (e ▸ np)) upd_same .nil)
/-- a list of data, written down -/
theorem rd_lstJ {H : Hp} {Q : VK} (hl : ds.length ≤ 1000) (hm : Mv [] H0 H) (h : MkJs K b H0 σ ta ds) (q : ∀ p xs H', H p = none → Mv [] H H' → H' p = some (.lst xs) → JsAll K b H' xs ds → Q (.ref p) H') : tLst ta σ H Q :=
  h H _ hm fun xs H1 m1 i1 => ⟨Nat.le_of_lt (Nat.lt_of_le_of_lt (show xs.length ≤ 1000 by rw [i1.length]; exact hl) (by decide)), fun p np => q p xs _ (m1.free np) (m1.trans (.new np)) upd_same (i1.mv0 (.new np))⟩
/-- y = [..]; the rest -/
theorem sq_lstJ {H : Hp} {i : Nat} {tb : TS} {D : Ends} (ds : List PyData) (hl : ds.length ≤ 1000) (hm : Mv [] H0 H) (h : MkJs K b H0 σ ta ds) (q : ∀ p xs H', H p = none → Mv [] H H' → H' p = some (.lst xs) → JsAll K b H' xs ds → tb D (σ.set i (some (.ref p))) H') : tSeq (tAsg (tLst ta) (gName i)) tb D σ H := by
  show tLst ta σ H (fun x H1 => gName i x σ H1 (tb D))
  exact rd_lstJ hl hm h q
/-- t + u of tuples -/
theorem mj_cat {te2 : TE} {es : List PyData} (hl : ds.length + es.length ≤ 1000) (h : MkJ K b H0 σ te (.tuple ds)) (k : MkJ K b H0 σ te2 (.tuple es)) : MkJ K b H0 σ (tOp (rAddG K) te te2) (.tuple (ds ++ es)) := fun H Q hm q =>
  h H _ hm fun v H1 m1 i1 => k H1 _ (hm.trans m1) fun u H2 m2 i2 => by
    have i1' := i1.mv0 m2
    cases i1' with
    | tup ha hs =>
      cases i2 with
      | tup hc ht =>
        have l1 := hs.length
        have l2 := ht.length
        exact rd_cat ha hc (Nat.le_of_lt (Nat.lt_of_le_of_lt (show _ ≤ 1000 by omega) (by decide))) fun p H3 m3 e3 => q _ H3 (m1.trans (m2.trans m3)) (.tup e3 ((hs.append ht).mv0 m3))
/-- t[:k], t[k:] -/
theorem mj_hi {j : Nat} {a : Addr} {xs : List V} {tk : TE} {k : Nat} (hj : σ[j]? = some (some (.ref a))) (ha : SqT K H0 a xs) (hs : JsAll K b H0 xs ds) (hk : ∀ (H : Hp) (Q : VK), Q (.int k) H → tk σ H Q) : MkJ K b H0 σ (tSl (rSlG K) (tVar j) tNoPart (tPart tk)) (.tuple (ds.take k)) := fun H Q hm q =>
  ⟨.ref a, hj, hk H _ ⟨k, rfl, rd_slT (hm.sqT ha) fun p H1 m1 e1 => q _ H1 m1 (.tup e1 (by rw [cut_hi]; exact (hs.mv0 (hm.trans m1)).take k))⟩⟩
theorem mj_lo {j : Nat} {a : Addr} {xs : List V} {tk : TE} {k : Nat} (hj : σ[j]? = some (some (.ref a))) (ha : SqT K H0 a xs) (hs : JsAll K b H0 xs ds) (hk : ∀ (H : Hp) (Q : VK), Q (.int k) H → tk σ H Q) : MkJ K b H0 σ (tSl (rSlG K) (tVar j) (tPart tk) tNoPart) (.tuple (ds.drop k)) := fun H Q hm q =>
  ⟨.ref a, hj, hk H _ ⟨k, rfl, rd_slT (hm.sqT ha) fun p H1 m1 e1 => q _ H1 m1 (.tup e1 (by rw [cut_lo]; exact (hs.mv0 (hm.trans m1)).drop k))⟩⟩
end
/-! data put together -/
theorem wjs_append : ∀ ds es : List PyData, wjs (ds ++ es) = wjs ds + wjs es
  | [], es => by simp [wjs]
  | d :: ds, es => by
    simp only [List.cons_append, wjs, wjs_append ds es]
    omega
theorem fins_append : ∀ {ds es : List PyData}, fins (ds ++ es) ↔ fins ds ∧ fins es
  | [], es => by simp [fins]
  | d :: ds, es => by simp [fins, fins_append (ds := ds), and_assoc]
theorem depthAll_append : ∀ ds es : List PyData, PyData.depthAll (ds ++ es) = max (PyData.depthAll ds) (PyData.depthAll es)
  | [], es => by simp [PyData.depthAll]
  | d :: ds, es => by
    simp only [List.cons_append, PyData.depthAll, depthAll_append ds es]
    omega
/-- small data -/
structure SmJ (d : PyData) (n k : Nat) : Prop where
  fi : fin d
  wj : wj d ≤ n
  dp : d.depth ≤ k
structure SmJs (ds : List PyData) (n k : Nat) : Prop where
  fi : fins ds
  wj : wjs ds ≤ n
  dp : PyData.depthAll ds ≤ k
theorem SmJs.cut {ds : List PyData} {n k : Nat} (h : SmJs ds n k) (i : Nat) : fins (ds.take i) ∧ fins (ds.drop i) ∧ wjs (ds.take i) + wjs (ds.drop i) = wjs ds ∧ PyData.depthAll (ds.take i) ≤ k ∧ PyData.depthAll (ds.drop i) ≤ k := by
  have h1 := h.fi
  have h2 := h.dp
  have h3 : wjs ds = wjs (ds.take i ++ ds.drop i) := by rw [List.take_append_drop]
  rw [← List.take_append_drop i ds, fins_append] at h1
  rw [← List.take_append_drop i ds, depthAll_append] at h2
  rw [wjs_append] at h3
  exact ⟨h1.1, h1.2, h3.symm, by omega, by omega⟩
theorem SmJ.ofMem : ∀ {ds : List PyData} {d : PyData} {n k : Nat}, SmJs ds n k → d ∈ ds → SmJ d n k
  | e :: ds, d, n, k, h, hd => by
    have h1 := h.fi
    have h2 := h.wj
    have h3 := h.dp
    simp only [wjs] at h2
    simp only [PyData.depthAll] at h3
    rcases List.mem_cons.mp hd with rfl | hd
    · exact ⟨h1.1, by omega, by omega⟩
    · exact SmJ.ofMem ⟨h1.2, by omega, by omega⟩ hd
end Fm
namespace Fm
open PySem PySem.Spec PyProof.Rows L2
local macro_rules | `(tactic| walk_at "nn") => `(tactic| dsimp only [tC, tNil, tCons, tCB, tCall, gName, tSeq, tAsg, tPar, tDrop, tRet])
/-- a list or tuple in some other order -/
def sp_mixG (K : PySem.W.Frag) : Sp := fun vs H Q _ => ∃ (b l : Addr) (xs : List V), vs = [.ref b, .ref l] ∧ Bag H b ∧ ((H l = some (.lst xs) ∧ l ≠ b) ∨ SqT K H l xs) ∧ xs.length ≤ 1000 ∧
  ∀ (p : Addr) (ys : List V) H', ys.Perm xs → H p = none → H' p = some (.lst ys) → Dr b H H' → Q (.ref p) H'
theorem perm_ins {α : Type} (ms : List α) (j : Nat) (u : α) : (ms.take j ++ [u] ++ ms.drop j).Perm (ms ++ [u]) := by
  have h1 : (ms.take j ++ [u] ++ ms.drop j).Perm (ms.take j ++ (ms.drop j ++ [u])) := by
    rw [List.append_assoc]
    exact List.Perm.append_left _ List.perm_append_comm
  rw [← List.append_assoc, List.take_append_drop] at h1
  exact h1
section
variable {P : Program} {w : World} {K : PySem.W.Frag} {mg : Str → Option Value} {base : Heap}
end
end Fm
/-! what no recipe is made of -/
namespace Fm
open PySem PySem.Spec PyProof.Rows L2 SlX
local macro_rules | `(tactic| walk_at "nn") => `(tactic| dsimp only [tC, tNil, tCons, tCB, tCall, gName, tSeq, tAsg, tPar, tDrop, tRet])
local macro_rules | `(tactic| walk_at "nc") => `(tactic| dsimp only [tC, tNil, tCons, tCB, tCall])
/-- what is no recipe: the two arguments, and which of them is not as it must be -/
def BadR (K : PySem.W.Frag) (b C : Addr) (H : Hp) (z : V) : Prop := ∃ (q : Addr) (mv tv : V) (tm : Th) (rows : Option (List V × List Th)) (k : Nat), z = .ref q ∧ SqT K H q [mv, tv, .int (k : Nat)] ∧ Is K b H mv tm ∧ RcV K b C H tv rows ∧ (∀ r, rows = some r → r.2.length ≤ 90000 ∧ ∀ t ∈ r.2, t.cnt ≤ 90000) ∧ recWrong tm rows = some k
theorem BadR.mv {K : PySem.W.Frag} {b C : Addr} {H H' : Hp} {z : V} (h : BadR K b C H z) (m : Mv [] H H') : BadR K b C H' z := by
  obtain ⟨q, mv, tv, tm, rows, k, h0, h1, h2, h3, h4, h5⟩ := h
  exact ⟨q, mv, tv, tm, rows, k, h0, m.sqT h1, h2.mv0 m, h3.mv0 m, h4, h5⟩
theorem RcV.dr {K : PySem.W.Frag} {b C : Addr} {H H' : Hp} {v : V} {o : Option (List V × List Th)} (h : RcV K b C H v o) (m : Dr b H H') (hB : Bag H b) : RcV K b C H' v o := by
  cases h with
  | lst h0 h1 h2 => exact .lst h0 (m.get h0 h1) (h2.dr m)
  | tup h1 h2 => exact .tup (m.mv.sqT h1) (h2.dr m)
  | odd h h1 h2 => exact .odd (h.dr m) h1 h2
  | ins h => exact .ins (Slt.dr h m hB)
theorem BadR.dr {K : PySem.W.Frag} {b C : Addr} {H H' : Hp} {z : V} (h : BadR K b C H z) (m : Dr b H H') (hB : Bag H b) : BadR K b C H' z := by
  obtain ⟨q, mv, tv, tm, rows, k, h0, h1, h2, h3, h4, h5⟩ := h
  exact ⟨q, mv, tv, tm, rows, k, h0, m.mv.sqT h1, h2.dr m, h3.dr m hB, h4, h5⟩
/-- no term over so many -/
def odd (many : Int) (t : Th) : Prop := (isTerm t && under many t) = false ∧ t.cnt ≤ 90000
def oddR (many : Int) : List PyData := [.int many, .tuple [.str "f", .int many], .int (-1), .none, .bool true, .tuple [], .tuple [.str "F"], .str "a", .list [.int 0], .tuple [.str "f", .tuple [.str "g", .int many]]]
theorem oddR_odd {many : Int} (hm : 0 ≤ many) : ∀ u ∈ oddR many, (isTerm (thD u) && under many (thD u)) = false ∧ (thD u).cnt ≤ 6 := by
  intro u hu
  simp only [oddR, List.mem_cons, List.not_mem_nil, or_false] at hu
  have hF : nmd "F" = false := by decide +kernel
  rcases hu with rfl | rfl | rfl | rfl | rfl | rfl | rfl | rfl | rfl | rfl <;> refine ⟨?_, ?_⟩ <;>
    first | (simp [thD, thDs, isTerm, isTerms, isNamed, under, unders, hF]; done) | (simp [thD, thDs, Th.cnt, Th.cnts]; done) | skip
def sp_rbad (K : PySem.W.Frag) (C : Addr) : Sp := fun vs H Q _ => ∃ (b l : Addr) (many : Int) (xs : List V) (ts : List Tm), vs = [.ref b, .int many, .ref l] ∧ Bag H b ∧ 0 ≤ many ∧ many ≤ 1000 ∧ H l = some (.lst xs) ∧ l ≠ b ∧ Ims K H xs (Tm.ds ts) ∧ Tm.oks (fun i => 0 ≤ i ∧ i < many) ts ∧ ts.length ≤ 100 ∧ (∀ t ∈ ts, t.cst + t.lv ≤ 80000) ∧
  ∀ z H', Dr b H H' → BadR K b C H' z → Q z H'
theorem rep_flat {n : Nat} {x : V} : (List.replicate n [x]).flatten = List.replicate n x := by
  induction n with
  | zero => rfl
  | succ n ih => simp [List.replicate_succ, ih]
theorem is_reps {K : PySem.W.Frag} {b : Addr} {H : Hp} : ∀ n : Nat, IsAll K b H (List.replicate n (.str "a")) (List.replicate n (.str "a"))
  | 0 => .nil
  | n + 1 => by
    rw [List.replicate_succ, List.replicate_succ]
    exact .cons ⟨rfl, by decide⟩ (is_reps n)
theorem cnts_reps : ∀ n : Nat, Th.cnts (List.replicate n (.str "a")) = n
  | 0 => by simp [Th.cnts]
  | n + 1 => by
    rw [List.replicate_succ]
    simp only [Th.cnts, Th.cnt, cnts_reps n]
    omega
theorem not_term_reps : isTerm (.tup (List.replicate 19990 (.str "a"))) = false := by
  rw [show (19990 : Nat) = 19989 + 1 from rfl, List.replicate_succ]
  simp only [isTerm, List.length_replicate]
  rw [show decide (19989 ≤ 3) = false from rfl]
  simp
/-- great and deep things, none of them a term -/
def sp_gthings (K : PySem.W.Frag) : Sp := fun vs H Q _ => ∃ (b : Addr), vs = [] ∧ (∃ o, H b = some o) ∧ ∀ p (zs : List V) (us : List Th) H', Mv [] H H' → H p = none → H' p = some (.lst zs) → zs.length = 4 → IsAll K b H' zs us → (∀ u ∈ us, isTerm u = false ∧ u.cnt ≤ 80000) → Q (.ref p) H'
section
variable {P : Program} {w : World} {K : PySem.W.Frag} {mg : Str → Option Value} {base : Heap}
theorem ok__law_bad (T : TX K mg) (Y : TY P K mg) {k : Nat} : FnOk P w K mg base CX0 (k + 8) T.d__law_bad.f T.d__law_bad.fd P__law_bad (sp_rbad K T.C_Recipe) := by
  have G_Recipe___init__ : FnOk P w K mg base (CX P w) 5 T.d_Recipe___init__.f T.d_Recipe___init__.fd P_Recipe___init__ (sp_RecT K T.C_Recipe Y.C_Wrong) := ok_Recipe___init__ T Y
  have G__law_take : FnOk P w K mg base CX0 1 T.d__law_take.f T.d__law_take.fd P__law_take sp_take := ok__law_take T
  refine T.d__law_bad.F.ok sc__law_bad (fun vs H Q E h => ?_) (fun cdv A outer s H vs Q E hr h => ?_)
  · obtain ⟨_, _, _, _, _, rfl, _⟩ := h
    rfl
  · obtain ⟨b, l, many, xs, ts, rfl, hB, hm0, hm1, hl, hlb, hx, hok, hlen, hcst, q⟩ := h
    have hu64 := hr.units
    refine ⟨_, (pss_cons (ps_set (i := 3) sc__law_bad.nd rfl (Or.inl rfl) (pe_lst (pa_cons (pv 1) (pa_cons (pe_tup (pa_cons pe_str (pa_cons (pv 1) pa_nil))) (pa_cons (pe_un un_neg pe_int) (pa_cons pe_non (pa_cons pe_bl (pa_cons (pe_tup pa_nil) (pa_cons (pe_tup (pa_cons pe_str pa_nil)) (pa_cons pe_str (pa_cons (pe_lst (pa_cons pe_int pa_nil)) (pa_cons (pe_tup (pa_cons pe_str (pa_cons (pe_tup (pa_cons pe_str (pa_cons (pv 1) pa_nil))) pa_nil))) pa_nil)))))))))))) (pss_cons (ps_set (i := 4) sc__law_bad.nd rfl (Or.inl rfl) (pe_call G__law_take (hr.mono (by omega)) rfl T.d__law_take.g T.d__law_take.F.kp T.d__law_take.b .nil pass0 (pa_cons (pv 0) (pa_cons (pe_op (r := rAddG K) op_addG (pe_callB (r := rLenG K) call_lenG (by rfl) T.b_len bt_len (pa_cons (pv 2) pa_nil)) pe_int) pa_nil)))) (pss_cons (ps_set (i := 5) sc__law_bad.nd rfl (Or.inl rfl) (pe_op (r := rAddG K) op_addG (pe_op (r := rAddG K) op_addG (pe_slice (r := rSlG K) sl_G (pv 2) po_none (po_some (pv 4))) (pe_lst (pa_cons (pe_ix (r := rIx K) ix_seq (pv 3) (pe_call G__law_take (hr.mono (by omega)) rfl T.d__law_take.g T.d__law_take.F.kp T.d__law_take.b .nil pass0 (pa_cons (pv 0) (pa_cons pe_int pa_nil))) (fun _ _ => rfl)) pa_nil))) (pe_slice (r := rSlG K) sl_G (pv 2) (po_some (pv 4)) po_none))) (pss_cons (ps_set (i := 6) sc__law_bad.nd rfl (Or.inl rfl) (pe_lst (pa_cons (pe_tup (pa_cons (pe_un un_neg pe_int) (pa_cons (pv 2) (pa_cons pe_int pa_nil)))) (pa_cons (pe_tup (pa_cons pe_bl (pa_cons (pv 2) (pa_cons pe_int pa_nil)))) (pa_cons (pe_tup (pa_cons pe_non (pa_cons (pv 5) (pa_cons pe_int pa_nil)))) (pa_cons (pe_tup (pa_cons (pv 1) (pa_cons (pv 5) (pa_cons pe_int pa_nil)))) (pa_cons (pe_tup (pa_cons (pv 1) (pa_cons (pe_callTy (r := rTupOf K) call_tupG (by rfl) T.b_tuple bt_tuple (pa_cons (pv 5) pa_nil)) (pa_cons pe_int pa_nil)))) (pa_cons (pe_tup (pa_cons (pv 1) (pa_cons pe_non (pa_cons pe_int pa_nil)))) pa_nil)))))))) (pss_one (ps_ret (pe_ix (r := rIx K) ix_seq (pe_op (r := rAddG K) op_addG (pv 6) (pe_lst (pa_cons (pe_tup (pa_cons pe_str (pa_cons (pv 2) (pa_cons pe_int pa_nil)))) (pa_cons (pe_tup (pa_cons (pv 1) (pa_cons pe_str (pa_cons pe_int pa_nil)))) (pa_cons (pe_tup (pa_cons (pv 1) (pa_cons (pe_makeS ⟨T.mk_Recipe, T.d_Recipe___init__.M.at_, T.d_Recipe___init__.M.fn, T.k_Recipe⟩ G_Recipe___init__ (hr.mono (by omega)) rfl T.g_Recipe T.d_Recipe___init__.b (fun σ => passAt takes0 σ) (pa_cons (pv 1) (pa_cons (pv 2) pa_nil))) (pa_cons pe_int pa_nil)))) pa_nil))))) (pe_call G__law_take (hr.mono (by omega)) rfl T.d__law_take.g T.d__law_take.F.kp T.d__law_take.b .nil pass0 (pa_cons (pv 0) (pa_cons pe_int pa_nil))) (fun _ _ => rfl)))))))), ?_⟩
    -- odd things
    have hb0 : H b ≠ none := by
      obtain ⟨zs, e⟩ := hB.lst
      rw [e]
      exact Option.some_ne_none _
    dsimp only [tSeq, tAsg, gName]
    refine rd_lstJ (K := K) (b := b) (H0 := H) (ds := oddR many) (by simp only [oddR, List.length_cons, List.length_nil]; decide) .refl ?_ fun p1 ws H1 n1 m1 e1 i1 => ?_
    · unfold oddR
      repeat' first | exact mjs_nil | refine mjs_cons ?_ ?_ | exact mj_non | exact mj_bl _ | exact mj_int _ | exact mj_neg _ | exact mj_str _ (by decide +kernel) | exact mj_var rfl (.int _) | refine mj_tup (Nat.le_of_ble_eq_true rfl) ?_ | refine mj_lst hb0 (Nat.le_of_ble_eq_true rfl) ?_
    have hp1 : p1 ≠ b := hB.fneq n1
    have hxl : xs.length = ts.length := by rw [hx.length, Tm.ds_map, List.length_map]
    have hwl : ws.length = 10 := i1.length
    refine ⟨.ref b, rfl, .ref l, rfl, ?_⟩
    walk_at "nc"
    refine rd_len (.inl (.inl (.inl (m1.same _ _ hl)))) (Or.inl ⟨_, _, rfl, rfl, b, _, rfl, hB.mv m1, by omega, by omega, fun at_ H2 a0 a1 d2 => ?_⟩)
    obtain ⟨j, rfl⟩ : ∃ j : Nat, at_ = j := ⟨at_.toNat, by omega⟩
    have hj : j ≤ ts.length := by omega
    have hB2 := d2.bag (hB.mv m1)
    have hl2 := d2.get hlb (m1.same _ _ hl)
    have hx2 := (hx.mv m1).mv d2.mv
    have e01 := d2.get hp1 e1
    have i12 := i1.dr d2
    have d02 := (Dr.of (b := b) m1).trans d2
    refine ⟨.ref l, rfl, .int j, rfl, j, rfl, Or.inl ⟨l, xs, rfl, .inl (.inl hl2), fun p3 n3 => ?_⟩⟩
    rw [cut_hi]
    have hp3 : p3 ≠ b := hB2.fneq n3
    have k3 := Mv.new (S := []) (o := (.lst (xs.take j))) n3
    have e3 : upd H2 p3 (.lst (xs.take j)) p3 = some (.lst (xs.take j)) := upd_same
    generalize upd H2 p3 (.lst (xs.take j)) = H3 at k3 e3 ⊢
    have m3 := k3
    refine ⟨.ref p1, rfl, .ref b, rfl, b, 10, rfl, hB2.mv k3, by decide, by decide, fun o H4 o0 o1 d4 => ?_⟩
    have hlt : o.toNat < ws.length := by omega
    have i4 := (i12.mv0 k3).dr d4
    obtain ⟨u, hu, hju⟩ := i4.get (List.getElem?_eq_getElem hlt)
    refine rd_ixL (.inl (.inl (d4.get hp1 (k3.same _ _ e01)))) o0 (List.getElem?_eq_getElem hlt) ?_
    generalize ws[o.toNat] = y at hju ⊢
    refine ⟨(by decide : 1 ≤ sizeLine), fun p5 n5 => ?_⟩
    have k5 := Mv.new (S := []) (o := (.lst [y])) n5
    have e5 : upd H4 p5 (.lst [y]) p5 = some (.lst [y]) := upd_same
    generalize upd H4 p5 (.lst [y]) = H5 at k5 e5 ⊢
    have m5 := k5
    have e34 := k5.same _ _ (d4.get hp3 e3)
    have hle : (xs.take j).length ≤ 100 := by rw [List.length_take]; omega
    refine rd_catL e34 e5 (Nat.le_trans (show _ ≤ 101 by simp only [List.length_cons, List.length_nil]; omega) (by decide)) fun p6 H6 n6 k6 e6 => ?_
    have d36 := (Dr.of (b := b) k3).trans (d4.trans ((Dr.of k5).trans (.of k6)))
    have hl6 := d36.get hlb hl2
    refine ⟨.ref l, rfl, .int j, rfl, j, rfl, Or.inl ⟨l, xs, rfl, .inl (.inl hl6), fun p7 n7 => ?_⟩⟩
    rw [cut_lo]
    have k7 := Mv.new (S := []) (o := (.lst (xs.drop j))) n7
    have e7 : upd H6 p7 (.lst (xs.drop j)) p7 = some (.lst (xs.drop j)) := upd_same
    generalize upd H6 p7 (.lst (xs.drop j)) = H7 at k7 e7 ⊢
    have m7 := k7
    refine rd_catL (k7.same _ _ e6) e7 (Nat.le_trans (show _ ≤ 300 by simp only [List.length_append, List.length_cons, List.length_nil, List.length_drop]; omega) (by decide)) fun p8 H8 n8 k8 e8 => ?_
    have d38 := d36.trans ((Dr.of k7).trans (.of k8))
    have hl8 := d38.get hlb hl2
    have hx8 := hx2.mv d38.mv
    have hB8 := d38.bag hB2
    have hp8 : p8 ≠ b := (d36.trans (.of k7)).bag hB2 |>.fneq n8
    have hall8 : IsAll K b H8 xs (Tm.ths ts) := IsAll.of_ims ts xs hok hx8
    have hju8 := ((hju.mv0 k5).mv0 k6).mv0 (k7.trans k8)
    have d08 := d02.trans d38
    obtain ⟨hgood, hln, hcn⟩ := rec_good (xs := xs) hm0 hok (by omega) (fun t ht => by have := hcst t ht; omega)
    have hbadI : IsAll K b H8 (xs.take j ++ [y] ++ xs.drop j) ((Tm.ths ts).take j ++ [thD u] ++ (Tm.ths ts).drop j) := ((hall8.take j).append (.cons (Js.is _ _ hju8) .nil)).append (hall8.drop j)
    have hmem := List.mem_of_getElem? hu
    obtain ⟨hun, huc⟩ := oddR_odd hm0 u hmem
    have hbw : recWrong (.int many) (some (xs.take j ++ [y] ++ xs.drop j, (Tm.ths ts).take j ++ [thD u] ++ (Tm.ths ts).drop j)) = some 1 := by
      show (if many < 0 then some 0 else if _ then none else some 1) = _
      rw [if_neg (by omega), if_neg]
      simp only [List.all_append, List.all_cons, hun]
      simp
    have hbb : ∀ r, some (xs.take j ++ [y] ++ xs.drop j, (Tm.ths ts).take j ++ [thD u] ++ (Tm.ths ts).drop j) = some r → r.2.length ≤ 90000 ∧ ∀ t ∈ r.2, t.cnt ≤ 90000 := by
      intro r hr'
      cases hr'
      refine ⟨?_, fun t ht => ?_⟩
      · have h1 := ths_len ts
        simp only [List.length_append, List.length_take, List.length_drop, List.length_cons, List.length_nil]
        omega
      · rcases List.mem_append.mp ht with ht | ht
        · rcases List.mem_append.mp ht with ht | ht
          · exact hcn t (List.mem_of_mem_take ht)
          · rw [List.mem_singleton.mp ht]
            omega
        · exact hcn t (List.mem_of_mem_drop ht)
    have hgb : ∀ r, some (xs, Tm.ths ts) = some r → r.2.length ≤ 90000 ∧ ∀ t ∈ r.2, t.cnt ≤ 90000 := fun r hr' => by
      cases hr'
      exact ⟨hln, hcn⟩
    have hnb : ∀ r : List V × List Th, none = some r → r.2.length ≤ 90000 ∧ ∀ t ∈ r.2, t.cnt ≤ 90000 := fun r hr' => by cases hr'
    have R0 : RcV K b T.C_Recipe H8 (.ref l) (some (xs, Tm.ths ts)) := .lst hlb hl8 hall8
    have R1 : RcV K b T.C_Recipe H8 (.ref p8) (some (xs.take j ++ [y] ++ xs.drop j, (Tm.ths ts).take j ++ [thD u] ++ (Tm.ths ts).drop j)) := .lst hp8 e8 hbadI
    clear hju hju8 hu
    generalize xs.take j ++ [y] ++ xs.drop j = bw at e8 hbadI hbw hbb R1
    generalize (Tm.ths ts).take j ++ [thD u] ++ (Tm.ths ts).drop j = bt at hbadI hbw hbb R1
    refine ⟨1, rfl, .ref l, rfl, (by decide : 3 ≤ sizeLine), fun p10 n10 => ?_⟩
    rw [show (fun i : Int => V.int (-i)) 1 = V.int (-1) from rfl]
    have k10 := Mv.new (S := []) (o := (.tup [.int (-1), .ref l, .int 0])) n10
    have e10 : SqT K (upd H8 p10 (.tup [.int (-1), .ref l, .int 0])) p10 [.int (-1), .ref l, .int 0] := .inl (.inl upd_same)
    generalize upd H8 p10 (.tup [.int (-1), .ref l, .int 0]) = H10 at k10 e10 ⊢
    have m10 := k10
    refine ⟨.ref l, rfl, (by decide : 3 ≤ sizeLine), fun p11 n11 => ?_⟩
    have k11 := Mv.new (S := []) (o := (.tup [.bl true, .ref l, .int 0])) n11
    have e11 : SqT K (upd H10 p11 (.tup [.bl true, .ref l, .int 0])) p11 [.bl true, .ref l, .int 0] := .inl (.inl upd_same)
    generalize upd H10 p11 (.tup [.bl true, .ref l, .int 0]) = H11 at k11 e11 ⊢
    have m11 := m10.trans k11
    refine ⟨.ref p8, rfl, (by decide : 3 ≤ sizeLine), fun p12 n12 => ?_⟩
    have k12 := Mv.new (S := []) (o := (.tup [.non, .ref p8, .int 0])) n12
    have e12 : SqT K (upd H11 p12 (.tup [.non, .ref p8, .int 0])) p12 [.non, .ref p8, .int 0] := .inl (.inl upd_same)
    generalize upd H11 p12 (.tup [.non, .ref p8, .int 0]) = H12 at k12 e12 ⊢
    have m12 := m11.trans k12
    refine ⟨.int many, rfl, .ref p8, rfl, (by decide : 3 ≤ sizeLine), fun p13 n13 => ?_⟩
    have k13 := Mv.new (S := []) (o := (.tup [.int many, .ref p8, .int 1])) n13
    have e13 : SqT K (upd H12 p13 (.tup [.int many, .ref p8, .int 1])) p13 [.int many, .ref p8, .int 1] := .inl (.inl upd_same)
    generalize upd H12 p13 (.tup [.int many, .ref p8, .int 1]) = H13 at k13 e13 ⊢
    have m13 := m12.trans k13
    refine ⟨.int many, rfl, .ref p8, rfl, ?_⟩
    walk_at "nc"
    refine rd_tupOf (.inl (.inl (m13.same _ _ e8))) fun p14 H14 k14 e14 => ⟨(by decide : 3 ≤ sizeLine), fun p15 n15 => ?_⟩
    have m14 := m13.trans k14
    have k15 := Mv.new (S := []) (o := (.tup [.int many, .ref p14, .int 1])) n15
    have e15 : SqT K (upd H14 p15 (.tup [.int many, .ref p14, .int 1])) p15 [.int many, .ref p14, .int 1] := .inl (.inl upd_same)
    generalize upd H14 p15 (.tup [.int many, .ref p14, .int 1]) = H15 at k15 e15 ⊢
    have m15 := m14.trans k15
    refine ⟨.int many, rfl, (by decide : 3 ≤ sizeLine), fun p16 n16 => ?_⟩
    have k16 := Mv.new (S := []) (o := (.tup [.int many, .non, .int 1])) n16
    have e16 : SqT K (upd H15 p16 (.tup [.int many, .non, .int 1])) p16 [.int many, .non, .int 1] := .inl (.inl upd_same)
    generalize upd H15 p16 (.tup [.int many, .non, .int 1]) = H16 at k16 e16 ⊢
    have m16 := m15.trans k16
    refine ⟨(by decide : 6 ≤ sizeLine), fun p17 n17 => ?_⟩
    have k17 := Mv.new (S := []) (o := (.lst [.ref p10, .ref p11, .ref p12, .ref p13, .ref p15, .ref p16])) n17
    have e17 : upd H16 p17 (.lst [.ref p10, .ref p11, .ref p12, .ref p13, .ref p15, .ref p16]) p17 = some (.lst [.ref p10, .ref p11, .ref p12, .ref p13, .ref p15, .ref p16]) := upd_same
    generalize upd H16 p17 (.lst [.ref p10, .ref p11, .ref p12, .ref p13, .ref p15, .ref p16]) = H17 at k17 e17 ⊢
    have m17 := m16.trans k17
    refine ⟨.ref p17, rfl, .ref l, rfl, (by decide : 3 ≤ sizeLine), fun p18 n18 => ?_⟩
    have k18 := Mv.new (S := []) (o := (.tup [.str "1", .ref l, .int 0])) n18
    have e18 : SqT K (upd H17 p18 (.tup [.str "1", .ref l, .int 0])) p18 [.str "1", .ref l, .int 0] := .inl (.inl upd_same)
    generalize upd H17 p18 (.tup [.str "1", .ref l, .int 0]) = H18 at k18 e18 ⊢
    have m18 := m17.trans k18
    refine ⟨.int many, rfl, (by decide : 3 ≤ sizeLine), fun p19 n19 => ?_⟩
    have k19 := Mv.new (S := []) (o := (.tup [.int many, .str "", .int 1])) n19
    have e19 : SqT K (upd H18 p19 (.tup [.int many, .str "", .int 1])) p19 [.int many, .str "", .int 1] := .inl (.inl upd_same)
    generalize upd H18 p19 (.tup [.int many, .str "", .int 1]) = H19 at k19 e19 ⊢
    have m19 := m18.trans k19
    refine ⟨.int many, rfl, .int many, rfl, .ref l, rfl, ?_⟩
    intro z dz nz ndz hne
    refine ⟨z, dz, .int many, .ref l, b, .int many, _, H19, rfl, rfl, nz, ndz, hne, rfl, R0.mv0 m19, hgb, fun k hk => ?_, fun many' r h1 h2 h3 p4 Hz kz sz ez => ?_⟩
    · rw [hgood] at hk
      cases hk
    cases h1
    cases h2
    have mz := m19.trans kz
    refine ⟨rfl, (by decide : 3 ≤ sizeLine), fun p20 n20 => ?_⟩
    have k20 := Mv.new (S := []) (o := (.tup [.int many, .ref z, .int 1])) n20
    have e20 : SqT K (upd Hz p20 (.tup [.int many, .ref z, .int 1])) p20 [.int many, .ref z, .int 1] := .inl (.inl upd_same)
    generalize upd Hz p20 (.tup [.int many, .ref z, .int 1]) = H20 at k20 e20 ⊢
    have m20 := mz.trans k20
    refine ⟨(by decide : 3 ≤ sizeLine), fun p21 n21 => ?_⟩
    have k21 := Mv.new (S := []) (o := (.lst [.ref p18, .ref p19, .ref p20])) n21
    have e21 : upd H20 p21 (.lst [.ref p18, .ref p19, .ref p20]) p21 = some (.lst [.ref p18, .ref p19, .ref p20]) := upd_same
    generalize upd H20 p21 (.lst [.ref p18, .ref p19, .ref p20]) = H21 at k21 e21 ⊢
    have m21 := m20.trans k21
    have kz17 := k18.trans (k19.trans (kz.trans (k20.trans k21)))
    refine rd_catL (kz17.same _ _ e17) e21 (Nat.le_of_ble_eq_true rfl) fun p22 H22 n22 k22 e22 => ?_
    have m22 := m21.trans k22
    have hp22 : p22 ≠ b := (hB8.mv m21).fneq n22
    have f20 := k21.trans k22
    have f19 := kz.trans (k20.trans f20)
    have f18 := k19.trans f19
    have f17 := k18.trans f18
    have f16 := k17.trans f17
    have f15 := k16.trans f16
    have f14 := k15.trans f15
    have f13 := k14.trans f14
    have f12 := k13.trans f13
    have f11 := k12.trans f12
    have f10 := k11.trans f11
    have R0' := R0.mv0 m22
    have R1' := R1.mv0 m22
    have hbad : ∀ v ∈ ([.ref p10, .ref p11, .ref p12, .ref p13, .ref p15, .ref p16] ++ [.ref p18, .ref p19, .ref p20] : List V), BadR K b T.C_Recipe H22 v := by
      intro v hv
      simp only [List.cons_append, List.nil_append, List.mem_cons, List.not_mem_nil, or_false] at hv
      rcases hv with rfl | rfl | rfl | rfl | rfl | rfl | rfl | rfl | rfl
      · exact ⟨p10, _, _, .int (-1), _, 0, rfl, f10.sqT e10, rfl, R0', hgb, rfl⟩
      · exact ⟨p11, _, _, .bl true, _, 0, rfl, f11.sqT e11, rfl, R0', hgb, rfl⟩
      · exact ⟨p12, _, _, .non, _, 0, rfl, f12.sqT e12, rfl, R1', hbb, rfl⟩
      · exact ⟨p13, _, _, .int many, _, 1, rfl, f13.sqT e13, rfl, R1', hbb, hbw⟩
      · exact ⟨p15, _, _, .int many, some (bw, bt), 1, rfl, f15.sqT e15, rfl, .tup (f14.sqT e14) (hbadI.mv0 m22), hbb, hbw⟩
      · refine ⟨p16, _, _, .int many, none, 1, rfl, f16.sqT e16, rfl, .odd (t := .non) rfl rfl rfl, hnb, ?_⟩
        show (if many < 0 then some 0 else some 1) = _
        rw [if_neg (by omega)]
      · exact ⟨p18, _, _, .str "1", _, 0, rfl, f18.sqT e18, ⟨rfl, by decide⟩, R0', hgb, rfl⟩
      · refine ⟨p19, _, _, .int many, none, 1, rfl, f19.sqT e19, rfl, .odd (t := .str "") ⟨rfl, by decide⟩ rfl rfl, hnb, ?_⟩
        show (if many < 0 then some 0 else some 1) = _
        rw [if_neg (by omega)]
      · refine ⟨p20, _, _, .int many, none, 1, rfl, f20.sqT e20, rfl, .ins (Slt.mv sz (k20.trans f20)), hnb, ?_⟩
        show (if many < 0 then some 0 else some 1) = _
        rw [if_neg (by omega)]
    refine ⟨.ref b, rfl, b, 9, rfl, hB8.mv m22, by decide, by decide, fun i H23 i0 i1 d23 => ?_⟩
    have hlt9 : i.toNat < ([.ref p10, .ref p11, .ref p12, .ref p13, .ref p15, .ref p16] ++ [.ref p18, .ref p19, .ref p20] : List V).length := by
      simp only [List.length_append, List.length_cons, List.length_nil]
      omega
    refine rd_ixL (.inl (.inl (d23.get hp22 e22))) i0 (List.getElem?_eq_getElem hlt9) ?_
    exact q _ _ (d08.trans ((Dr.of m22).trans d23)) ((hbad _ (List.getElem_mem hlt9)).dr d23 (hB8.mv m22))
theorem ok__law_great_things (T : TX K mg) {k : Nat} : FnOk P w K mg base CX0 (k + 1) T.d__law_great_things.f T.d__law_great_things.fd P__law_great_things (sp_gthings K) := by
  refine T.d__law_great_things.F.ok sc__law_great_things (fun vs H Q E h => ?_) (fun cdv A outer s H vs Q E hr h => ?_)
  · obtain ⟨_, rfl, _⟩ := h
    rfl
  · obtain ⟨b, rfl, hb, q⟩ := h
    have hu64 := hr.units
    refine ⟨_, (pss_cons (ps_set (i := 0) sc__law_great_things.nd rfl (Or.inl rfl) (pe_op op_mulG (pe_lst (pa_cons pe_non pa_nil)) pe_int)) (pss_cons (ps_for PassesOwn.never rfl (pi_range1 (by rfl) T.b_range (pa_cons pe_int pa_nil)) (pg_name (i := 1) sc__law_great_things.nd rfl (Or.inl rfl)) (pss_one (ps_set (i := 0) sc__law_great_things.nd rfl (Or.inl rfl) (pe_ifExp (pt_cmpR (r := rEqG K) (op_eqG hu64) (pe_op op_mod (pe_callTy call_int1 (by rfl) T.b_int bt_int (pa_cons (pv 1) pa_nil)) pe_int) pe_int (nomark _)) (pe_lst (pa_cons (pv 0) pa_nil)) (pe_tup (pa_cons pe_str (pa_cons (pv 0) pa_nil))))))) (pss_one (ps_ret (pe_lst (pa_cons (pe_op op_mulG (pe_lst (pa_cons pe_non pa_nil)) pe_int) (pa_cons (pv 0) (pa_cons (pe_op (r := rRepTB K) op_repTB (pe_tup (pa_cons pe_str pa_nil)) pe_int) (pa_cons (pe_lst (pa_cons (pe_tup (pa_cons pe_str (pa_cons (pv 0) pa_nil))) pa_nil)) pa_nil))))))))), ?_⟩
    refine ⟨(by decide : 1 ≤ sizeLine), fun l1 n1 => Or.inr ⟨l1, 19900, _, rfl, rfl, upd_same, by decide, by decide, by decide, fun l2 n2 => ?_⟩⟩
    have hb1 : l1 ≠ b := fun e => by
      obtain ⟨o, ho⟩ := hb
      rw [e, ho] at n1
      cases n1
    have m1 := Mv.new (S := []) (o := .lst [.non]) n1
    have e2 : upd (upd H l1 (.lst [.non])) l2 (.lst (List.replicate (Int.toNat 19900) [.non]).flatten) l2 = some (.lst (List.replicate (Int.toNat 19900) [.non]).flatten) := upd_same
    have m2 := m1.trans (.new (S := []) (o := .lst (List.replicate (Int.toNat 19900) [.non]).flatten) n2)
    have hb2 : l2 ≠ b := fun e => by
      obtain ⟨o, ho⟩ := hb
      have := m1.same _ _ ho
      rw [← e, n2] at this
      cases this
    generalize upd (upd H l1 (.lst [.non])) l2 (.lst (List.replicate (Int.toNat 19900) [.non]).flatten) = H2 at e2 m2 ⊢
    have free : ∀ (H' : Hp), Mv [] H H' → ∀ p, H' p = none → p ≠ b := fun H' m p np e => by
      obtain ⟨o, ho⟩ := hb
      have := m.same _ _ ho
      rw [← e, np] at this
      cases this
    refine ⟨26, rfl, by decide, by decide, ?_⟩
    refine for_range (lo := 0) (n := (26 : Int).toNat) (fun i σ H3 => ∃ (v : V) (t : Th) (y : Option V), σ = [some v, y] ∧ Is K b H3 v t ∧ isTerm t = false ∧ t.cnt ≤ 2 * i + 1 ∧ Mv [] H2 H3)
      ⟨.ref l2, .lst, none, rfl, ⟨l2, _, rfl, hb2, e2⟩, by simp [isTerm], by simp [Th.cnt], .refl⟩ (fun i σ H3 hi h3 => ?_) (fun σ H3 h3 => ?_)
    · obtain ⟨v, t, y, rfl, hv, ht, hc, m3⟩ := h3
      have m03 := m2.trans m3
      walk_at "nn"
      refine ⟨.int (0 + i), rfl, Or.inl ⟨_, rfl, _, 2, rfl, rfl, (show (0 : Int) < 2 by decide), ?_⟩⟩
      refine Or.inl ⟨rfl, _, rfl, ite2 (fun _ => ?_) (fun _ => ?_)⟩
      · refine ⟨v, rfl, (by decide : 1 ≤ sizeLine), fun p9 n9 => ?_⟩
        have f9 := free _ m03 _ n9
        have k9 := Mv.new (S := []) (o := (.lst [v])) n9
        have e9 : upd H3 p9 (.lst [v]) p9 = some (.lst [v]) := upd_same
        generalize upd H3 p9 (.lst [v]) = H9 at k9 e9 ⊢
        have m9 := m3.trans k9
        exact ⟨.ref p9, .lst, _, rfl, ⟨p9, _, rfl, f9, e9⟩, by simp [isTerm], by simp [Th.cnt], m9⟩
      · refine ⟨v, rfl, (by decide : 2 ≤ sizeLine), fun p9 n9 => ?_⟩
        have k9 := Mv.new (S := []) (o := (.tup [.str "a", v])) n9
        have e9 : SqT K (upd H3 p9 (.tup [.str "a", v])) p9 [.str "a", v] := .inl (.inl upd_same)
        generalize upd H3 p9 (.tup [.str "a", v]) = H9 at k9 e9 ⊢
        have m9 := m3.trans k9
        refine ⟨.ref p9, .tup [.str "a", t], _, rfl, ⟨p9, _, rfl, e9, .cons ⟨rfl, by decide⟩ (.cons (hv.mv0 k9) .nil)⟩, ?_, ?_, m9⟩
        · simp [isTerm, isTerms, ht]
        · simp only [Th.cnt, Th.cnts]
          omega
    · obtain ⟨v, t, y, rfl, hv, ht, hc, m3⟩ := h3
      have m03 := m2.trans m3
      refine ⟨(by decide : 1 ≤ sizeLine), fun q1 nq1 => Or.inr ⟨q1, 19990, _, rfl, rfl, upd_same, by decide, by decide, by decide, fun q2 nq2 => ?_⟩⟩
      have m4 := m03.trans (.new (S := []) (o := .lst [.non]) nq1)
      have k4 := Mv.new (S := []) (o := .lst [.non]) nq1
      generalize upd H3 q1 (.lst [.non]) = H4 at m4 k4 nq2 ⊢
      have hq2 := free _ m4 _ nq2
      have m5 := m4.trans (.new (S := []) (o := .lst (List.replicate (Int.toNat 19990) [.non]).flatten) nq2)
      have k5 := k4.trans (.new (S := []) (o := .lst (List.replicate (Int.toNat 19990) [.non]).flatten) nq2)
      have e5 : upd H4 q2 (.lst (List.replicate (Int.toNat 19990) [.non]).flatten) q2 = some (.lst (List.replicate (Int.toNat 19990) [.non]).flatten) := upd_same
      generalize upd H4 q2 (.lst (List.replicate (Int.toNat 19990) [.non]).flatten) = H5 at m5 k5 e5 ⊢
      refine ⟨v, rfl, (by decide : 1 ≤ sizeLine), fun q3 nq3 => ⟨q3, 19990, [.str "a"], rfl, rfl, .inl (.inl upd_same), by simp, by decide, by decide, by decide, fun q4 nq4 => ?_⟩⟩
      have m6 := m5.trans (.new (S := []) (o := .tup [.str "a"]) nq3)
      have k6 := Mv.new (S := []) (o := .tup [.str "a"]) nq3
      generalize upd H5 q3 (.tup [.str "a"]) = H6 at m6 k6 nq4 ⊢
      have m7 := m6.trans (.new (S := []) (o := .tup (List.replicate (Int.toNat 19990) [.str "a"]).flatten) nq4)
      have k7 := k6.trans (.new (S := []) (o := .tup (List.replicate (Int.toNat 19990) [.str "a"]).flatten) nq4)
      have e7 : SqT K (upd H6 q4 (.tup (List.replicate (Int.toNat 19990) [.str "a"]).flatten)) q4 (List.replicate (Int.toNat 19990) [.str "a"]).flatten := .inl (.inl upd_same)
      generalize upd H6 q4 (.tup (List.replicate (Int.toNat 19990) [.str "a"]).flatten) = H7 at m7 k7 e7 ⊢
      refine ⟨v, rfl, (by decide : 2 ≤ sizeLine), fun q5 nq5 => ?_⟩
      have k8 := Mv.new (S := []) (o := .tup [.str "a", v]) nq5
      have m8 := m7.trans k8
      generalize upd H7 q5 (.tup [.str "a", v]) = H8 at m8 k8 ⊢
      refine ⟨(by decide : 1 ≤ sizeLine), fun q6 nq6 => ?_⟩
      have hq6 := free _ m8 _ nq6
      have k9 := Mv.new (S := []) (o := .lst [.ref q5]) nq6
      have m9 := m8.trans k9
      have e9 : upd H8 q6 (.lst [.ref q5]) q6 = some (.lst [.ref q5]) := upd_same
      generalize upd H8 q6 (.lst [.ref q5]) = H9 at m9 k9 e9 ⊢
      refine ⟨(by decide : 4 ≤ sizeLine), fun p np => ?_⟩
      have k10 := Mv.new (S := []) (o := .lst [.ref q2, v, .ref q4, .ref q6]) np
      have k59 := k7.trans (k8.trans (k9.trans k10))
      refine q p [.ref q2, v, .ref q4, .ref q6] [.lst, t, .tup (List.replicate 19990 (.str "a")), .lst] _ (m9.trans k10) (m9.free np) upd_same rfl ?_ ?_
      · refine .cons ⟨q2, _, rfl, hq2, k59.same _ _ e5⟩ (.cons (hv.mv0 (k5.trans k59)) (.cons ⟨q4, _, rfl, ((k8.trans (k9.trans k10)).sqT e7), ?_⟩ (.cons ⟨q6, _, rfl, hq6, k10.same _ _ e9⟩ .nil)))
        rw [rep_flat]
        exact is_reps _
      · intro u hu
        simp only [List.mem_cons, List.not_mem_nil, or_false] at hu
        rcases hu with rfl | rfl | rfl | rfl
        · exact ⟨by simp [isTerm], by simp [Th.cnt]⟩
        · exact ⟨ht, by omega⟩
        · exact ⟨not_term_reps, by simp only [Th.cnt]; rw [cnts_reps]; decide⟩
        · exact ⟨by simp [isTerm], by simp [Th.cnt]⟩
end
end Fm
namespace Fm
open PySem PySem.Spec PyProof.Rows L2
/-! terms whose texts are alike are alike -/
mutual
theorem eqv_d : ∀ t u : Tm, PyData.eqv t.d u.d = true → t = u
  | .var i, .var j, h => by
    simp [Tm.d, PyData.eqv] at h
    rw [h]
  | .var i, .op y us, h => by simp [Tm.d, PyData.eqv] at h
  | .op x ts, .var j, h => by simp [Tm.d, PyData.eqv] at h
  | .op x ts, .op y us, h => by
    simp only [Tm.d, PyData.eqv, PyData.eqvAll, Bool.and_eq_true, beq_iff_eq] at h
    rw [h.1, eqv_ds ts us h.2]
theorem eqv_ds : ∀ ts us : List Tm, PyData.eqvAll (Tm.ds ts) (Tm.ds us) = true → ts = us
  | [], [], _ => rfl
  | [], u :: us, h => by simp [Tm.ds, PyData.eqvAll] at h
  | t :: ts, [], h => by simp [Tm.ds, PyData.eqvAll] at h
  | t :: ts, u :: us, h => by
    simp only [Tm.ds, PyData.eqvAll, Bool.and_eq_true] at h
    rw [eqv_d t u h.1, eqv_ds ts us h.2]
end
theorem eqv_none (t : Tm) : PyData.eqv t.d .none = false := by cases t <;> simp [Tm.d, PyData.eqv]
mutual
/-- the signs of a term's text -/
def Tm.sg : Tm → List Nat
  | .var i => (((toString i : String) : Str)).cps.toList
  | .op x [] => [40, 39] ++ x.cps.toList ++ [39, 44, 41]
  | .op x (t :: ts) => [40, 39] ++ x.cps.toList ++ [39, 44] ++ ([32] ++ t.sg ++ Tm.sgs ts)
def Tm.sgs : List Tm → List Nat
  | [] => [41]
  | t :: ts => [44, 32] ++ t.sg ++ Tm.sgs ts
end
theorem cps_append (x y : Str) : (x ++ y).cps.toList = x.cps.toList ++ y.cps.toList := by
  show (x.cps ++ y.cps).toList = _
  simp
theorem letter_sg {c : Nat} (h : 97 ≤ c ∧ c ≤ 122) : Builtin.Str.reprChar 39 c = [c] := by
  have : ∀ c : Fin 123, 97 ≤ c.val → Builtin.Str.reprChar 39 c.val = [c.val] := by decide +kernel
  exact this ⟨c, by omega⟩ h.1
theorem letters_sg : ∀ (l : List Nat) (acc : Array Nat), (∀ c ∈ l, 97 ≤ c ∧ c ≤ 122) → l.foldl (fun out c => out ++ (Builtin.Str.reprChar 39 c).toArray) acc = acc ++ l.toArray
  | [], acc, _ => by simp
  | c :: l, acc, h => by
    rw [List.foldl_cons, letter_sg (h c (by simp)), letters_sg l _ fun c hc => h c (by simp [hc])]
    simp
theorem name_sg {x : Str} (h : Nm x) : (reprText x).cps.toList = [39] ++ x.cps.toList ++ [39] := by
  have hc := h.2.2
  have n39 : x.cps.contains 39 = false := by
    rw [Bool.eq_false_iff]
    intro z
    have z' : 39 ∈ x.cps.toList := by simpa using z
    have := hc 39 z'
    omega
  have hq : reprQuote x = 39 := by
    unfold reprQuote
    rw [n39]
    rfl
  unfold reprText
  rw [hq, ← Array.foldl_toList, letters_sg _ _ hc]
  simp
mutual
theorem sg_d {P : Int → Prop} : ∀ t : Tm, t.ok P → t.d.shown.cps.toList = t.sg
  | .var i, _ => by simp only [Tm.d, PyData.shown_int, Tm.sg]
  | .op x [], h => by
    simp only [Tm.d, Tm.ds, PyData.shown_tuple, PyData.shownAll, PyData.shown_str, cps_append, Str.join, Tm.sg, name_sg h.1]
    have e5 : (Str.ofString (if ([PyData.str x].length == 1) = true then ",)" else ")")).cps.toList = [44, 41] := by
      rw [show ([PyData.str x].length == 1) = true from rfl]
      decide +kernel
    have e6 : (("(" : String) : Str).cps.toList = [40] := by decide +kernel
    rw [e5, e6]
    simp
  | .op x (t :: ts), h => by
    have e1 := sg_d t h.2.2.1
    have e2 := sgs_d ts h.2.2.2
    simp only [Tm.d, Tm.ds, PyData.shown_tuple, PyData.shownAll, PyData.shown_str, cps_append, Tm.sg]
    rw [show Str.join ", " (reprText x :: t.d.shown :: PyData.shownAll (Tm.ds ts)) = reprText x ++ ", " ++ Str.join ", " (t.d.shown :: PyData.shownAll (Tm.ds ts)) from rfl, cps_append, cps_append, name_sg h.1]
    have e3 : (List.length (PyData.str x :: t.d :: Tm.ds ts) == 1) = false := by simp
    rw [e3]
    have e4 : (Str.join ", " (t.d.shown :: PyData.shownAll (Tm.ds ts))).cps.toList ++ [41] = t.sg ++ Tm.sgs ts := by rw [e2, e1]
    have e5 : ((if false = true then ",)" else ")" : String) : Str).cps.toList = [41] := by decide +kernel
    have e6 : (("(" : String) : Str).cps.toList = [40] := by decide +kernel
    have e7 : ((", " : String) : Str).cps.toList = [44, 32] := by decide +kernel
    rw [e5, e6, e7, List.append_assoc, List.append_assoc _ _ [41], e4]
    simp
theorem sgs_d {P : Int → Prop} : ∀ ts : List Tm, Tm.oks P ts → ∀ y : Str, (Str.join ", " (y :: PyData.shownAll (Tm.ds ts))).cps.toList ++ [41] = y.cps.toList ++ Tm.sgs ts
  | [], _, y => by simp only [Tm.ds, PyData.shownAll, Str.join, Tm.sgs]
  | t :: ts, h, y => by
    have e1 := sg_d t h.1
    have e2 := sgs_d ts h.2
    have e7 : ((", " : String) : Str).cps.toList = [44, 32] := by decide +kernel
    simp only [Tm.ds, PyData.shownAll, Tm.sgs]
    rw [show Str.join ", " (y :: t.d.shown :: PyData.shownAll (Tm.ds ts)) = y ++ ", " ++ Str.join ", " (t.d.shown :: PyData.shownAll (Tm.ds ts)) from rfl, cps_append, cps_append, List.append_assoc, e2, e1, e7]
    simp
end
theorem names_parted : ∀ (x y r s : List Nat), (∀ c ∈ x, 97 ≤ c ∧ c ≤ 122) → (∀ c ∈ y, 97 ≤ c ∧ c ≤ 122) → x ++ 39 :: r = y ++ 39 :: s → x = y ∧ r = s
  | [], [], r, s, _, _, h => ⟨rfl, by simpa using h⟩
  | [], c :: y, r, s, _, hy, h => by
    have e : 39 = c := (List.cons.inj h).1
    have := hy c (by simp)
    omega
  | c :: x, [], r, s, hx, _, h => by
    have e : c = 39 := (List.cons.inj h).1
    have := hx c (by simp)
    omega
  | c :: x, e :: y, r, s, hx, hy, h => by
    obtain ⟨h1, h2⟩ := List.cons.inj h
    obtain ⟨h3, h4⟩ := names_parted x y r s (fun c hc => hx c (by simp [hc])) (fun c hc => hy c (by simp [hc])) h2
    exact ⟨by rw [h1, h3], h4⟩
/-- figures -/
def fig (i : Int) : Prop := 0 ≤ i ∧ i < 10
theorem fig_sg {i : Int} (h : fig i) : (Tm.var i).sg = [48 + i.toNat] := by
  obtain ⟨j, rfl⟩ := Int.eq_ofNat_of_zero_le h.1
  have h2 : j < 10 := by have := h.2; omega
  have : ∀ j : Fin 10, (((toString ((j.val : Nat) : Int) : String) : Str)).cps.toList = [48 + j.val] := by decide +kernel
  simp only [Tm.sg, Int.toNat_natCast]
  exact this ⟨j, h2⟩
theorem op_sg (x : Str) (ts : List Tm) : ∃ r, (Tm.op x ts).sg = 40 :: r := by cases ts <;> exact ⟨_, by simp only [Tm.sg]; rfl⟩
theorem op_eq {x y : Str} {us : List Tm} (h1 : x.cps.toList = y.cps.toList) : Tm.op x us = Tm.op y us := by
  have : x = y := by
    cases x; cases y
    congr
    exact Array.toList_inj.mp h1
  rw [this]
mutual
theorem sg_inj : ∀ (t u : Tm) (r s : List Nat), t.ok fig → u.ok fig → t.sg ++ r = u.sg ++ s → t = u ∧ r = s
  | .var i, .var j, r, s, ht, hu, h => by
    rw [fig_sg ht, fig_sg hu] at h
    obtain ⟨h1, h2⟩ := List.cons.inj h
    have a1 := ht.1
    have a2 := hu.1
    exact ⟨by rw [show i = j by omega], h2⟩
  | .var i, .op y us, r, s, ht, hu, h => by
    obtain ⟨z, e⟩ := op_sg y us
    rw [fig_sg ht, e] at h
    have := (List.cons.inj h).1
    omega
  | .op x ts, .var j, r, s, ht, hu, h => by
    obtain ⟨z, e⟩ := op_sg x ts
    rw [fig_sg hu, e] at h
    have := (List.cons.inj h).1
    omega
  | .op x [], .op y [], r, s, ht, hu, h => by
    simp only [Tm.sg, List.append_assoc, List.cons_append, List.nil_append, List.cons.injEq, true_and] at h
    obtain ⟨h1, h2⟩ := names_parted _ _ _ _ ht.1.2.2 hu.1.2.2 h
    exact ⟨op_eq h1, by simpa using h2⟩
  | .op x [], .op y (u :: us), r, s, ht, hu, h => by
    simp only [Tm.sg, List.append_assoc, List.cons_append, List.nil_append, List.cons.injEq, true_and] at h
    obtain ⟨h1, h2⟩ := names_parted _ _ _ _ ht.1.2.2 hu.1.2.2 h
    simp at h2
  | .op x (t :: ts), .op y [], r, s, ht, hu, h => by
    simp only [Tm.sg, List.append_assoc, List.cons_append, List.nil_append, List.cons.injEq, true_and] at h
    obtain ⟨h1, h2⟩ := names_parted _ _ _ _ ht.1.2.2 hu.1.2.2 h
    simp at h2
  | .op x (t :: ts), .op y (u :: us), r, s, ht, hu, h => by
    simp only [Tm.sg, List.append_assoc, List.cons_append, List.nil_append, List.cons.injEq, true_and] at h
    obtain ⟨h1, h2⟩ := names_parted _ _ _ _ ht.1.2.2 hu.1.2.2 h
    simp only [List.cons.injEq, true_and] at h2
    obtain ⟨h3, h4⟩ := sg_inj t u _ _ ht.2.2.1 hu.2.2.1 h2
    obtain ⟨h5, h6⟩ := sgs_inj ts us _ _ ht.2.2.2 hu.2.2.2 h4
    rw [h3, h5]
    exact ⟨op_eq h1, h6⟩
theorem sgs_inj : ∀ (ts us : List Tm) (r s : List Nat), Tm.oks fig ts → Tm.oks fig us → Tm.sgs ts ++ r = Tm.sgs us ++ s → ts = us ∧ r = s
  | [], [], r, s, _, _, h => ⟨rfl, by simpa [Tm.sgs] using h⟩
  | [], u :: us, r, s, _, _, h => by simp [Tm.sgs] at h
  | t :: ts, [], r, s, _, _, h => by simp [Tm.sgs] at h
  | t :: ts, u :: us, r, s, ht, hu, h => by
    simp only [Tm.sgs, List.append_assoc, List.cons_append, List.nil_append, List.cons.injEq, true_and] at h
    obtain ⟨h3, h4⟩ := sg_inj t u _ _ ht.1 hu.1 h
    obtain ⟨h5, h6⟩ := sgs_inj ts us _ _ ht.2 hu.2 h4
    rw [h3, h5]
    exact ⟨rfl, h6⟩
end
theorem shown_inj {t u : Tm} (ht : t.ok fig) (hu : u.ok fig) (h : t.d.shown = u.d.shown) : t = u := by
  have e : t.sg ++ [] = u.sg ++ [] := by rw [← sg_d t ht, ← sg_d u hu, h]
  exact (sg_inj t u [] [] ht hu e).1
end Fm
/-! a tuple of whatever, beside the empty one -/
namespace Fm
open PySem PySem.Spec PyProof.Rows L2
section
variable {X : Cx}
def rNeNilT (K : PySem.W.Frag) : R2 := fun x y H Q => ∃ (a b : Addr) (xs : List V), x = .ref a ∧ y = .ref b ∧ SqT K H a xs ∧ SqT K H b [] ∧ Q (.bl (!xs.isEmpty)) H
def rEqNilT (K : PySem.W.Frag) : R2 := fun x y H Q => ∃ (a b : Addr) (xs : List V), x = .ref a ∧ y = .ref b ∧ SqT K H a xs ∧ SqT K H b [] ∧ Q (.bl xs.isEmpty) H
theorem op_neNilT (hu : X.A.units < cLine) : OpR X (compareOp .NotEq) (rNeNilT X.K) := by
  intro pins s σ H x y v u Q I rx ry h
  obtain ⟨a, b, xs, rfl, rfl, ha, hb, q⟩ := h
  obtain rfl : v = Value.ref a := rx
  obtain rfl : u = Value.ref b := ry
  obtain ⟨i1, r1, p1, _⟩ := I.tuple ha
  obtain ⟨i2, r2, p2, _⟩ := I.tuple hb
  have l1 := r1.length
  have l2 : i2 = [] := List.eq_nil_of_length_eq_zero (by have := r2.length; simpa using this.symm)
  subst l2
  have e : (!((List.range (min i1.toArray.size ([] : List Value).toArray.size)).all (fun _ => true) && i1.toArray.size == ([] : List Value).toArray.size)) = !xs.isEmpty := by
    cases xs with
    | nil =>
      have l3 : i1 = [] := List.eq_nil_of_length_eq_zero (by simpa using l1.symm)
      subst l3
      rfl
    | cons z zs =>
      cases i1 with
      | nil => simp at l1
      | cons _ _ => simp
  refine SeqAt.RcNeAt.tuples (e := fun _ => true) p1 p2 hu (fun j _ j2 => absurd j2 (Nat.not_lt_zero j)) X.prog X.w X.xe _ ?_
  rw [e]
  exact ⟨.bl (!xs.isEmpty), H, I, rfl, q⟩
theorem op_eqNilT (hu : X.A.units < cLine) : OpR X (compareOp .Eq) (rEqNilT X.K) := by
  intro pins s σ H x y v u Q I rx ry h
  obtain ⟨a, b, xs, rfl, rfl, ha, hb, q⟩ := h
  obtain rfl : v = Value.ref a := rx
  obtain rfl : u = Value.ref b := ry
  obtain ⟨i1, r1, p1, _⟩ := I.tuple ha
  obtain ⟨i2, r2, p2, _⟩ := I.tuple hb
  have l1 := r1.length
  have l2 : i2 = [] := List.eq_nil_of_length_eq_zero (by have := r2.length; simpa using this.symm)
  subst l2
  have e : ((List.range (min i1.toArray.size ([] : List Value).toArray.size)).all (fun _ => true) && i1.toArray.size == ([] : List Value).toArray.size) = xs.isEmpty := by
    cases xs with
    | nil =>
      have l3 : i1 = [] := List.eq_nil_of_length_eq_zero (by simpa using l1.symm)
      subst l3
      rfl
    | cons z zs =>
      cases i1 with
      | nil => simp at l1
      | cons _ _ => simp
  refine SeqAt.RcAt.tuples (e := fun _ => true) p1 p2 hu (fun j _ j2 => absurd j2 (Nat.not_lt_zero j)) X.prog X.w X.xe _ ?_
  rw [e]
  exact ⟨.bl xs.isEmpty, H, I, rfl, q⟩
end
end Fm
/-! recipes compared -/
namespace Fm
open PySem PySem.Spec PyProof.Rows L2 SlX
local macro_rules | `(tactic| walk_at "nn") => `(tactic| dsimp only [tC, tNil, tCons, tCB, tCall, gName, tSeq, tAsg, tPar, tDrop, tRet])
local macro_rules | `(tactic| walk_at "nc") => `(tactic| dsimp only [tC, tNil, tCons, tCB, tCall])
/-- what a recipe is made of -/
structure RcF (many : Int) (ts : List Tm) : Prop where
  m0 : 0 ≤ many
  m1 : many ≤ 100
  ok : Tm.oks (fun i => 0 ≤ i ∧ i < many) ts
  f : TsF ts
  cst : ∀ t ∈ ts, t.cst + t.lv ≤ 80000
theorem RcF.m40 {many : Int} {ts : List Tm} (h : RcF many ts) : many.natAbs < 10 ^ 40 := by
  have := h.m0
  have := h.m1
  exact Nat.lt_of_le_of_lt (show _ ≤ 100 by omega) (by decide)
/-- a Recipe made of a list or a tuple of terms -/
theorem rd_rec {K : PySem.W.Frag} {C EW l : Addr} {many : Int} {xs : List V} {ts : List Tm} {H : Hp} {R : Addr → Hp → Prop} {E : XK} (hl : H l = some (.lst xs) ∨ SqT K H l xs) (hi : Ims K H xs (Tm.ds ts)) (hm : 0 ≤ many) (ho : Tm.oks (fun i => 0 ≤ i ∧ i < many) ts) (hln : ts.length ≤ 90000) (hc : ∀ t ∈ ts, t.cst + t.lv ≤ 90000)
    (q : ∀ z H', Mv [] H H' → RecAt K H' C z many ts → R z H') : ∀ x dx, H x = none → H dx = none → dx ≠ x → sp_RecT K C EW (.ref x :: [.int many, .ref l]) (upd (upd H dx (.own x)) x (.ins C dx [])) (fun v H2 => v = .non ∧ R x H2) E := by
  intro z dz nz ndz hne
  obtain ⟨hgood, hbd⟩ := rec_good (xs := xs) hm ho hln hc
  have hall : IsAll K z H xs (Tm.ths ts) := IsAll.of_ims ts xs ho hi
  refine ⟨z, dz, .int many, .ref l, z, .int many, some (xs, Tm.ths ts), H, rfl, rfl, nz, ndz, hne, rfl, hl.elim (fun h => .lst (fun e => by rw [e, nz] at h; cases h) h hall) fun h => .tup h hall, fun r hr' => ?_, fun k hk => ?_, fun many' r h1 h2 h3 p4 H4 m4 s4 e4 => ?_⟩
  · cases hr'
    exact hbd
  · rw [hgood] at hk
    cases hk
  · cases h1
    cases h2
    exact ⟨rfl, q z H4 m4 ⟨dz, p4, _, s4, e4, hi.mv m4⟩⟩
theorem eqv_ts {a b : List Tm} (ha : Shw (tsD a)) : PyData.eqv (tsD a) (tsD b) = true ↔ a = b :=
  ⟨fun h => eqv_ds a b (by simpa [tsD, PyData.eqv] using h), fun h => by rw [← h]; exact ha.eqv⟩
theorem eqv_tsC {a b : List Tm} (ha : Shw (tsD a)) (hb : Shw (tsD b)) : PyData.eqv (tsD a) (tsD b) = PyData.eqv (tsD b) (tsD a) := by
  rw [Bool.eq_iff_iff, eqv_ts ha, eqv_ts hb]
  exact eq_comm
theorem rec_due {m1 m2 : Int} {a b : List Tm} (ha : Shw (tsD a)) (hb : Shw (tsD b)) : PyData.eqv (.tuple [.int m2, tsD b]) (.tuple [.int m1, tsD a]) = recEq m1 m2 a b := by
  unfold recEq
  rw [eqv_tsC ha hb]
  simp only [PyData.eqv, PyData.eqvAll, Bool.and_true]
  congr 1
  by_cases e : m1 = m2 <;> simp [e]
  exact fun z => e z.symm
theorem Tm.csts_app : ∀ ts us : List Tm, Tm.csts (ts ++ us) = Tm.csts ts + Tm.csts us
  | [], us => by simp [Tm.csts]
  | t :: ts, us => by
    simp only [List.cons_append, Tm.csts, Tm.csts_app ts us]
    omega
theorem Tm.deps_app : ∀ ts us : List Tm, Tm.deps (ts ++ us) = max (Tm.deps ts) (Tm.deps us)
  | [], us => by simp [Tm.deps]
  | t :: ts, us => by
    simp only [List.cons_append, Tm.deps, Tm.deps_app ts us]
    omega
theorem Tm.oks_app {R : Int → Prop} {ts us : List Tm} : Tm.oks R (ts ++ us) ↔ Tm.oks R ts ∧ Tm.oks R us := by
  rw [Tm.oks_iff, Tm.oks_iff, Tm.oks_iff]
  exact ⟨fun h => ⟨fun t ht => h t (List.mem_append_left _ ht), fun t ht => h t (List.mem_append_right _ ht)⟩, fun h t ht => (List.mem_append.mp ht).elim (h.1 t) (h.2 t)⟩
theorem Tm.ds_app (ts us : List Tm) : Tm.ds (ts ++ us) = Tm.ds ts ++ Tm.ds us := by simp [Tm.ds_map]
/-- parts of a list of terms, with a constant between -/
theorem rcf_cut {many : Int} {ts : List Tm} {x : Str} (hx : Nm x) (i j : Nat) (hij : i ≤ j) (h : RcF many ts) (hl : ts.length ≤ 50) (hsz : Tm.csts ts + 41 * Tm.lvs ts ≤ 200000) : RcF many (ts.take i ++ [.op x []] ++ ts.drop j) := by
  have e1 : Tm.csts (ts.take i) + Tm.csts (ts.drop j) ≤ Tm.csts ts ∧ Tm.lvs (ts.take i) + Tm.lvs (ts.drop j) ≤ Tm.lvs ts ∧ Tm.deps (ts.take i) ≤ Tm.deps ts ∧ Tm.deps (ts.drop j) ≤ Tm.deps ts := by
    have h1 : ts = ts.take i ++ ((ts.drop i).take (j - i) ++ ts.drop j) := by
      rw [show ts.drop j = (ts.drop i).drop (j - i) by rw [List.drop_drop]; congr 1; omega, List.take_append_drop, List.take_append_drop]
    have h2 := congrArg Tm.csts h1
    have h3 := congrArg Tm.lvs h1
    have h4 := congrArg Tm.deps h1
    rw [Tm.csts_app, Tm.csts_app] at h2
    rw [Tm.lvs_append, Tm.lvs_append] at h3
    rw [Tm.deps_app, Tm.deps_app] at h4
    omega
  obtain ⟨e1, e2, e3, e4⟩ := e1
  have ok' : ∀ {R : Int → Prop}, Tm.oks R ts → Tm.oks R (ts.take i ++ [.op x []] ++ ts.drop j) := fun {R} ho => by
    rw [Tm.oks_app, Tm.oks_app]
    rw [Tm.oks_iff] at ho
    refine ⟨⟨Tm.oks_iff.mpr fun t ht => ho t (List.mem_of_mem_take ht), ⟨hx, by simp, trivial⟩, trivial⟩, Tm.oks_iff.mpr fun t ht => ho t (List.mem_of_mem_drop ht)⟩
  refine ⟨h.m0, h.m1, ok' h.ok, ⟨ok' h.f.ok, ?_, ?_, ?_⟩, fun t ht => ?_⟩
  · have := h.f.dp
    rw [Tm.deps_app, Tm.deps_app]
    simp only [Tm.deps, Tm.dep]
    omega
  · rw [Tm.csts_app, Tm.csts_app, Tm.lvs_append, Tm.lvs_append]
    simp only [Tm.csts, Tm.cst, Tm.lvs, Tm.lv]
    omega
  · simp only [List.length_append, List.length_take, List.length_drop, List.length_cons, List.length_nil]
    omega
  · rcases List.mem_append.mp ht with ht | ht
    · rcases List.mem_append.mp ht with ht | ht
      · exact h.cst t (List.mem_of_mem_take ht)
      · rw [List.mem_singleton.mp ht]
        simp [Tm.cst, Tm.csts, Tm.lv, Tm.lvs]
    · exact h.cst t (List.mem_of_mem_drop ht)
theorem vars_cst : ∀ is : List Int, Tm.csts (is.map Tm.var) = 2 * is.length ∧ Tm.lvs (is.map Tm.var) = is.length ∧ Tm.deps (is.map Tm.var) = 0
  | [] => by simp [Tm.csts, Tm.lvs, Tm.deps]
  | i :: is => by
    obtain ⟨h1, h2, h3⟩ := vars_cst is
    simp only [List.map_cons, Tm.csts, Tm.cst, Tm.lvs, Tm.lv, Tm.deps, Tm.dep, List.length_cons]
    omega
theorem vars_f {n : Int} (h0 : 0 ≤ n) (h1 : n ≤ 50) : TsF (varsT n.toNat) := by
  have h2 := vars_cst ((List.range n.toNat).map fun i : Nat => (i : Int))
  rw [← vars_is, List.length_map, List.length_range] at h2
  refine ⟨Tm.oks_mono (fun i h => ?_) _ (vars_ok h0), by omega, by omega, by rw [vars_len]; omega⟩
  exact Nat.lt_of_le_of_lt (show i.natAbs ≤ 50 by omega) (by decide)
/-- what a recipe is compared with -/
def Cmp (K : PySem.W.Frag) (C : Addr) (H : Hp) (v : V) : Prop := (∃ x many ts, v = .ref x ∧ RecAt K H C x many ts ∧ RcF many ts) ∨ ∃ ty, TyX K H v (.type ty) ∧ plainTy ty = true
theorem Cmp.mv {K : PySem.W.Frag} {C : Addr} {H H' : Hp} {v : V} (h : (∃ x many ts, v = .ref x ∧ RecAt K H C x many ts ∧ RcF many ts) ∨ (∃ a ys, v = .ref a ∧ SqT K H a ys) ∨ v = .non) (m : Mv [] H H') : Cmp K C H' v := by
  rcases h with ⟨x, many, ts, rfl, h, hF⟩ | ⟨a, ys, rfl, h⟩ | rfl
  · exact .inl ⟨x, many, ts, rfl, h.mv m, hF⟩
  · exact .inr ⟨_, tyx_sqT (m.sqT h), by decide +kernel⟩
  · exact .inr ⟨_, .base .non, by decide +kernel⟩
theorem ims_take {K : PySem.W.Frag} {H : Hp} : ∀ (n : Nat) {ts : List Tm} {vs : List V}, Ims K H vs (Tm.ds ts) → Ims K H (vs.take n) (Tm.ds (ts.take n))
  | n, [], vs, h => by
    rw [h.nilD]
    simpa using h.nilD ▸ h
  | 0, t :: ts, vs, h => .nil
  | n + 1, t :: ts, vs, h => by
    obtain ⟨v, vs', rfl, h1, h2⟩ := h.invD
    exact .cons h1 (ims_take n h2)
theorem ims_drop {K : PySem.W.Frag} {H : Hp} : ∀ (n : Nat) {ts : List Tm} {vs : List V}, Ims K H vs (Tm.ds ts) → Ims K H (vs.drop n) (Tm.ds (ts.drop n))
  | n, [], vs, h => by
    rw [h.nilD]
    simpa using h.nilD ▸ h
  | 0, t :: ts, vs, h => h
  | n + 1, t :: ts, vs, h => by
    obtain ⟨v, vs', rfl, h1, h2⟩ := h.invD
    exact ims_drop n h2
theorem shw_bb (a b : Bool) : Shw (.list [.bool a, .bool b]) := ⟨⟨trivial, trivial, trivial⟩, by simp [PyData.depth, PyData.depthAll], by simp [wl, wls]⟩
theorem shp_pair {m : Int} {ts : List Tm} (hm : m.natAbs < 10 ^ 40) (h : TsF ts) : SeqAt.shaped (.tuple [.int m, tsD ts]) = true := by
  obtain ⟨h1, h2, h3⟩ := h.wl
  refine Shw.shaped ⟨⟨hm, h1, trivial⟩, ?_, ?_⟩
  · simp only [tsD, PyData.depth, PyData.depthAll]
    omega
  · simp only [tsD, Fm.wl, wls]
    omega
def sp_rcmp (K : PySem.W.Frag) (C : Addr) : Sp := fun vs H Q _ => ∃ (x c : Addr) (many : Int) (ts : List Tm) (ys : List V), vs = [.ref x, .int many, .ref c] ∧ RecAt K H C x many ts ∧ SqT K H c ys ∧ Ims K H ys (Tm.ds ts) ∧ many ≤ 50 ∧ ts.length ≤ 50 ∧ Tm.csts ts + 41 * Tm.lvs ts ≤ 200000 ∧ RcF many ts ∧ ∀ H', Mv [] H H' → Q (.bl true) H'
section
variable {P : Program} {w : World} {K : PySem.W.Frag} {mg : Str → Option Value} {base : Heap}
theorem ok__law_compared_right (T : TX K mg) (Y : TY P K mg) {k : Nat} : FnOkG P w K mg base CX0 (k + 23) T.d__law_compared_right.f T.d__law_compared_right.fd P__law_compared_right (sp_rcmp K T.C_Recipe) := by
  have G_Recipe___init__ : FnOk P w K mg base (CX P w) 5 T.d_Recipe___init__.f T.d_Recipe___init__.fd P_Recipe___init__ (sp_RecT K T.C_Recipe Y.C_Wrong) := ok_Recipe___init__ T Y
  have G__law_times : FnOk P w K mg base CX0 21 T.d__law_times.f T.d__law_times.fd P__law_times (sp_rtimes K T.C_Recipe 8) := ok__law_times T Y (k := 0)
  have G__law_tells : FnOkG P w K mg base CX0 3 T.d__law_tells.f T.d__law_tells.fd P__law_tells (sp_rtells K T.C_Recipe) := ok__law_tells T
  have G__law_alike : FnOkG P w K mg base CX0 1 T.d__law_alike.f T.d__law_alike.fd P__law_alike (sp_alike K) := ok__law_alike T
  have G_Recipe_keeping : FnOk P w K mg base CX0 7 T.d_Recipe_keeping.f T.d_Recipe_keeping.fd P_Recipe_keeping (sp_Reckeep K T.C_Recipe) := ok_Recipe_keeping T Y
  have G_Recipe_variables : FnOk P w K mg base CX0 1 T.d_Recipe_variables.f T.d_Recipe_variables.fd P_Recipe_variables (sp_Recvars K T.C_Recipe) := ok_Recipe_variables T
  have G_Recipe_terms : FnOk P w K mg base CX0 1 T.d_Recipe_terms.f T.d_Recipe_terms.fd P_Recipe_terms (sp_Recterms K T.C_Recipe) := ok_Recipe_terms T
  have G_Recipe___eq__ : FnOk P w K mg base CX0 1 T.d_Recipe___eq__.f T.d_Recipe___eq__.fd P_Recipe___eq__ (sp_RecipeEq K T.C_Recipe) := ok_Recipe___eq__ T
  refine okG T.d__law_compared_right.F sc__law_compared_right (fun vs H Q E h => ?_) (fun cdv A outer s H vs Q E hgd hr h => ?_)
  · obtain ⟨_, _, _, _, _, rfl, _⟩ := h
    rfl
  · obtain ⟨x, c, many, ts, ys, rfl, hR, hc, hy, hm1, hl, hsz, hF, q⟩ := h
    have hu64 := hr.units
    have hyl : ys.length = ts.length := by rw [hy.length, Tm.ds_map, List.length_map]
    have hm0 := hF.m0
    refine ⟨_, (pss_cons (ps_par (i := 3) (j := 4) rfl sc__law_compared_right.nd rfl rfl (by decide) rfl rfl (pa_cons (pe_makeS ⟨T.mk_Recipe, T.d_Recipe___init__.M.at_, T.d_Recipe___init__.M.fn, T.k_Recipe⟩ G_Recipe___init__ (hr.mono (by omega)) rfl T.g_Recipe T.d_Recipe___init__.b (fun σ => passAt takes0 σ) (pa_cons (pv 1) (pa_cons (pe_callTy (r := rListG K) (call_listA rfl) (by rfl) T.b_list bt_list (pa_cons (pv 2) pa_nil)) pa_nil))) (pa_cons (pe_makeS ⟨T.mk_Recipe, T.d_Recipe___init__.M.at_, T.d_Recipe___init__.M.fn, T.k_Recipe⟩ G_Recipe___init__ (hr.mono (by omega)) rfl T.g_Recipe T.d_Recipe___init__.b (fun σ => passAt takes0 σ) (pa_cons (pe_op (r := rAddG K) op_addG (pv 1) pe_int) (pa_cons (pe_callTy (r := rListG K) (call_listA rfl) (by rfl) T.b_list bt_list (pa_cons (pv 2) pa_nil)) pa_nil))) pa_nil)) rfl) (pss_cons (ps_for PassesOwn.never rfl (pi_seq (pe_op (r := rAddG K) op_addG (pe_lst (pa_cons (pe_op (r := rAddG K) op_addG (pe_callB (r := rLenG K) call_lenG (by rfl) T.b_len bt_len (pa_cons (pv 2) pa_nil)) pe_int) pa_nil)) (pe_op op_mulG (pe_lst (pa_cons (pe_op op_sub (pe_callB (r := rLenG K) call_lenG (by rfl) T.b_len bt_len (pa_cons (pv 2) pa_nil)) pe_int) pa_nil)) (pe_callTy call_int1 (by rfl) T.b_int bt_int (pa_cons (pe_cmpR (r := rNeNilT K) (op_neNilT (Nat.lt_of_le_of_lt (Nat.le_add_right _ 64) hu64)) (pv 2) (pe_tup pa_nil) (nomark _)) pa_nil))))) (pg_name (i := 5) sc__law_compared_right.nd rfl (Or.inl rfl)) (pss_one (ps_if (pt_cmpR (r := rNeG K) (op_neG hu64) (pe_call G__law_times (hr.mono (by omega)) rfl T.d__law_times.g T.d__law_times.F.kp T.d__law_times.b .nil pass0 (pa_cons (pv 0) (pa_cons (pe_makeS ⟨T.mk_Recipe, T.d_Recipe___init__.M.at_, T.d_Recipe___init__.M.fn, T.k_Recipe⟩ G_Recipe___init__ (hr.mono (by omega)) rfl T.g_Recipe T.d_Recipe___init__.b (fun σ => passAt takes0 σ) (pa_cons (pv 5) (pa_cons (pe_lst pa_nil) pa_nil))) pa_nil))) (pe_tup (pa_cons pe_str (pa_cons pe_non pa_nil))) (nomark _)) (pss_one (ps_ret pe_bl)) pss_nil))) (pss_cons (ps_if (pt_not (pt_val (pe_callG G__law_tells hgd (hr.mono (by omega)) rfl T.d__law_tells.g T.d__law_tells.F.kp T.d__law_tells.b .nil pass0 (pa_cons (pe_smeth (pe_glob rfl T.g_Recipe (show L2.RelV (.ref T.C_Recipe) _ from rfl)) T.d_Recipe_keeping.S (fnR_of G_Recipe_keeping T.d_Recipe_keeping.b) (hr.mono (by omega)) pass0 (pa_cons (pv 1) pa_nil)) (pa_cons (pv 1) (pa_cons (pe_tupRg rfl (by rfl) T.b_tuple (prg_1 (by rfl) T.b_range (pv 1))) pa_nil)))))) (pss_one (ps_ret pe_bl)) pss_nil) (pss_cons (ps_set (i := 6) sc__law_compared_right.nd rfl (Or.inl rfl) (pe_op op_fdivW (pe_callB (r := rLenG K) call_lenG (by rfl) T.b_len bt_len (pa_cons (pv 2) pa_nil)) pe_int)) (pss_cons (ps_set (i := 7) sc__law_compared_right.nd rfl (Or.inl rfl) (pe_makeS ⟨T.mk_Recipe, T.d_Recipe___init__.M.at_, T.d_Recipe___init__.M.fn, T.k_Recipe⟩ G_Recipe___init__ (hr.mono (by omega)) rfl T.g_Recipe T.d_Recipe___init__.b (fun σ => passAt takes0 σ) (pa_cons (pv 1) (pa_cons (pe_op (r := rAddG K) op_addG (pe_op (r := rAddG K) op_addG (pe_slice (r := rSlG K) sl_G (pe_callTy (r := rListG K) (call_listA rfl) (by rfl) T.b_list bt_list (pa_cons (pv 2) pa_nil)) po_none (po_some (pv 6))) (pe_lst (pa_cons (pe_tup (pa_cons pe_str pa_nil)) pa_nil))) (pe_slice (r := rSlG K) sl_G (pe_callTy (r := rListG K) (call_listA rfl) (by rfl) T.b_list bt_list (pa_cons (pv 2) pa_nil)) (po_some (pe_op (r := rAddG K) op_addG (pv 6) pe_int)) po_none)) pa_nil)))) (pss_cons (ps_for PassesOwn.never rfl (pi_seq (pe_tup (pa_cons (pv 3) (pa_cons (pv 4) (pa_cons (pv 2) (pa_cons pe_non (pa_cons (pe_makeS ⟨T.mk_Recipe, T.d_Recipe___init__.M.at_, T.d_Recipe___init__.M.fn, T.k_Recipe⟩ G_Recipe___init__ (hr.mono (by omega)) rfl T.g_Recipe T.d_Recipe___init__.b (fun σ => passAt takes0 σ) (pa_cons (pv 1) (pa_cons (pe_op (r := rAddG K) op_addG (pe_callTy (r := rListG K) (call_listA rfl) (by rfl) T.b_list bt_list (pa_cons (pv 2) pa_nil)) (pe_lst (pa_cons (pe_tup (pa_cons pe_str pa_nil)) pa_nil))) pa_nil))) (pa_cons (pv 7) pa_nil)))))))) (pg_name (i := 8) sc__law_compared_right.nd rfl (Or.inl rfl)) (pss_cons (ps_set (i := 9) sc__law_compared_right.nd rfl (Or.inl rfl) (pe_and (pe_callB (r := rIsiX K (.ref T.C_Recipe)) (call_isiX (.ref T.C_Recipe)) (by rfl) T.b_isinstance bt_isinstance (pa_cons (pv 8) (pa_cons (pe_glob rfl T.g_Recipe (show L2.RelV (.ref T.C_Recipe) _ from rfl)) pa_nil))) (pe_one (pe_cmpR (r := rEqG K) (op_eqG hu64) (pe_tup (pa_cons (pe_propSl (pv 8) T.c_Recipe T.d_Recipe_variables.at_ T.d_Recipe_variables.get T.d_Recipe_variables.tk T.d_Recipe_variables.rc (fnR_of G_Recipe_variables T.d_Recipe_variables.b) (hr.mono (by omega)) no0) (pa_cons (pe_propSl (pv 8) T.c_Recipe T.d_Recipe_terms.at_ T.d_Recipe_terms.get T.d_Recipe_terms.tk T.d_Recipe_terms.rc (fnR_of G_Recipe_terms T.d_Recipe_terms.b) (hr.mono (by omega)) no0) pa_nil))) (pe_tup (pa_cons (pv 1) (pa_cons (pv 2) pa_nil))) (nomark _))))) (pss_one (ps_if (pt_not (pt_val (pe_callG G__law_alike hgd (hr.mono (by omega)) rfl T.d__law_alike.g T.d__law_alike.F.kp T.d__law_alike.b .nil pass0 (pa_cons (pe_lst (pa_cons (pe_cmpR (r := rOwnG K T.C_Recipe (sp_RecipeEq K T.C_Recipe) _) (op_ownG T.d_Recipe___eq__.M.at_ T.d_Recipe___eq__.M.fn (fnR_of G_Recipe___eq__ T.d_Recipe___eq__.b) (hr.mono (by omega)) pass0) (pv 0) (pv 8) (nomark _)) (pa_cons (pe_cmpR (r := rNeOwn K T.C_Recipe (sp_RecipeEq K T.C_Recipe) _) (op_neOwn T.ne_Recipe T.is_Recipe.cm T.d_Recipe___eq__.M.at_ T.d_Recipe___eq__.M.fn (fnR_of G_Recipe___eq__ T.d_Recipe___eq__.b) (hr.mono (by omega)) pass0) (pv 0) (pv 8) (nomark _)) pa_nil))) (pa_cons (pe_lst (pa_cons (pv 9) (pa_cons (pe_not (pv 9)) pa_nil))) pa_nil))))) (pss_one (ps_ret pe_bl)) pss_nil)))) (pss_one (ps_ret pe_bl)))))))), ?_⟩
    -- same, other
    refine ⟨.int many, rfl, .ref c, rfl, ?_⟩
    walk_at "nc"
    refine Or.inl (rd_listOf (.inr hc) fun l1 H1 n1 m1 e1 => ?_)
    refine rd_rec (.inl e1) (hy.mv m1) hm0 hF.ok (by omega) (fun t ht => Nat.le_trans (hF.cst t ht) (by decide)) fun xs H2 m2 hS => ?_
    have m02 := m1.trans m2
    refine ⟨.int many, rfl, Or.inl ⟨many, 1, rfl, rfl, .ref c, rfl, ?_⟩⟩
    walk_at "nc"
    refine Or.inl (rd_listOf (.inr (m02.sqT hc)) fun l3 H3 n3 m3 e3 => ?_)
    have hok1 : Tm.oks (fun i => 0 ≤ i ∧ i < many + 1) ts := Tm.oks_mono (fun i h => ⟨h.1, by omega⟩) ts hF.ok
    refine rd_rec (.inl e3) (hy.mv (m02.trans m3)) (by omega) hok1 (by omega) (fun t ht => Nat.le_trans (hF.cst t ht) (by decide)) fun xo H4 m4 hO => ?_
    have m24 := m3.trans m4
    have m04 := m02.trans m24
    refine ⟨_, _, rfl, ?_⟩
    have hc4 := m04.sqT hc
    have hy4 := hy.mv m04
    have hR4 := hR.mv m04
    have hS4 := hS.mv m24
    -- put behind one that does not fit
    refine ⟨.ref c, rfl, Or.inl ⟨c, ys, rfl, .inr hc4, Or.inl ⟨_, 1, rfl, rfl, (by decide : 1 ≤ sizeLine), fun p5 n5 => ?_⟩⟩⟩
    rw [show (fun i j : Int => V.int (i + j)) ys.length 1 = V.int (ys.length + 1) from rfl]
    have k5 := Mv.new (S := []) (o := (.lst [.int (ys.length + 1)])) n5
    have e5 : upd H4 p5 (.lst [.int (ys.length + 1)]) p5 = some (.lst [.int (ys.length + 1)]) := upd_same
    generalize upd H4 p5 (.lst [.int (ys.length + 1)]) = H5 at k5 e5 ⊢
    have m5 := k5
    refine ⟨.ref c, rfl, Or.inl ⟨c, ys, rfl, .inr (m5.sqT hc4), ⟨_, 1, rfl, rfl, (by decide : 1 ≤ sizeLine), fun p6 n6 => ?_⟩⟩⟩
    rw [show (fun i j : Int => V.int (i - j)) ys.length 1 = V.int (ys.length - 1) from rfl]
    have k6 := Mv.new (S := []) (o := (.lst [.int (ys.length - 1)])) n6
    have e6 : upd H5 p6 (.lst [.int (ys.length - 1)]) p6 = some (.lst [.int (ys.length - 1)]) := upd_same
    generalize upd H5 p6 (.lst [.int (ys.length - 1)]) = H6 at k6 e6 ⊢
    have m6 := m5.trans k6
    refine ⟨.ref c, rfl, (by decide : 0 ≤ sizeLine), fun p7 n7 => ?_⟩
    have k7 := Mv.new (S := []) (o := (.tup [])) n7
    have e7 : SqT K (upd H6 p7 (.tup [])) p7 [] := .inl (.inl upd_same)
    generalize upd H6 p7 (.tup []) = H7 at k7 e7 ⊢
    have m7 := m6.trans k7
    refine ⟨c, p7, ys, rfl, rfl, m7.sqT hc4, e7, Or.inr ⟨_, rfl, ?_⟩⟩
    have hk : ∃ kk : Nat, (if (!ys.isEmpty) = true then (1 : Int) else 0) = kk ∧ kk ≤ 1 ∧ (0 < kk → ys ≠ []) := by
      cases ys with
      | nil => exact ⟨0, rfl, by decide, fun h => absurd h (by decide)⟩
      | cons y ys => exact ⟨1, rfl, by decide, fun _ => List.cons_ne_nil _ _⟩
    obtain ⟨kk, hkk, hk1, hk2⟩ := hk
    rw [hkk]
    refine Or.inr ⟨p6, kk, _, rfl, rfl, k7.same _ _ e6, by omega, by omega, ?_, fun p8 n8 => ?_⟩
    · rw [Int.toNat_natCast]
      exact Nat.le_trans (show _ ≤ 1 by simp only [List.length_cons, List.length_nil]; omega) (by decide)
    rw [Int.toNat_natCast]
    have hrep : (List.replicate kk [V.int ((ys.length : Int) - 1)]).flatten = List.replicate kk (V.int ((ys.length : Int) - 1)) := rep_flat
    rw [hrep] at *
    have k8 := Mv.new (S := []) (o := (.lst (List.replicate kk (V.int ((ys.length : Int) - 1))))) n8
    have e8 : upd H7 p8 (.lst (List.replicate kk (V.int ((ys.length : Int) - 1)))) p8 = some (.lst (List.replicate kk (V.int ((ys.length : Int) - 1)))) := upd_same
    generalize upd H7 p8 (.lst (List.replicate kk (V.int ((ys.length : Int) - 1)))) = H8 at k8 e8 ⊢
    have m8 := m7.trans k8
    refine rd_catL ((k6.trans (k7.trans k8)).same _ _ e5) e8 (Nat.le_trans (show _ ≤ 2 by simp only [List.length_cons, List.length_nil, List.length_replicate]; omega) (by decide)) fun p9 H9 n9 k9 e9 => ?_
    have m9 := m8.trans k9
    have hwide : ∀ v ∈ [V.int ((ys.length : Int) + 1)] ++ List.replicate kk (V.int ((ys.length : Int) - 1)), ∃ w : Int, v = .int w ∧ 0 ≤ w ∧ w ≠ ts.length := by
      intro v hv
      rcases List.mem_append.mp hv with hv | hv
      · exact ⟨_, List.mem_singleton.mp hv, by omega, by omega⟩
      · obtain ⟨h1, h2⟩ := List.mem_replicate.mp hv
        have h3 : 0 < ys.length := List.length_pos_iff.mpr (hk2 (by omega))
        exact ⟨_, h2, by omega, by omega⟩
    refine ⟨p9, rfl, for_seq (xs := [V.int ((ys.length : Int) + 1)] ++ List.replicate kk (V.int ((ys.length : Int) - 1))) (.inl (.inl (.inl e9))) (fun i σ H' => ∃ y5 : Option V, σ = [some (.ref x), some (.int many), some (.ref c), some (.ref xs), some (.ref xo), y5, none, none, none, none] ∧ Mv [] H9 H')
      ⟨none, rfl, .refl⟩ (fun i σ H' h => h.choose_spec.2) (fun i v σ H' hv h => ?_) (fun σ H' h => ?_)⟩
    · obtain ⟨y5, rfl, m10⟩ := h
      obtain ⟨wd, rfl, hw0, hw1⟩ := hwide v (List.mem_of_getElem? hv)
      have m010 := m9.trans m10
      refine ⟨.ref x, rfl, .int wd, rfl, (by decide : 0 ≤ sizeLine), fun p11 n11 => ?_⟩
      have k11 := Mv.new (S := []) (o := (.lst [])) n11
      have e11 : upd H' p11 (.lst []) p11 = some (.lst []) := upd_same
      generalize upd H' p11 (.lst []) = H11 at k11 e11 ⊢
      have m11 := m010.trans k11
      refine rd_rec (ts := []) (xs := []) (.inl e11) Ims.nil hw0 trivial (by decide) (by simp) fun xw H12 m12 hW => ?_
      have m012 := m11.trans m12
      refine ⟨x, xw, many, wd, ts, [], rfl, hR4.mv m012, hW, hm0, by omega, fun _ v H13 m13 hv13 => ?_, fun e => absurd e hw1⟩
      refine ⟨(by decide : 2 ≤ sizeLine), fun p14 n14 => ?_⟩
      have k14 := Mv.new (S := []) (o := (.tup [.str "unlike", .non])) n14
      have e14 : SqT K (upd H13 p14 (.tup [.str "unlike", .non])) p14 [.str "unlike", .non] := .inl (.inl upd_same)
      generalize upd H13 p14 (.tup [.str "unlike", .non]) = H14 at k14 e14 ⊢
      have m14 := m13.trans k14
      refine Or.inr ⟨_, _, (hv13.mv k14).dp, .tup e14 (.cons (.str _) (.cons .non .nil)), by decide +kernel, by decide +kernel, false, ?_, ?_⟩
      · rw [show PyData.eqv (.tuple [.str "unlike", .none]) (.tuple [.str "unlike", .none]) = true by decide +kernel]
        rfl
      · exact ⟨_, rfl, m10.trans (k11.trans (m12.trans m14))⟩
    obtain ⟨y5, rfl, m10⟩ := h
    have m010 := m9.trans m10
    have hF0 := hF
    -- keeping
    refine ⟨rfl, .int many, rfl, many, rfl, hm0, by omega, fun xk H15 m15 hK => ?_⟩
    refine ⟨.int many, rfl, .int many, rfl, many, rfl, RgOk.of_le (by decide) (by omega) (by decide) (by omega), fun p16 n16 => ?_⟩
    rw [rgv_vars]
    have k16 := Mv.new (S := []) (o := (.tup ((varsT many.toNat).map vv))) n16
    have e16 : SqT K (upd H15 p16 (.tup ((varsT many.toNat).map vv))) p16 ((varsT many.toNat).map vv) := .inl (.inl upd_same)
    generalize upd H15 p16 (.tup ((varsT many.toNat).map vv)) = H16 at k16 e16 ⊢
    have m16 := m15.trans k16
    refine ⟨xk, p16, many, varsT many.toNat, _, rfl, hK.mv k16, e16, ims_vars _, hF.m40, vars_f hm0 hm1, fun H17 m17 => ⟨true, rfl, ?_⟩⟩
    have m017 := m010.trans (m16.trans m17)
    -- bent
    refine ⟨.ref c, rfl, Or.inl ⟨c, ys, rfl, .inr (m017.sqT hc4), ⟨_, 2, rfl, rfl, ⟨by decide, by decide⟩, ?_⟩⟩⟩
    rw [show (fun i j : Int => V.int (i / j)) ys.length 2 = V.int ((ys.length / 2 : Nat) : Int) from rfl]
    obtain ⟨at_, hat⟩ : ∃ at_ : Nat, ys.length / 2 = at_ := ⟨_, rfl⟩
    rw [hat]
    refine ⟨.int many, rfl, .ref c, rfl, Or.inl (rd_listOf (.inr (m017.sqT hc4)) fun l18 H18 n18 m18 e18 => ⟨.int at_, rfl, at_, rfl, Or.inl ⟨l18, ys, rfl, .inl (.inl e18), fun p19 n19 => ?_⟩⟩)⟩
    rw [cut_hi]
    have k19 := Mv.new (S := []) (o := (.lst (ys.take at_))) n19
    have e19 : upd H18 p19 (.lst (ys.take at_)) p19 = some (.lst (ys.take at_)) := upd_same
    generalize upd H18 p19 (.lst (ys.take at_)) = H19 at k19 e19 ⊢
    have m19 := m18.trans k19
    refine ⟨(by decide : 1 ≤ sizeLine), fun p20 n20 => ?_⟩
    have k20 := Mv.new (S := []) (o := (.tup [.str "zzzzzzzz"])) n20
    have e20 : SqT K (upd H19 p20 (.tup [.str "zzzzzzzz"])) p20 [.str "zzzzzzzz"] := .inl (.inl upd_same)
    generalize upd H19 p20 (.tup [.str "zzzzzzzz"]) = H20 at k20 e20 ⊢
    have m20 := m19.trans k20
    refine ⟨(by decide : 1 ≤ sizeLine), fun p21 n21 => ?_⟩
    have k21 := Mv.new (S := []) (o := (.lst [.ref p20])) n21
    have e21 : upd H20 p21 (.lst [.ref p20]) p21 = some (.lst [.ref p20]) := upd_same
    generalize upd H20 p21 (.lst [.ref p20]) = H21 at k21 e21 ⊢
    have m21 := m20.trans k21
    refine rd_catL ((k20.trans k21).same _ _ e19) e21 (Nat.le_trans (show _ ≤ 60 by rw [List.length_take]; simp only [List.length_cons, List.length_nil]; omega) (by decide)) fun p22 H22 n22 k22 e22 => ?_
    have m22 := m21.trans k22
    refine ⟨.ref c, rfl, Or.inl (rd_listOf (.inr ((m017.trans m22).sqT hc4)) fun l23 H23 n23 k23 e23 => ⟨.int at_, rfl, Or.inl ⟨at_, 1, rfl, rfl, (at_ : Int) + 1, rfl, Or.inl ⟨l23, ys, rfl, .inl (.inl e23), fun p24 n24 => ?_⟩⟩⟩)⟩
    rw [show ((at_ : Int) + 1) = ((at_ + 1 : Nat) : Int) by omega, cut_lo]
    have m23 := m22.trans k23
    have k24 := Mv.new (S := []) (o := (.lst (ys.drop (at_ + 1)))) n24
    have e24 : upd H23 p24 (.lst (ys.drop (at_ + 1))) p24 = some (.lst (ys.drop (at_ + 1))) := upd_same
    generalize upd H23 p24 (.lst (ys.drop (at_ + 1))) = H24 at k24 e24 ⊢
    have m24 := m23.trans k24
    refine rd_catL ((k23.trans k24).same _ _ e22) e24 (Nat.le_trans (show _ ≤ 200 by simp only [List.length_append, List.length_take, List.length_drop, List.length_cons, List.length_nil]; omega) (by decide)) fun p25 H25 n25 k25 e25 => ?_
    have m25 := m24.trans k25
    have hz : Nm "zzzzzzzz" := by decide +kernel
    have hc1 : Nm "c" := by decide +kernel
    have hFb := rcf_cut hz at_ (at_ + 1) (by omega) hF hl hsz
    have hi25 : Ims K H25 (ys.take at_ ++ [.ref p20] ++ ys.drop (at_ + 1)) (Tm.ds (ts.take at_ ++ [.op "zzzzzzzz" []] ++ ts.drop (at_ + 1))) := by
      have hy25 := hy4.mv (m017.trans m25)
      rw [Tm.ds_app, Tm.ds_app]
      refine ((ims_take at_ hy25).append (.cons (.tup ((k21.trans (k22.trans (k23.trans (k24.trans k25)))).sqT e20) (.cons (.str _) .nil)) .nil)).append (ims_drop (at_ + 1) hy25)
    refine rd_rec (.inl e25) hi25 hm0 hFb.ok (by have := hFb.f.ln; omega) (fun t ht => Nat.le_trans (hFb.cst t ht) (by decide)) fun xb H26 k26 hB26 => ?_
    have m26 := m25.trans k26
    have m026 := m017.trans m26
    -- all others
    refine ⟨.ref xs, rfl, .ref xo, rfl, .ref c, rfl, .int many, rfl, .ref c, rfl, Or.inl (rd_listOf (.inr (m026.sqT hc4)) fun l27 H27 n27 m27 e27 => ?_)⟩
    refine ⟨(by decide : 1 ≤ sizeLine), fun p28 n28 => ?_⟩
    have k28 := Mv.new (S := []) (o := (.tup [.str "c"])) n28
    have e28 : SqT K (upd H27 p28 (.tup [.str "c"])) p28 [.str "c"] := .inl (.inl upd_same)
    generalize upd H27 p28 (.tup [.str "c"]) = H28 at k28 e28 ⊢
    have m28 := m27.trans k28
    refine ⟨(by decide : 1 ≤ sizeLine), fun p29 n29 => ?_⟩
    have k29 := Mv.new (S := []) (o := (.lst [.ref p28])) n29
    have e29 : upd H28 p29 (.lst [.ref p28]) p29 = some (.lst [.ref p28]) := upd_same
    generalize upd H28 p29 (.lst [.ref p28]) = H29 at k29 e29 ⊢
    have m29 := m28.trans k29
    refine rd_catL ((k28.trans k29).same _ _ e27) e29 (Nat.le_trans (show _ ≤ 60 by simp only [List.length_cons, List.length_nil]; omega) (by decide)) fun p30 H30 n30 k30 e30 => ?_
    have m30 := m29.trans k30
    have hFc : RcF many (ts ++ [.op "c" []]) := by
      have := rcf_cut hc1 ts.length ts.length (Nat.le_refl _) hF hl hsz
      rwa [List.take_length, List.drop_length, List.append_nil] at this
    have hi30 : Ims K H30 (ys ++ [.ref p28]) (Tm.ds (ts ++ [.op "c" []])) := by
      rw [Tm.ds_app]
      exact (hy4.mv (m026.trans m30)).append (.cons (.tup ((k29.trans k30).sqT e28) (.cons (.str _) .nil)) .nil)
    refine rd_rec (.inl e30) hi30 hm0 hFc.ok (by have := hFc.f.ln; omega) (fun t ht => Nat.le_trans (hFc.cst t ht) (by decide)) fun xc H31 k31 hC31 => ?_
    have m31 := m30.trans k31
    refine ⟨.ref xb, rfl, (by decide : 6 ≤ sizeLine), fun p32 n32 => ?_⟩
    have k32 := Mv.new (S := []) (o := (.tup [.ref xs, .ref xo, .ref c, .non, .ref xc, .ref xb])) n32
    have e32 : SqT K (upd H31 p32 (.tup [.ref xs, .ref xo, .ref c, .non, .ref xc, .ref xb])) p32 [.ref xs, .ref xo, .ref c, .non, .ref xc, .ref xb] := .inl (.inl upd_same)
    generalize upd H31 p32 (.tup [.ref xs, .ref xo, .ref c, .non, .ref xc, .ref xb]) = H32 at k32 e32 ⊢
    have m32 := m31.trans k32
    have m032 := m026.trans m32
    have hFo : RcF (many + 1) ts := ⟨by omega, by omega, hok1, hF.f, hF.cst⟩
    have hcmp : ∀ v ∈ ([.ref xs, .ref xo, .ref c, .non, .ref xc, .ref xb] : List V), ∀ H', Mv [] H32 H' → Cmp K T.C_Recipe H' v := by
      intro v hv H' m'
      refine Cmp.mv (H := H32) ?_ m'
      simp only [List.mem_cons, List.not_mem_nil, or_false] at hv
      rcases hv with rfl | rfl | rfl | rfl | rfl | rfl
      · exact .inl ⟨xs, many, ts, rfl, hS4.mv m032, hF⟩
      · exact .inl ⟨xo, _, ts, rfl, hO.mv m032, hFo⟩
      · exact .inr (.inl ⟨c, ys, rfl, m032.sqT hc4⟩)
      · exact .inr (.inr rfl)
      · exact .inl ⟨xc, _, _, rfl, hC31.mv k32, hFc⟩
      · exact .inl ⟨xb, _, _, rfl, hB26.mv m32, hFb⟩
    refine ⟨p32, rfl, for_seq (xs := [.ref xs, .ref xo, .ref c, .non, .ref xc, .ref xb]) (.inr e32) (fun i σ H' => ∃ y8 y9 : Option V, σ = [some (.ref x), some (.int many), some (.ref c), some (.ref xs), some (.ref xo), y5, some (.int at_), some (.ref xb), y8, y9] ∧ Mv [] H32 H')
      ⟨none, none, rfl, .refl⟩ (fun i σ H' h => h.choose_spec.choose_spec.2) (fun i v σ H' hv h => ?_) (fun σ H' h => ?_)⟩
    · obtain ⟨y8, y9, rfl, m33⟩ := h
      have hcv := hcmp v (List.mem_of_getElem? hv) H' m33
      have m033 := m032.trans m33
      have hR33 := hR4.mv m033
      obtain ⟨dx, px, vx, hsx, _, _, _⟩ := hR33.tm
      have hsh := hF.f.shw.shaped
      rcases hcv with ⟨x2, m2, ts2, rfl, hR2, hF2⟩ | ⟨ty, ht, hpl⟩
      · obtain ⟨dx2, px2, vx2, hsx2, _, _, _⟩ := hR2.tm
        have hsh2 := hF2.f.shw.shaped
        refine ⟨.ref x2, rfl, Or.inl ⟨x2, T.C_Recipe, dx2, _, .ref T.C_Recipe, true, rfl, rfl, fun _ h => h, hsx2, T.c_Recipe, T.is_Recipe, kitOne_self _, true, rfl, ?_⟩⟩
        refine ⟨.ref x2, rfl, x2, dx2, _, rfl, hsx2, x2, m2, ts2, rfl, hR2, ?_⟩
        refine ⟨.ref x2, rfl, x2, dx2, _, rfl, hsx2, x2, m2, ts2, rfl, hR2, fun u hu => ⟨(by decide : 2 ≤ sizeLine), fun p34 n34 => ?_⟩⟩
        have k34 := Mv.new (S := []) (o := (.tup [.int m2, u])) n34
        have e34 : SqT K (upd H' p34 (.tup [.int m2, u])) p34 [.int m2, u] := .inl (.inl upd_same)
        generalize upd H' p34 (.tup [.int m2, u]) = H34 at k34 e34 ⊢
        have m34 := k34
        refine ⟨.int many, rfl, .ref c, rfl, (by decide : 2 ≤ sizeLine), fun p35 n35 => ?_⟩
        have k35 := Mv.new (S := []) (o := (.tup [.int many, .ref c])) n35
        have e35 : SqT K (upd H34 p35 (.tup [.int many, .ref c])) p35 [.int many, .ref c] := .inl (.inl upd_same)
        generalize upd H34 p35 (.tup [.int many, .ref c]) = H35 at k35 e35 ⊢
        have m35 := m34.trans k35
        refine Or.inr ⟨.tuple [.int m2, tsD ts2], .tuple [.int many, tsD ts], .tup (k35.sqT e34) (.cons (.int _) (.cons (hu.mv m35).dp .nil)), .tup e35 (.cons (.int _) (.cons (.tup ((m033.trans m35).sqT hc4) (hy4.mv (m033.trans m35)).dp) .nil)), shp_pair hF2.m40 hF2.f, shp_pair hF.m40 hF.f, ?_⟩
        rw [rec_due hF.f.shw hF2.f.shw]
        have hR35 := hR33.mv m35
        have hR235 := hR2.mv m35
        refine ⟨.ref x, rfl, .ref x2, rfl, ⟨x, dx, _, rfl, Slt.mv hsx m35, .inl ⟨x2, _, dx2, _, rfl, Slt.mv hsx2 m35, notFirst_self⟩, x, many, ts, .ref x2, rfl, hR35, hsh, .inl ⟨x2, m2, ts2, rfl, hR235, hsh2, ?_⟩⟩⟩
        refine ⟨.ref x, rfl, .ref x2, rfl, ⟨x, dx, _, rfl, Slt.mv hsx m35, .inl ⟨x2, _, dx2, _, rfl, Slt.mv hsx2 m35, notFirst_self⟩, x, many, ts, .ref x2, rfl, hR35, hsh, .inl ⟨x2, m2, ts2, rfl, hR235, hsh2, _, rfl, ?_⟩⟩⟩
        generalize recEq many m2 ts ts2 = d
        refine ⟨(by decide : 2 ≤ sizeLine), fun p36 n36 => ?_⟩
        have k36 := Mv.new (S := []) (o := (.lst [.bl d, .bl !d])) n36
        have e36 : upd H35 p36 (.lst [.bl d, .bl !d]) p36 = some (.lst [.bl d, .bl !d]) := upd_same
        generalize upd H35 p36 (.lst [.bl d, .bl !d]) = H36 at k36 e36 ⊢
        have m36 := m35.trans k36
        refine ⟨.bl d, rfl, .bl d, rfl, d, rfl, (by decide : 2 ≤ sizeLine), fun p37 n37 => ?_⟩
        have k37 := Mv.new (S := []) (o := (.lst [.bl d, .bl !d])) n37
        have e37 : upd H36 p37 (.lst [.bl d, .bl !d]) p37 = some (.lst [.bl d, .bl !d]) := upd_same
        generalize upd H36 p37 (.lst [.bl d, .bl !d]) = H37 at k37 e37 ⊢
        have m37 := m36.trans k37
        exact ⟨.ref p36, .ref p37, .list [.bool d, .bool !d], rfl, .lst (.inl (.inl (k37.same _ _ e36))) (.cons (.bl _) (.cons (.bl _) .nil)), .lst (.inl (.inl e37)) (.cons (.bl _) (.cons (.bl _) .nil)), shw_bb d _, true, rfl, _, _, rfl, m33.trans m37⟩
      · refine ⟨v, rfl, Or.inr ⟨v, .ref T.C_Recipe, .type ty, .ref T.C_Recipe, false, rfl, .own _, ht, kitOne_plain hpl T.c_Recipe.ic T.ty_Recipe, false, rfl, ?_⟩⟩
        refine ⟨.ref x, rfl, v, rfl, ⟨x, dx, _, rfl, hsx, .inr ⟨_, ht, notFirst_plain hpl⟩, x, many, ts, v, rfl, hR33, hsh, .inr ⟨ty, ht, hpl, ?_⟩⟩⟩
        refine ⟨.ref x, rfl, v, rfl, ⟨x, dx, _, rfl, hsx, .inr ⟨_, ht, notFirst_plain hpl⟩, x, many, ts, v, rfl, hR33, hsh, .inr ⟨ty, ht, hpl, _, rfl, ?_⟩⟩⟩
        refine ⟨(by decide : 2 ≤ sizeLine), fun p36 n36 => ?_⟩
        have k36 := Mv.new (S := []) (o := (.lst [.bl false, .bl !false])) n36
        have e36 : upd H' p36 (.lst [.bl false, .bl !false]) p36 = some (.lst [.bl false, .bl !false]) := upd_same
        generalize upd H' p36 (.lst [.bl false, .bl !false]) = H36 at k36 e36 ⊢
        have m36 := k36
        refine ⟨.bl false, rfl, .bl false, rfl, false, rfl, (by decide : 2 ≤ sizeLine), fun p37 n37 => ?_⟩
        have k37 := Mv.new (S := []) (o := (.lst [.bl false, .bl !false])) n37
        have e37 : upd H36 p37 (.lst [.bl false, .bl !false]) p37 = some (.lst [.bl false, .bl !false]) := upd_same
        generalize upd H36 p37 (.lst [.bl false, .bl !false]) = H37 at k37 e37 ⊢
        have m37 := m36.trans k37
        exact ⟨.ref p36, .ref p37, .list [.bool false, .bool !false], rfl, .lst (.inl (.inl (k37.same _ _ e36))) (.cons (.bl _) (.cons (.bl _) .nil)), .lst (.inl (.inl e37)) (.cons (.bl _) (.cons (.bl _) .nil)), shw_bb false _, true, rfl, _, _, rfl, m33.trans m37⟩
    · obtain ⟨y8, y9, rfl, m33⟩ := h
      exact q _ (m04.trans (m032.trans m33))
end
end Fm
/-! comprehensions over data: what is kept, and what becomes of it -/
namespace Fm
open PySem PySem.Spec PyProof.Rows L2
theorem lc_fm {α : Type} {K : PySem.W.Frag} {a : Addr} {xs : List V} {as : List α} {enc : α → PyData} {g : TG} {tt : TT} {te : TE} {vs : List Nat} {σ : L2.St} {H : Hp} {Qd : Addr → Hp → Prop} (f : α → Option PyData) (hS : SqL K H a xs ∨ SqT K H a xs) (hds : Ims K H xs (as.map enc)) (hlen : as.length ≤ 10000)
    (hs : ∀ x e H' (Q : VK) (R : Hp → Prop), e ∈ as → Im K H' x (enc e) → Mv [] H H' → (∀ d, f e = some d → ∀ y H4, Mv [] H' H4 → Im K H4 y d → Q y H4) → (f e = none → ∀ H3, Mv [] H' H3 → R H3) →
      g x (wipe σ vs) H' fun σ2 H2 => wipe σ2 vs = wipe σ vs ∧ tt σ2 H2 fun b H3 => if b = true then te σ2 H3 Q else R H3)
    (hd : ∀ D ys H', H D = none → H' D = some (.lst ys) → Ims K H' ys (as.filterMap f) → Mv [] H H' → Qd D H') :
    ((∃ xs, SqL K H a xs) ∧ ∀ D, H D = none → ∃ W : Nat → Nat → Hp → Prop, (∃ m, W 0 m (upd H D (.lst []))) ∧ ∀ i m H, W i m H →
      ((Itl K a).stop i H ∧ Qd D H) ∨ ((Itl K a).go i H ∧ ∃ Nx : Hp → Prop, (∀ H', Nx H' → ∃ m', m' < m ∧ W (i + 1) m' H') ∧ ∀ x H', (Itl K a).yld i H x H' → g x (wipe σ vs) H' fun σ2 H2 => wipe σ2 vs = wipe σ vs ∧ tt σ2 H2 fun b H3 =>
        if b = true then te σ2 H3 fun y H4 => ∃ acc, H4 D = some (.lst acc) ∧ acc.length < sizeLine ∧ Nx (upd H4 D (.lst (acc ++ [y]))) else Nx H3)) ∨
    ((∃ xs, SqT K H a xs) ∧ ∀ D, H D = none → ∃ W : Nat → Nat → Hp → Prop, (∃ m, W 0 m (upd H D (.lst []))) ∧ ∀ i m H, W i m H →
      ((Itt K a).stop i H ∧ Qd D H) ∨ ((Itt K a).go i H ∧ ∃ Nx : Hp → Prop, (∀ H', Nx H' → ∃ m', m' < m ∧ W (i + 1) m' H') ∧ ∀ x H', (Itt K a).yld i H x H' → g x (wipe σ vs) H' fun σ2 H2 => wipe σ2 vs = wipe σ vs ∧ tt σ2 H2 fun b H3 =>
        if b = true then te σ2 H3 fun y H4 => ∃ acc, H4 D = some (.lst acc) ∧ acc.length < sizeLine ∧ Nx (upd H4 D (.lst (acc ++ [y]))) else Nx H3)) := by
  have hxl := hds.length
  rw [List.length_map] at hxl
  refine lc_seq hS (fun i D H1 => ∃ ys, H1 D = some (.lst ys) ∧ Ims K H1 ys ((as.take i).filterMap f) ∧ Mv [] H H1)
    (fun D nD => ⟨[], upd_same, .nil, .new nD⟩) (fun i D H1 nD h1 => h1.choose_spec.2.2) (fun D nD i x H1 hx h1 => ?_) (fun D H1 nD h1 => ?_)
  · obtain ⟨ys, e1, i1, m1⟩ := h1
    obtain ⟨dd, hdd, him⟩ := hds.get hx
    rw [List.getElem?_map] at hdd
    obtain ⟨e, he, rfl⟩ := Option.map_eq_some_iff.mp hdd
    have hil := (List.getElem?_eq_some_iff.mp he).1
    have htk : as.take (i + 1) = as.take i ++ [e] := by rw [List.take_add_one, he]; rfl
    refine hs x e H1 _ _ (List.mem_of_getElem? he) (him.mv m1) m1 (fun d hfd y H4 m4 hy => ?_) (fun hfn H3 m3 => ?_)
    · have e4 := m4.same _ _ e1
      refine ⟨ys, e4, ?_, ys ++ [y], upd_same, ?_, (m1.trans m4).wr nD⟩
      · rw [i1.length]
        have h3 : ((as.take i).filterMap f).length ≤ (as.take i).length := List.length_filterMap_le _ _
        rw [List.length_take] at h3
        exact Nat.lt_of_le_of_lt (show _ ≤ 10000 by omega) (by decide)
      · have : (as.take (i + 1)).filterMap f = (as.take i).filterMap f ++ [d] := by
          rw [htk, List.filterMap_append]
          simp [hfd]
        rw [this]
        exact ((i1.mv m4).append (.cons hy .nil)).mv (Mv.set (S := [D]) e4 (by simp))
    · have : (as.take (i + 1)).filterMap f = (as.take i).filterMap f := by
        rw [htk, List.filterMap_append]
        simp [hfn]
      refine ⟨ys, m3.same _ _ e1, ?_, m1.trans m3⟩
      rw [this]
      exact i1.mv m3
  · obtain ⟨ys, e1, i1, m1⟩ := h1
    rw [hxl, List.take_length] at i1
    exact hd D ys H1 nD e1 i1 m1
end Fm
/-! recipes told: the law -/
namespace Fm
open PySem PySem.Spec PyProof.Rows L2 SlX
local macro_rules | `(tactic| walk_at "nn") => `(tactic| dsimp only [tC, tNil, tCons, tCB, tCall, gName, tSeq, tAsg, tPar, tDrop, tRet])
local macro_rules | `(tactic| walk_at "nc") => `(tactic| dsimp only [tC, tNil, tCons, tCB, tCall])
def upto (n i : Int) : Prop := 0 ≤ i ∧ i < n
theorem upto_fit {n : Int} (hn : n ≤ 100) (i : Int) (h : upto n i) : fit i := Nat.lt_of_le_of_lt (show i.natAbs ≤ 100 by have := h.1; have := h.2; omega) (by decide)
theorem head_subR (s : Int → Tm) {ws ts : List Tm} (h : Tm.oks (fun i => 0 ≤ i ∧ i < ws.length) ts) : ts.map (Tm.put (vat (ws.map (Tm.put s)))) = (ts.map (Tm.put (vat ws))).map (Tm.put s) := by
  rw [List.map_map]
  refine List.map_congr_left fun t ht => ?_
  show t.put _ = (t.put _).put s
  rw [Tm.put_put]
  refine Tm.put_congr t fun i hi => ?_
  have hi' := Tm.ok_leaves t (Tm.oks_iff.mp h t ht) i hi
  unfold vat
  rw [List.getElem?_map, List.getElem?_eq_getElem (show i.toNat < ws.length by have := hi'.1; have := hi'.2; omega)]
  rfl
/-- some terms are small -/
theorem few_sm {R : Int → Prop} {n : Nat} : ∀ (ts : List Tm), Tm.oks R ts → Tm.deps ts ≤ n → Tm.csts ts ≤ 48 * 3 ^ n * ts.length ∧ Tm.lvs ts ≤ 3 ^ n * ts.length
  | [], _, _ => by simp [Tm.csts, Tm.lvs]
  | t :: ts, h, hd => by
    simp only [Tm.deps] at hd
    have h1 := Tm.small n t h.1 (by omega)
    have h2 := few_sm (n := n) ts h.2 (by omega)
    have h3 := Nat.one_le_pow n 3 (by decide)
    simp only [Tm.csts, Tm.lvs, List.length_cons, Nat.mul_add, Nat.mul_one]
    omega
theorem tsf_few {R : Int → Prop} {ts : List Tm} (hf : ∀ i, R i → fit i) (h : Tm.oks R ts) (hd : Tm.deps ts ≤ 5) (hl : ts.length ≤ 6) : TsF ts := by
  obtain ⟨h1, h2⟩ := few_sm (n := 5) ts h hd
  rw [show 3 ^ 5 = 243 from rfl] at h1 h2
  exact ⟨Tm.oks_mono hf ts h, by omega, by omega, by omega⟩
theorem shw_few {R : Int → Prop} {ts : List Tm} (hf : ∀ i, R i → fit i) (h : Tm.oks R ts) (hd : Tm.deps ts ≤ 7) (hl : ts.length ≤ 6) : Shw (tsD ts) := by
  obtain ⟨h1, h2⟩ := few_sm (n := 7) ts h hd
  rw [show 3 ^ 7 = 2187 from rfl] at h1 h2
  have hw := wl_ds ts h
  exact ⟨fine_ds (fun i hi => hf i hi) ts h, by simp only [tsD, PyData.depth]; rw [depth_ds]; omega, by simp only [tsD, wl]; omega⟩
theorem cst_few {R : Int → Prop} {ts : List Tm} (h : Tm.oks R ts) (hd : Tm.deps ts ≤ 5) : ∀ t ∈ ts, t.cst + t.lv ≤ 80000 := fun t ht => by
  have h1 := Tm.small 5 t (Tm.oks_iff.mp h t ht) (Tm.deps_le.mp hd t ht)
  rw [show 3 ^ 5 = 243 from rfl] at h1
  omega
theorem rcf_few {many : Int} {ts : List Tm} (h0 : 0 ≤ many) (h1 : many ≤ 50) (h : Tm.oks (upto many) ts) (hd : Tm.deps ts ≤ 5) (hl : ts.length ≤ 6) : RcF many ts :=
  ⟨h0, by omega, h, tsf_few (fun i => upto_fit (by omega) i) h hd hl, cst_few h hd⟩
/-- terms put in -/
theorem put_all_ok {R : Int → Prop} {d e : Nat} {ts us : List Tm} (ht : Tm.oks R ts) (htd : Tm.deps ts ≤ d) (hu : Tm.oks (fun i => 0 ≤ i ∧ i < ts.length) us) (hud : Tm.deps us ≤ e) : Tm.oks R (us.map (Tm.put (vat ts))) ∧ Tm.deps (us.map (Tm.put (vat ts))) ≤ e + d := by
  have hR : ∀ i, (0 ≤ i ∧ i < (ts.length : Int)) → (vat ts i).ok R ∧ (vat ts i).dep ≤ d := fun i hi => by
    have := vat_mem hi.1 hi.2
    exact ⟨Tm.oks_iff.mp ht _ this, Tm.deps_le.mp htd _ this⟩
  rw [← Tm.puts_map]
  refine ⟨Tm.oks_puts (fun i hi => (hR i hi).1) us hu, Nat.le_trans (Tm.deps_puts (P := fun i => 0 ≤ i ∧ i < (ts.length : Int)) (fun i hi => (hR i hi).2) us hu) (by omega)⟩
/-- terms as they are drawn, one behind another -/
def DrT (K : PySem.W.Frag) (b D : Addr) (n : Int) (d : Nat) (H : Hp) (i : Nat) (H' : Hp) : Prop := ∃ (vs : List V) (us : List Tm), H' D = some (.lst vs) ∧ Ims K H' vs (Tm.ds us) ∧ us.length = i ∧ Tm.oks (upto n) us ∧ Tm.deps us ≤ d ∧ Dr b H H'
theorem DrT.nil {K : PySem.W.Frag} {b D : Addr} {n : Int} {d : Nat} {H : Hp} (nD : H D = none) : DrT K b D n d H 0 (upd H D (.lst [])) := ⟨[], [], upd_same, .nil, rfl, trivial, Nat.zero_le _, .new nD⟩
theorem DrT.snoc {K : PySem.W.Frag} {b D : Addr} {n : Int} {d : Nat} {H H1 H2 : Hp} {i : Nat} {v : V} {t : Tm} (h : DrT K b D n d H i H1) (hi : i < 1000) (hDb : D ≠ b) (nD : H D = none) (m : Dr b H1 H2) (ho : t.ok (upto n)) (hd : t.dep ≤ d) (hv : Im K H2 v t.d) : ∃ acc, H2 D = some (.lst acc) ∧ acc.length < sizeLine ∧ DrT K b D n d H (i + 1) (upd H2 D (.lst (acc ++ [v]))) := by
  obtain ⟨vs, us, e1, i1, l1, o1, d1, m1⟩ := h
  have e2 := m.get hDb e1
  refine ⟨vs, e2, ?_, vs ++ [v], us ++ [t], upd_same, ?_, by simp [l1], ?_, ?_, (m1.trans m).wr nD⟩
  · rw [i1.length, Tm.ds_map, List.length_map, l1]
    exact small1000 (by omega)
  · rw [Tm.ds_app]
    exact ((i1.mv m.mv).append (.cons hv .nil)).mv (Mv.set (S := [D]) e2 (by simp))
  · rw [Tm.oks_app]
    exact ⟨o1, ho, trivial⟩
  · rw [Tm.deps_app]
    simp only [Tm.deps]
    omega
theorem RecAt.put {K : PySem.W.Frag} {H : Hp} {C x p : Addr} {many : Int} {ts : List Tm} {zs : List V} {o : HO} (h : RecAt K H C x many ts) (hp : H p = some (.lst zs)) : RecAt K (upd H p o) C x many ts := by
  obtain ⟨dx, q, xs, h1, h2, h3⟩ := h
  have m : Mv [p] H (upd H p o) := Mv.set hp (by simp)
  exact ⟨dx, q, xs, Slt.put h1 hp, m.sqT h2, h3.mv m⟩
theorem shp_wk (k : Nat) : SeqAt.shaped (.tuple [.str "wrong", .int (k : Nat)]) = true := by
  have h : PyData.strOk "wrong" = true := by decide +kernel
  simp [SeqAt.shaped, PyData.canLay0, PyData.canLayAll0, PyData.depth, PyData.depthAll, h]
theorem shaped_lay0 {d : PyData} (h : SeqAt.shaped d = true) : d.canLay0 = true := by
  have h' : (d.canLay0 && decide (d.depth ≤ 64)) = true := h
  rw [Bool.and_eq_true] at h'
  exact h'.1
theorem lookL {K : PySem.W.Frag} {H : Hp} {l : Addr} {xs : List V} {ws : List Tm} (h : SqL K H l xs ∨ SqT K H l xs) (hi : Ims K H xs (Tm.ds ws)) : Look1 K H (.ref l) (fun i => 0 ≤ i ∧ i < (ws.length : Int)) (vat ws) := by
  have key : ∀ i : Int, (0 ≤ i ∧ i < (ws.length : Int)) → 0 ≤ i ∧ ∃ v, xs[i.toNat]? = some v ∧ Im K H v (vat ws i).d := fun i hi2 => by
    obtain ⟨v, hv, him⟩ := hi.getD (i := i.toNat) (d := (vat ws i).d) (by rw [Tm.ds_map, List.getElem?_map, vat_some hi2.1 hi2.2]; rfl)
    exact ⟨hi2.1, v, hv, him⟩
  exact ⟨l, rfl, h.elim (fun h => .inl ⟨xs, h, key⟩) fun h => .inr (.inl ⟨xs, h, key⟩)⟩
theorem fm_some (f : Tm → Tm) (ts : List Tm) : (ts.filterMap fun t => some (f t).d) = Tm.ds (ts.map f) := by
  rw [Tm.ds_map, List.map_map]
  induction ts with
  | nil => rfl
  | cons t ts ih => simp [ih]
def sp_law (K : PySem.W.Frag) : Sp := fun vs H Q _ => ∃ (a : Addr) (ns : List Int), vs = [.ref a] ∧ SqL K H a (ns.map V.int) ∧ ns.length ≤ 63 ∧ ∀ H', Q (.bl true) H'
section
variable {P : Program} {w : World} {K : PySem.W.Frag} {mg : Str → Option Value} {base : Heap}
theorem ok_law (T : TX K mg) (Y : TY P K mg) : FnOkG P w K mg base CX0 60 T.d_law.f T.d_law.fd P_law (sp_law K) := by
  have G__law_bag : FnOk P w K mg base CX0 1 T.d__law_bag.f T.d__law_bag.fd P__law_bag (sp_bag K) := ok__law_bag T
  have G__law_names : FnOk P w K mg base CX0 2 T.d__law_names.f T.d__law_names.fd P__law_names sp_names := ok__law_names T
  have G__law_take : FnOk P w K mg base CX0 1 T.d__law_take.f T.d__law_take.fd P__law_take sp_take := ok__law_take T
  have G__law_term : FnOk P w K mg base CX0 6 T.d__law_term.f T.d__law_term.fd P__law_term (sp_term K 4) := ok__law_term T 4
  have G__law_put : FnOk P w K mg base CX0 5 T.d__law_put.f T.d__law_put.fd P__law_put (sp_put K 4) := ok__law_put T 4
  have G__law_alike : FnOkG P w K mg base CX0 1 T.d__law_alike.f T.d__law_alike.fd P__law_alike (sp_alike K) := ok__law_alike T
  have G_Recipe___init__ : FnOk P w K mg base (CX P w) 5 T.d_Recipe___init__.f T.d_Recipe___init__.fd P_Recipe___init__ (sp_RecT K T.C_Recipe Y.C_Wrong) := ok_Recipe___init__ T Y
  have G_Recipe___call__ : FnOk P w K mg base CX0 11 T.d_Recipe___call__.f T.d_Recipe___call__.fd P_Recipe___call__ (sp_Reccall K T.C_Recipe 8) := ok_Recipe___call__ T 8 (k := 0)
  have G__law_times : FnOk P w K mg base CX0 21 T.d__law_times.f T.d__law_times.fd P__law_times (sp_rtimes K T.C_Recipe 8) := ok__law_times T Y (k := 0)
  have G__law_tells : FnOkG P w K mg base CX0 3 T.d__law_tells.f T.d__law_tells.fd P__law_tells (sp_rtells K T.C_Recipe) := ok__law_tells T
  have G__law_made : FnOk P w K mg base CX0 8 T.d__law_made.f T.d__law_made.fd P__law_made (sp_rmade K T.C_Recipe) := ok__law_made T Y
  have G__law_bad : FnOk P w K mg base CX0 8 T.d__law_bad.f T.d__law_bad.fd P__law_bad (sp_rbad K T.C_Recipe) := ok__law_bad T Y
  have G__law_great_things : FnOk P w K mg base CX0 1 T.d__law_great_things.f T.d__law_great_things.fd P__law_great_things (sp_gthings K) := ok__law_great_things T
  have G__law_compared_right : FnOkG P w K mg base CX0 23 T.d__law_compared_right.f T.d__law_compared_right.fd P__law_compared_right (sp_rcmp K T.C_Recipe) := ok__law_compared_right T Y
  refine okG T.d_law.F sc_law (fun vs H Q E h => ?_) (fun cdv A outer s H vs Q E hgd hr h => ?_)
  · obtain ⟨_, _, rfl, _⟩ := h
    rfl
  · obtain ⟨a, sns, rfl, hS, hl63, q⟩ := h
    have hu64 := hr.units
    refine ⟨_, (pss_cons (ps_set (i := 1) sc_law.nd rfl (Or.inr rfl) (pe_call G__law_bag (hr.mono (by omega)) rfl T.d__law_bag.g T.d__law_bag.F.kp T.d__law_bag.b .nil pass0 (pa_cons (pv 0) pa_nil))) (pss_cons (ps_set (i := 2) sc_law.nd rfl (Or.inr rfl) (pe_call G__law_names (hr.mono (by omega)) rfl T.d__law_names.g T.d__law_names.F.kp T.d__law_names.b .nil pass0 (pa_cons (pv 1) (pa_cons pe_int pa_nil)))) (pss_cons (ps_for PassesOwn.never rfl (pi_range1 (by rfl) T.b_range (pa_cons pe_int pa_nil)) (pg_name (i := 3) sc_law.nd rfl (Or.inl rfl)) (pss_cons (ps_asg (pe_tup (pa_cons (pe_call G__law_take (hr.mono (by omega)) rfl T.d__law_take.g T.d__law_take.F.kp T.d__law_take.b .nil pass0 (pa_cons (pv 1) (pa_cons pe_int pa_nil))) (pa_cons (pe_call G__law_take (hr.mono (by omega)) rfl T.d__law_take.g T.d__law_take.F.kp T.d__law_take.b .nil pass0 (pa_cons (pv 1) (pa_cons pe_int pa_nil))) pa_nil))) (pg_tup rfl (pgs_cons (pg_name (i := 4) sc_law.nd rfl (Or.inr rfl)) (pgs_cons (pg_name (i := 5) sc_law.nd rfl (Or.inr rfl)) pgs_nil)))) (pss_cons (ps_setLc (i := 6) (own := [("_law_k", 18)]) (g := gName 18) (by rfl) sc_law.nd rfl rfl (sw_true rfl rfl rfl (by decide +kernel)) (pi_range1 (by rfl) T.b_range (pa_cons (pv 5) pa_nil)) (blkOk_by (own := [("_law_k", 18)]) (N := N_law) (sc := defScope s_law) (by decide +kernel)) (fun _ _ _ _ _ => pg_name (i := 18) sc_law.nd rfl (Or.inl rfl)) (fun _ _ _ _ _ => pts_nil) (fun _ _ _ _ _ => (pe_call G__law_term (hr.mono (by omega)) rfl T.d__law_term.g T.d__law_term.F.kp T.d__law_term.b .nil pass0 (pa_cons (pv 1) (pa_cons (pv 2) (pa_cons (pv 4) (pa_cons (pe_call G__law_take (hr.mono (by omega)) rfl T.d__law_take.g T.d__law_take.F.kp T.d__law_take.b .nil pass0 (pa_cons (pv 1) (pa_cons pe_int pa_nil))) pa_nil))))))) (pss_cons (ps_setLc (i := 7) (own := [("_law_k", 18)]) (g := gName 18) (by rfl) sc_law.nd rfl rfl (sw_true rfl rfl rfl (by decide +kernel)) (pi_range1 (by rfl) T.b_range (pa_cons (pe_call G__law_take (hr.mono (by omega)) rfl T.d__law_take.g T.d__law_take.F.kp T.d__law_take.b .nil pass0 (pa_cons (pv 1) (pa_cons pe_int pa_nil))) pa_nil)) (blkOk_by (own := [("_law_k", 18)]) (N := N_law) (sc := defScope s_law) (by decide +kernel)) (fun _ _ _ _ _ => pg_name (i := 18) sc_law.nd rfl (Or.inl rfl)) (fun _ _ _ _ _ => pts_nil) (fun _ _ _ _ _ => (pe_call G__law_term (hr.mono (by omega)) rfl T.d__law_term.g T.d__law_term.F.kp T.d__law_term.b .nil pass0 (pa_cons (pv 1) (pa_cons (pv 2) (pa_cons (pv 5) (pa_cons (pe_call G__law_take (hr.mono (by omega)) rfl T.d__law_take.g T.d__law_take.F.kp T.d__law_take.b .nil pass0 (pa_cons (pv 1) (pa_cons pe_int pa_nil))) pa_nil))))))) (pss_cons (ps_asg (pe_tup (pa_cons (pe_ix (r := rIx K) ix_seq (pe_lst (pa_cons (pv 6) (pa_cons (pe_callTy (r := rTupOf K) call_tupG (by rfl) T.b_tuple bt_tuple (pa_cons (pv 6) pa_nil)) pa_nil))) (pe_call G__law_take (hr.mono (by omega)) rfl T.d__law_take.g T.d__law_take.F.kp T.d__law_take.b .nil pass0 (pa_cons (pv 1) (pa_cons pe_int pa_nil))) (fun _ _ => rfl)) (pa_cons (pe_lc (own := [("_law_k", 18)]) (g := gName 18) (by rfl) sc_law.nd (pi_range1 (by rfl) T.b_range (pa_cons (pv 4) pa_nil)) (blkOk_by (own := [("_law_k", 18)]) (N := N_law) (sc := defScope s_law) (by decide +kernel)) (fun _ _ _ _ _ => pg_name (i := 18) sc_law.nd rfl (Or.inl rfl)) (fun _ _ _ _ _ => pts_nil) (fun _ _ _ _ _ => (pe_call G__law_term (hr.mono (by omega)) rfl T.d__law_term.g T.d__law_term.F.kp T.d__law_term.b .nil pass0 (pa_cons (pv 1) (pa_cons (pv 2) (pa_cons pe_int (pa_cons pe_int pa_nil))))))) pa_nil))) (pg_tup rfl (pgs_cons (pg_name (i := 8) sc_law.nd rfl (Or.inl rfl)) (pgs_cons (pg_name (i := 9) sc_law.nd rfl (Or.inr rfl)) pgs_nil)))) (pss_cons (ps_asg (pe_tup (pa_cons (pe_makeS ⟨T.mk_Recipe, T.d_Recipe___init__.M.at_, T.d_Recipe___init__.M.fn, T.k_Recipe⟩ G_Recipe___init__ (hr.mono (by omega)) rfl T.g_Recipe T.d_Recipe___init__.b (fun σ => passAt takes0 σ) (pa_cons (pv 4) (pa_cons (pv 8) pa_nil))) (pa_cons (pe_makeS ⟨T.mk_Recipe, T.d_Recipe___init__.M.at_, T.d_Recipe___init__.M.fn, T.k_Recipe⟩ G_Recipe___init__ (hr.mono (by omega)) rfl T.g_Recipe T.d_Recipe___init__.b (fun σ => passAt takes0 σ) (pa_cons (pv 5) (pa_cons (pv 7) pa_nil))) (pa_cons (pe_callTy (r := rTupOf K) call_tupG (by rfl) T.b_tuple bt_tuple (pa_cons (pv 6) pa_nil)) pa_nil)))) (pg_tup rfl (pgs_cons (pg_name (i := 10) sc_law.nd rfl (Or.inl rfl)) (pgs_cons (pg_name (i := 11) sc_law.nd rfl (Or.inl rfl)) (pgs_cons (pg_name (i := 12) sc_law.nd rfl (Or.inr rfl)) pgs_nil))))) (pss_cons (ps_set (i := 13) sc_law.nd rfl (Or.inl rfl) (pe_call G__law_bad (hr.mono (by omega)) rfl T.d__law_bad.g T.d__law_bad.F.kp T.d__law_bad.b .nil pass0 (pa_cons (pv 1) (pa_cons (pv 4) (pa_cons (pv 6) pa_nil))))) (pss_cons (ps_if (pt_cmpR (r := rNeG K) (op_neG hu64) (pe_call G__law_made (hr.mono (by omega)) rfl T.d__law_made.g T.d__law_made.F.kp T.d__law_made.b .nil pass0 (pa_cons (pe_ix (r := rIx K) ix_seq (pv 13) pe_int (fun _ _ => rfl)) (pa_cons (pe_ix (r := rIx K) ix_seq (pv 13) pe_int (fun _ _ => rfl)) pa_nil))) (pe_tup (pa_cons pe_str (pa_cons (pe_ix (r := rIx K) ix_seq (pv 13) pe_int (fun _ _ => rfl)) pa_nil))) (nomark _)) (pss_one (ps_ret pe_bl)) pss_nil) (pss_cons (ps_expr (pe_bm PySem.F.plainAttrs_list PySem.F.slot_list_append PySem.F.type_list_append mt_append (pv 6) (pa_cons pe_int pa_nil))) (pss_cons (ps_for PassesOwn.never rfl (pi_range1 (by rfl) T.b_range (pa_cons pe_int pa_nil)) (pg_name (i := 14) sc_law.nd rfl (Or.inl rfl)) (pss_cons (ps_if (PW.pt (pw_or (pt_not (pt_val (pe_callG G__law_tells hgd (hr.mono (by omega)) rfl T.d__law_tells.g T.d__law_tells.F.kp T.d__law_tells.b .nil pass0 (pa_cons (pv 10) (pa_cons (pv 4) (pa_cons (pv 12) pa_nil)))))) (pw_or1 (pt_not (pt_val (pe_callG G__law_tells hgd (hr.mono (by omega)) rfl T.d__law_tells.g T.d__law_tells.F.kp T.d__law_tells.b .nil pass0 (pa_cons (pv 11) (pa_cons (pv 5) (pa_cons (pe_callTy (r := rTupOf K) call_tupG (by rfl) T.b_tuple bt_tuple (pa_cons (pv 7) pa_nil)) pa_nil))))))))) (pss_one (ps_ret pe_bl)) pss_nil) (pss_cons (ps_set (i := 15) sc_law.nd rfl (Or.inl rfl) (pe_callTy (r := rTupOf K) call_tupG (by rfl) T.b_tuple bt_tuple (pa_cons (pe_lc (own := [("_law_term_here", 19)]) (g := gName 19) (by rfl) sc_law.nd (pi_seq (pv 12)) (blkOk_by (own := [("_law_term_here", 19)]) (N := N_law) (sc := defScope s_law) (by decide +kernel)) (fun _ _ _ _ _ => pg_name (i := 19) sc_law.nd rfl (Or.inl rfl)) (fun _ _ _ _ _ => pts_nil) (fun _ _ _ _ _ => (pe_call G__law_put (hr.mono (by omega)) rfl T.d__law_put.g T.d__law_put.F.kp T.d__law_put.b .nil pass0 (pa_cons (pv 19) (pa_cons (pv 9) pa_nil))))) pa_nil))) (pss_cons (ps_if (pt_not (pt_val (pe_callG G__law_alike hgd (hr.mono (by omega)) rfl T.d__law_alike.g T.d__law_alike.F.kp T.d__law_alike.b .nil pass0 (pa_cons (pe_callI T.d_Recipe___call__.M.at_ T.d_Recipe___call__.M.fn (fnIn_of T.d_Recipe___call__.F) (fnR_of G_Recipe___call__ T.d_Recipe___call__.b) (hr.mono (by omega)) pass0 (pv 10) (pa_cons (pe_callTy (r := rTupOf K) call_tupG (by rfl) T.b_tuple bt_tuple (pa_cons (pv 9) pa_nil)) pa_nil)) (pa_cons (pv 15) pa_nil))))) (pss_one (ps_ret pe_bl)) pss_nil) (pss_cons (ps_set (i := 16) sc_law.nd rfl (Or.inl rfl) (pe_call G__law_times (hr.mono (by omega)) rfl T.d__law_times.g T.d__law_times.F.kp T.d__law_times.b .nil pass0 (pa_cons (pv 10) (pa_cons (pv 11) pa_nil)))) (pss_cons (ps_set (i := 17) sc_law.nd rfl (Or.inl rfl) (pe_callTy (r := rTupOf K) call_tupG (by rfl) T.b_tuple bt_tuple (pa_cons (pe_lc (own := [("_law_term_here", 19)]) (g := gName 19) (by rfl) sc_law.nd (pi_seq (pv 7)) (blkOk_by (own := [("_law_term_here", 19)]) (N := N_law) (sc := defScope s_law) (by decide +kernel)) (fun _ _ _ _ _ => pg_name (i := 19) sc_law.nd rfl (Or.inl rfl)) (fun _ _ _ _ _ => pts_nil) (fun _ _ _ _ _ => (pe_call G__law_put (hr.mono (by omega)) rfl T.d__law_put.g T.d__law_put.F.kp T.d__law_put.b .nil pass0 (pa_cons (pv 19) (pa_cons (pv 12) pa_nil))))) pa_nil))) (pss_cons (ps_if (PW.pt (pw_or (pt_cmpR (r := rNeG K) (op_neG hu64) (pe_ix (r := rIx K) ix_seq (pv 16) pe_int (fun _ _ => rfl)) pe_str (nomark _)) (pw_or1 (pt_not (pt_val (pe_callG G__law_tells hgd (hr.mono (by omega)) rfl T.d__law_tells.g T.d__law_tells.F.kp T.d__law_tells.b .nil pass0 (pa_cons (pe_ix (r := rIx K) ix_seq (pv 16) pe_int (fun _ _ => rfl)) (pa_cons (pv 4) (pa_cons (pv 17) pa_nil))))))))) (pss_one (ps_ret pe_bl)) pss_nil) (pss_one (ps_if (pt_not (pt_val (pe_callG G__law_alike hgd (hr.mono (by omega)) rfl T.d__law_alike.g T.d__law_alike.F.kp T.d__law_alike.b .nil pass0 (pa_cons (pe_callI T.d_Recipe___call__.M.at_ T.d_Recipe___call__.M.fn (fnIn_of T.d_Recipe___call__.F) (fnR_of G_Recipe___call__ T.d_Recipe___call__.b) (hr.mono (by omega)) pass0 (pe_ix (r := rIx K) ix_seq (pv 16) pe_int (fun _ _ => rfl)) (pa_cons (pe_callTy (r := rTupOf K) call_tupG (by rfl) T.b_tuple bt_tuple (pa_cons (pv 9) pa_nil)) pa_nil)) (pa_cons (pe_callI T.d_Recipe___call__.M.at_ T.d_Recipe___call__.M.fn (fnIn_of T.d_Recipe___call__.F) (fnR_of G_Recipe___call__ T.d_Recipe___call__.b) (hr.mono (by omega)) pass0 (pv 11) (pa_cons (pe_callI T.d_Recipe___call__.M.at_ T.d_Recipe___call__.M.fn (fnIn_of T.d_Recipe___call__.F) (fnR_of G_Recipe___call__ T.d_Recipe___call__.b) (hr.mono (by omega)) pass0 (pv 10) (pa_cons (pe_callTy (r := rTupOf K) call_tupG (by rfl) T.b_tuple bt_tuple (pa_cons (pv 9) pa_nil)) pa_nil)) pa_nil)) pa_nil))))) (pss_one (ps_ret pe_bl)) pss_nil))))))))) (pss_one (ps_if (pt_not (pt_val (pe_callG G__law_compared_right hgd (hr.mono (by omega)) rfl T.d__law_compared_right.g T.d__law_compared_right.F.kp T.d__law_compared_right.b .nil pass0 (pa_cons (pv 10) (pa_cons (pv 4) (pa_cons (pv 12) pa_nil)))))) (pss_one (ps_ret pe_bl)) pss_nil)))))))))))) (pss_one (ps_ret (pe_cmpR (r := rEqG K) (op_eqG hu64) (pe_call G__law_made (hr.mono (by omega)) rfl T.d__law_made.g T.d__law_made.F.kp T.d__law_made.b .nil pass0 (pa_cons pe_int (pa_cons (pe_lst (pa_cons pe_int (pa_cons (pe_ix (r := rIx K) ix_seq (pe_call0 G__law_great_things (hr.mono (by omega)) rfl T.d__law_great_things.g T.d__law_great_things.F.kp T.d__law_great_things.b .nil pass0) (pe_call G__law_take (hr.mono (by omega)) rfl T.d__law_take.g T.d__law_take.F.kp T.d__law_take.b .nil pass0 (pa_cons (pv 1) (pa_cons pe_int pa_nil))) (fun _ _ => rfl)) pa_nil))) pa_nil))) (pe_tup (pa_cons pe_str (pa_cons pe_int pa_nil))) (nomark _))))))), ?_⟩
    refine ⟨.ref a, rfl, a, sns, rfl, hS, hl63, fun H1 b m1 nb hB1 => ?_⟩
    refine ⟨.ref b, rfl, b, 3, rfl, hB1, by decide, by decide, fun nm xs H2 hxl hxN nn en d2 => ?_⟩
    have hnb : nm ≠ b := hB1.fneq nn
    have hx0 : xs ≠ [] := by rintro rfl; simp at hxl
    have hB2 := d2.bag hB1
    refine ⟨5, rfl, by decide, by decide, ?_⟩
    refine for_range (lo := 0) (n := (5 : Int).toNat) (fun i σ H3 => ∃ (y3 y4 y5 y6 y7 y8 y9 y10 y11 y12 y13 y14 y15 y16 y17 : Option V), σ = [some (.ref a), some (.ref b), some (.ref nm), y3, y4, y5, y6, y7, y8, y9, y10, y11, y12, y13, y14, y15, y16, y17, none, none] ∧ Bag H3 b ∧ H3 nm = some (.lst (xs.map V.str)))
      ⟨_, _, _, _, _, _, _, _, _, _, _, _, _, _, _, rfl, hB2, en⟩ (fun i σ H3 hi h3 => ?_) (fun σ H3 h3 => ?_)
    · obtain ⟨y3, y4, y5, y6, y7, y8, y9, y10, y11, y12, y13, y14, y15, y16, y17, rfl, hB3, en3⟩ := h3
      refine ⟨.ref b, rfl, b, 7, rfl, hB3, by decide, by decide, fun many H4 m0 m1 d4 => ⟨.ref b, rfl, b, 6, rfl, d4.bag hB3, by decide, by decide, fun wide H5 w0 w1 d5 => ?_⟩⟩
      have d35 := d4.trans d5
      have hB5 := d35.bag hB3
      have en5 := d35.get hnb en3
      refine ⟨(by decide : 2 ≤ sizeLine), fun p6 n6 => ?_⟩
      have k6 := Mv.new (S := []) (o := (.tup [.int many, .int wide])) n6
      have e6 : SqT K (upd H5 p6 (.tup [.int many, .int wide])) p6 [.int many, .int wide] := .inl (.inl upd_same)
      generalize upd H5 p6 (.tup [.int many, .int wide]) = H6 at k6 e6 ⊢
      have m6 := k6
      have hB6 := hB5.mv m6
      have en6 := m6.same _ _ en5
      have d36 := d35.trans (.of m6)
      refine ⟨p6, _, rfl, e6, rfl, _, _, rfl, _, _, rfl, rfl, ?_⟩
      -- terms
      refine ⟨.int wide, rfl, wide, rfl, by omega, by omega, fun tl ntl => ?_⟩
      have htb : tl ≠ b := hB6.fneq ntl
      refine lc_range (lo := 0) (n := wide.toNat) (fun i H7 => DrT K b tl many 3 H6 i H7) (.nil ntl) (fun i H7 hi7 h7 => ?_) (fun H7 h7 => ?_)
      · have d67 := h7.choose_spec.choose_spec.2.2.2.2.2
        have hB7 := d67.bag hB6
        refine ⟨rfl, .ref b, rfl, .ref nm, rfl, .int many, rfl, .ref b, rfl, b, 4, rfl, hB7, by decide, by decide, fun dp H8 dp0 dp1 d8 => ?_⟩
        refine ⟨b, nm, xs, many, dp, rfl, d8.bag hB7, (d67.trans d8).get hnb en6, hnb, hx0, by omega, hxN, m0, by omega, by omega, fun v t H9 ho hx1 _ him d9 => ?_⟩
        exact h7.snoc (by omega) htb ntl (d8.trans d9) ho (by omega) him
      obtain ⟨tv, ts, et7, it7, lt7, ot7, dt7, d67⟩ := h7
      have hB7 := d67.bag hB6
      have en7 := d67.get hnb en6
      have d37 := d36.trans d67
      -- more
      refine ⟨.ref b, rfl, b, 5, rfl, hB7, by decide, by decide, fun mn H8 mn0 mn1 d8 => ⟨mn, rfl, by omega, by omega, fun ml nml => ?_⟩⟩
      have hB8 := d8.bag hB7
      have en8 := d8.get hnb en7
      have et8 := d8.get htb et7
      have it8 := it7.mv d8.mv
      have hmb : ml ≠ b := hB8.fneq nml
      refine lc_range (lo := 0) (n := mn.toNat) (fun i H9 => DrT K b ml wide 2 H8 i H9) (.nil nml) (fun i H9 hi9 h9 => ?_) (fun H9 h9 => ?_)
      · have d89 := h9.choose_spec.choose_spec.2.2.2.2.2
        have hB9 := d89.bag hB8
        refine ⟨rfl, .ref b, rfl, .ref nm, rfl, .int wide, rfl, .ref b, rfl, b, 3, rfl, hB9, by decide, by decide, fun dp H10 dp0 dp1 d10 => ?_⟩
        refine ⟨b, nm, xs, wide, dp, rfl, d10.bag hB9, (d89.trans d10).get hnb en8, hnb, hx0, by omega, hxN, w0, by omega, by omega, fun v t H11 ho hx1 _ him d11 => ?_⟩
        exact h9.snoc (by omega) hmb nml (d10.trans d11) ho (by omega) him
      obtain ⟨mv, us, em9, im9, lm9, om9, dm9, d89⟩ := h9
      have hB9 := d89.bag hB8
      have en9 := d89.get hnb en8
      have et9 := d89.get htb et8
      have it9 := it8.mv d89.mv
      have d39 := d37.trans (d8.trans d89)
      -- handed, values
      refine ⟨.ref tl, rfl, .ref tl, rfl, tl, tv, rfl, .inl ⟨.inl (.inl et9), fun p10 n10 => ?_⟩⟩
      have k10 := Mv.new (S := []) (o := (.tup tv)) n10
      have e10 : SqT K (upd H9 p10 (.tup tv)) p10 tv := .inl (.inl upd_same)
      generalize upd H9 p10 (.tup tv) = H10 at k10 e10 ⊢
      have m10 := k10
      refine ⟨(by decide : 2 ≤ sizeLine), fun p11 n11 => ?_⟩
      have hp11 : p11 ≠ b := (hB9.mv m10).fneq n11
      have k11 := Mv.new (S := []) (o := (.lst [.ref tl, .ref p10])) n11
      have e11 : upd H10 p11 (.lst [.ref tl, .ref p10]) p11 = some (.lst [.ref tl, .ref p10]) := upd_same
      generalize upd H10 p11 (.lst [.ref tl, .ref p10]) = H11 at k11 e11 ⊢
      have m11 := m10.trans k11
      refine ⟨.ref b, rfl, b, 2, rfl, hB9.mv m11, by decide, by decide, fun o H12 o0 o1 d12 => ?_⟩
      have d912 := (Dr.of (b := b) m11).trans d12
      have hB12 := d912.bag hB9
      have et12 := d912.get htb et9
      have em12 := d912.get hmb em9
      have it12 := it9.mv d912.mv
      have im12 := im9.mv d912.mv
      have en12 := d912.get hnb en9
      obtain ⟨ha, hx, hha⟩ : ∃ ha : Addr, [V.ref tl, V.ref p10][o.toNat]? = some (.ref ha) ∧ ((ha ≠ b ∧ H12 ha = some (.lst tv)) ∨ SqT K H12 ha tv) := by
        have hc : o = 0 ∨ o = 1 := by omega
        rcases hc with rfl | rfl
        · exact ⟨tl, rfl, .inl ⟨htb, et12⟩⟩
        · exact ⟨p10, rfl, .inr (d12.mv.sqT (k11.sqT e10))⟩
      refine rd_ixL (.inl (.inl (d12.get hp11 e11))) o0 hx ?_
      refine ⟨.int many, rfl, many, rfl, by omega, by omega, fun vl nvl => ?_⟩
      have hvb : vl ≠ b := hB12.fneq nvl
      have hvt : vl ≠ tl := (ne_of_none et12 nvl).symm
      refine lc_range (lo := 0) (n := many.toNat) (fun i H13 => DrT K b vl 3 2 H12 i H13) (.nil nvl) (fun i H13 hi13 h13 => ?_) (fun H13 h13 => ?_)
      · have d1213 := h13.choose_spec.choose_spec.2.2.2.2.2
        have hB13 := d1213.bag hB12
        refine ⟨rfl, .ref b, rfl, .ref nm, rfl, b, nm, xs, 3, 2, rfl, hB13, d1213.get hnb en12, hnb, hx0, by omega, hxN, by decide, by decide, by decide, fun v t H14 ho hx1 hx2 him d14 => ?_⟩
        exact h13.snoc (by omega) hvb nvl d14 ho (by have := hx2 (by decide); simpa using this) him
      obtain ⟨vv_, ws, ev13, iv13, lv13, ov13, dv13, d1213⟩ := h13
      have hB13 := d1213.bag hB12
      have et13 := d1213.get htb et12
      have em13 := d1213.get hmb em12
      have it13 := it12.mv d1213.mv
      have im13 := im12.mv d1213.mv
      have d313 := d39.trans (d912.trans d1213)
      have hha13 : H13 ha = some (.lst tv) ∨ SqT K H13 ha tv := hha.imp (fun h => d1213.get h.1 h.2) (fun h => d1213.mv.sqT h)
      refine ⟨(by decide : 2 ≤ sizeLine), fun p14 n14 => ?_⟩
      have k14 := Mv.new (S := []) (o := (.tup [.ref ha, .ref vl])) n14
      have e14 : SqT K (upd H13 p14 (.tup [.ref ha, .ref vl])) p14 [.ref ha, .ref vl] := .inl (.inl upd_same)
      generalize upd H13 p14 (.tup [.ref ha, .ref vl]) = H14 at k14 e14 ⊢
      have m14 := k14
      refine ⟨p14, _, rfl, e14, rfl, _, _, rfl, _, _, rfl, rfl, ?_⟩
      have hFt : RcF many ts := rcf_few m0 (by omega) ot7 (by omega) (by omega)
      have hFm : RcF wide us := rcf_few w0 (by omega) om9 (by omega) (by omega)
      have c90 : ∀ {ts : List Tm}, (∀ t ∈ ts, t.cst + t.lv ≤ 80000) → ∀ t ∈ ts, t.cst + t.lv ≤ 90000 := fun h t ht => Nat.le_trans (h t ht) (by decide)
      refine ⟨.int many, rfl, .ref ha, rfl, ?_⟩
      refine rd_rec (hha13.imp (m14.same _ _) m14.sqT) (it13.mv m14) m0 hFt.ok (by omega) (c90 hFt.cst) fun x H15 m15 hR15 => ?_
      refine ⟨.int wide, rfl, .ref ml, rfl, ?_⟩
      have m1415 := m14.trans m15
      refine rd_rec (.inl (m1415.same _ _ em13)) (im13.mv m1415) w0 hFm.ok (by omega) (c90 hFm.cst) fun y H16 m16 hS16 => ?_
      have m1316 := m1415.trans m16
      refine ⟨.ref tl, rfl, tl, tv, rfl, .inl ⟨.inl (.inl (m1316.same _ _ et13)), fun p17 n17 => ?_⟩⟩
      have k17 := Mv.new (S := []) (o := (.tup tv)) n17
      have e17 : SqT K (upd H16 p17 (.tup tv)) p17 tv := .inl (.inl upd_same)
      generalize upd H16 p17 (.tup tv) = H17 at k17 e17 ⊢
      have m17 := m1316.trans k17
      refine ⟨(by decide : 3 ≤ sizeLine), fun p18 n18 => ?_⟩
      have k18 := Mv.new (S := []) (o := (.tup [.ref x, .ref y, .ref p17])) n18
      have e18 : SqT K (upd H17 p18 (.tup [.ref x, .ref y, .ref p17])) p18 [.ref x, .ref y, .ref p17] := .inl (.inl upd_same)
      generalize upd H17 p18 (.tup [.ref x, .ref y, .ref p17]) = H18 at k18 e18 ⊢
      have m18 := m17.trans k18
      refine ⟨p18, _, rfl, e18, rfl, _, _, rfl, _, _, rfl, _, _, rfl, rfl, ?_⟩
      have hR18 := (hR15.mv m16).mv (k17.trans k18)
      have hS18 := hS16.mv (k17.trans k18)
      have eK18 := k18.sqT e17
      have hB18 := hB13.mv m18
      have et18 := m18.same _ _ et13
      have em18 := m18.same _ _ em13
      have ev18 := m18.same _ _ ev13
      have it18 := it13.mv m18
      have im18 := im13.mv m18
      have iv18 := iv13.mv m18
      have d318 := d313.trans (.of m18)
      -- what no recipe is made of
      refine ⟨.ref b, rfl, .int many, rfl, .ref tl, rfl, b, tl, many, tv, ts, rfl, hB18, m0, by omega, et18, htb, it18, hFt.ok, by omega, hFt.cst, fun z H19 d19 hz => ?_⟩
      obtain ⟨zq, zm, zt, ztm, zrows, zk, rfl, ez, hzm, hzt, hzb, hzw⟩ := hz
      have hB19 := d19.bag hB18
      refine ⟨.ref zq, rfl, rd_ixT ez (by decide) (v := zm) rfl ⟨.ref zq, rfl, rd_ixT ez (by decide) (v := zt) rfl ⟨zm, zt, b, ztm, zrows, zk, rfl, hzm, hzt, hzb, hzw, fun v H20 m20 hv => ⟨.ref zq, rfl, rd_ixT (m20.sqT ez) (by decide) (v := .int zk) rfl ⟨(by decide : 2 ≤ sizeLine), fun p21 n21 => ?_⟩⟩⟩⟩⟩
      have k21 := Mv.new (S := []) (o := (.tup [.str "wrong", .int zk])) n21
      have e21 : SqT K (upd H20 p21 (.tup [.str "wrong", .int zk])) p21 [.str "wrong", .int zk] := .inl (.inl upd_same)
      generalize upd H20 p21 (.tup [.str "wrong", .int zk]) = H21 at k21 e21 ⊢
      have m21 := m20.trans k21
      refine Or.inr ⟨_, _, (hv.mv k21).dp, .tup e21 (.cons (.str _) (.cons (.int _) .nil)), shp_wk zk, shp_wk zk, false, ?_, ?_⟩
      · rw [SeqAt.eqv_refl _ (shaped_lay0 (shp_wk zk))]
        rfl
      -- the list that was handed in grows
      have d1821 := d19.trans (.of m21)
      have et21 := d1821.get htb et18
      refine ⟨.ref tl, rfl, .inl ⟨rfl, _, .inl (.inl et21)⟩, tl, tv, .int 0, rfl, rfl, et21, ?_, ?_⟩
      · rw [it18.length, Tm.ds_map, List.length_map]
        exact small1000 (by omega)
      have hB21 := d1821.bag hB18
      have nt3 : H3 tl = none := d36.free hB3 ntl
      have mS : Mv [tl] H21 (upd H21 tl (.lst (tv ++ [.int 0]))) := Mv.set et21 (by simp)
      have hR22 := (hR18.dr d1821 hB18).put (o := .lst (tv ++ [.int 0])) et21
      have hS22 := (hS18.dr d1821 hB18).put (o := .lst (tv ++ [.int 0])) et21
      have eK22 := mS.sqT (d1821.mv.sqT eK18)
      have ev22 : upd H21 tl (.lst (tv ++ [.int 0])) vl = some (.lst vv_) := by
        rw [upd_ne hvt]
        exact d1821.get hvb ev18
      have hmt : ml ≠ tl := (ne_of_none et8 nml).symm
      have em22 : upd H21 tl (.lst (tv ++ [.int 0])) ml = some (.lst mv) := by
        rw [upd_ne hmt]
        exact d1821.get hmb em18
      have it22 := (it18.mv d1821.mv).mv mS
      have im22 := (im18.mv d1821.mv).mv mS
      have iv22 := (iv18.mv d1821.mv).mv mS
      have d322 : Dr b H3 (upd H21 tl (.lst (tv ++ [.int 0]))) := (d318.trans d1821).wr nt3
      generalize upd H21 tl (.lst (tv ++ [.int 0])) = H22 at hR22 hS22 eK22 ev22 em22 it22 im22 iv22 d322 ⊢
      have hB22 := d322.bag hB3
      have hvl : ws.length = many.toNat := lv13
      have hvL : vv_.length = ws.length := by rw [iv22.length, Tm.ds_map, List.length_map]
      have htL : tv.length = ts.length := by rw [it22.length, Tm.ds_map, List.length_map]
      have hmL : mv.length = us.length := by rw [im22.length, Tm.ds_map, List.length_map]
      have hot : Tm.oks (fun i => 0 ≤ i ∧ i < (ws.length : Int)) ts := Tm.oks_mono (fun i h => ⟨h.1, by have := h.2; omega⟩) ts ot7
      have hou : Tm.oks (fun i => 0 ≤ i ∧ i < (ts.length : Int)) us := Tm.oks_mono (fun i h => ⟨h.1, by have := h.2; omega⟩) us om9
      obtain ⟨oA, dA⟩ := put_all_ok ov13 dv13 hot dt7
      obtain ⟨oB, dB⟩ := put_all_ok ot7 dt7 hou dm9
      have hfit3 : ∀ i, upto 3 i → fit i := fun i => upto_fit (by decide) i
      have hoAl : Tm.oks (fun i => 0 ≤ i ∧ i < ((ts.map (Tm.put (vat ws))).length : Int)) us := by rw [List.length_map]; exact hou
      obtain ⟨oC, dC⟩ := put_all_ok oA dA hoAl dm9
      have hoBw : Tm.oks (fun i => 0 ≤ i ∧ i < (ws.length : Int)) (us.map (Tm.put (vat ts))) := Tm.oks_mono (fun i h => ⟨h.1, by have := h.2; omega⟩) _ oB
      have hFB : RcF many (us.map (Tm.put (vat ts))) := rcf_few m0 (by omega) oB (by omega) (by rw [List.length_map]; omega)
      have hcomp := head_subR (vat ws) hou
      refine ⟨3, rfl, by decide, by decide, ?_⟩
      refine for_range (lo := 0) (n := (3 : Int).toNat) (fun i2 σ H23 => ∃ (y14 y15 y16 y17 : Option V), σ = [some (.ref a), some (.ref b), some (.ref nm), some (.int (0 + i)), some (.int many), some (.int wide), some (.ref tl), some (.ref ml), some (.ref ha), some (.ref vl), some (.ref x), some (.ref y), some (.ref p17), some (.ref zq), y14, y15, y16, y17, none, none] ∧ Mv [] H22 H23)
        ⟨_, _, _, _, rfl, .refl⟩ (fun i2 σ H23 hi2 h23 => ?_) (fun σ H23 h23 => ?_)
      · obtain ⟨y14, y15, y16, y17, rfl, m23⟩ := h23
        have hR23 := hR22.mv m23
        have hS23 := hS22.mv m23
        have eK23 := m23.sqT eK22
        have it23 := it22.mv m23
        have em23 := m23.same _ _ em22
        have im23 := im22.mv m23
        refine ⟨.ref x, rfl, .int many, rfl, .ref p17, rfl, x, p17, many, ts, tv, rfl, hR23, eK23, it23, hFt.m40, hFt.f, fun H24 m24 => ⟨true, rfl, ?_⟩⟩
        refine ⟨.ref y, rfl, .int wide, rfl, .ref ml, rfl, ml, mv, rfl, .inl ⟨.inl (.inl (m24.same _ _ em23)), fun p25 n25 => ?_⟩⟩
        have k25 := Mv.new (S := []) (o := (.tup mv)) n25
        have e25 : SqT K (upd H24 p25 (.tup mv)) p25 mv := .inl (.inl upd_same)
        generalize upd H24 p25 (.tup mv) = H25 at k25 e25 ⊢
        have m25 := m24.trans k25
        refine ⟨y, p25, wide, us, mv, rfl, hS23.mv m25, e25, im23.mv m25, hFm.m40, hFm.f, fun H26 m26 => ⟨true, rfl, ?_⟩⟩
        have m2326 := m25.trans m26
        -- called
        have ev26 := (m23.trans m2326).same _ _ ev22
        have iv26 := iv22.mv (m23.trans m2326)
        have mD := m2326
        have hlk : Look1 K H26 (.ref vl) (fun i => 0 ≤ i ∧ i < (ws.length : Int)) (vat ws) := lookL (.inl (.inl (.inl ev26))) iv26
        refine ⟨.ref p17, rfl, p17, rfl, ?_⟩
        refine lc_fm (K := K) (as := ts) (enc := Tm.d) (fun t => some (t.put (vat ws)).d) (.inr (mD.sqT eK23)) (by rw [← Tm.ds_map]; exact it23.mv mD) (by omega) (fun z e H27 Q' R' hm him m27 k1 _ => ?_) (fun D zs H27 nD eD iD m27 => ?_)
        · have hoe := Tm.oks_iff.mp hot e hm
          have hde := Tm.deps_le.mp dt7 e hm
          exact ⟨rfl, z, rfl, .ref vl, rfl, z, .ref vl, e, _, vat ws, rfl, him, hoe, by omega, hlk.mv m27, fun v' H28 m28 h28 => k1 _ rfl v' H28 m28 h28⟩
        rw [fm_some] at iD
        refine ⟨D, zs, rfl, .inl ⟨.inl (.inl eD), fun p28 n28 => ?_⟩⟩
        have k28 := Mv.new (S := []) (o := (.tup zs)) n28
        have e28 : SqT K (upd H27 p28 (.tup zs)) p28 zs := .inl (.inl upd_same)
        generalize upd H27 p28 (.tup zs) = H28 at k28 e28 ⊢
        have m28 := m27.trans k28
        have m2628 := m28
        have m2328 := m2326.trans m2628
        have hFA : Shw (tsD (ts.map (Tm.put (vat ws)))) := shw_few hfit3 oA (by omega) (by rw [List.length_map]; omega)
        refine ⟨.ref x, rfl, x, rfl, .ref vl, rfl, vl, vv_, rfl, .inl ⟨.inl (.inl (m2628.same _ _ ev26)), fun p29 n29 => ?_⟩⟩
        have k29 := Mv.new (S := []) (o := (.tup vv_)) n29
        have e29 : SqT K (upd H28 p29 (.tup vv_)) p29 vv_ := .inl (.inl upd_same)
        generalize upd H28 p29 (.tup vv_) = H29 at k29 e29 ⊢
        have m29 := m2328.trans k29
        have hR29 := hR23.mv m29
        obtain ⟨dx, _, _, hsx29, _⟩ := hR29.tm
        refine ⟨dx, _, hsx29, x, p29, many, ts, ws, vv_, rfl, hR29, .inr e29, iv22.mv (m23.trans m29), hot, by omega, by omega, fun v H30 m30 hv => ?_⟩
        refine ⟨.ref p28, rfl, v, .ref p28, tsD (ts.map (Tm.put (vat ws))), rfl, hv.dp, (Im.tup ((k29.trans m30).sqT e28) (iD.mv (k28.trans (k29.trans m30)))).dp, hFA, true, rfl, ?_⟩
        -- joined
        have m2330 := m29.trans m30
        have hR30 := hR23.mv m2330
        have hS30 := hS23.mv m2330
        have hwt : wide = (ts.length : Int) := by omega
        refine ⟨.ref x, rfl, .ref y, rfl, x, y, many, wide, ts, us, rfl, hR30, hS30, m0, by omega, fun e => absurd hwt e, fun _ => ⟨hFt.ok, hou, by omega, by omega, c90 (cst_few oB (by omega)), fun p31 zf H31 m31 e31 hZ => ?_⟩⟩
        have m2331 := m2330.trans m31
        have hlk2 : Look1 K H31 (.ref p17) (fun i => 0 ≤ i ∧ i < (ts.length : Int)) (vat ts) := lookL (.inr (m2331.sqT eK23)) (it23.mv m2331)
        refine ⟨.ref ml, rfl, ml, rfl, ?_⟩
        refine lc_fm (K := K) (as := us) (enc := Tm.d) (fun t => some (t.put (vat ts)).d) (.inl (.inl (.inl (m2331.same _ _ em23)))) (by rw [← Tm.ds_map]; exact im23.mv m2331) (by omega) (fun z e H32 Q' R' hm him m32 k1 _ => ?_) (fun D2 zs2 H32 nD2 eD2 iD2 m32 => ?_)
        · have hoe := Tm.oks_iff.mp hou e hm
          have hde := Tm.deps_le.mp dm9 e hm
          exact ⟨rfl, z, rfl, .ref p17, rfl, z, .ref p17, e, _, vat ts, rfl, him, hoe, by omega, hlk2.mv m32, fun v' H33 m33 h33 => k1 _ rfl v' H33 m33 h33⟩
        rw [fm_some] at iD2
        refine ⟨D2, zs2, rfl, .inl ⟨.inl (.inl eD2), fun p33 n33 => ?_⟩⟩
        have k33 := Mv.new (S := []) (o := (.tup zs2)) n33
        have e33 : SqT K (upd H32 p33 (.tup zs2)) p33 zs2 := .inl (.inl upd_same)
        generalize upd H32 p33 (.tup zs2) = H33 at k33 e33 ⊢
        have m33 := m32.trans k33
        have m3133 := m33
        have m2333 := m2331.trans m3133
        refine ⟨.ref p31, rfl, rd_ixT (m3133.sqT e31) (by decide) (v := .str "told") rfl (Or.inl ⟨rfl, false, ?_, ?_⟩)⟩
        · rw [decide_eq_true rfl]
          rfl
        refine ⟨.ref p31, rfl, rd_ixT (m3133.sqT e31) (by decide) (v := .ref zf) rfl ⟨.int many, rfl, .ref p33, rfl, zf, p33, many, _, zs2, rfl, hZ.mv m3133, e33, iD2.mv k33, hFt.m40, hFB.f, fun H34 m34 => ⟨true, rfl, ?_⟩⟩⟩
        have m3134 := m3133.trans m34
        have m2334 := m2333.trans m34
        -- called once more
        refine ⟨.ref p31, rfl, rd_ixT (m3134.sqT e31) (by decide) (v := .ref zf) rfl ⟨zf, rfl, .ref vl, rfl, vl, vv_, rfl, .inl ⟨.inl (.inl ((m23.trans m2334).same _ _ ev22)), fun p35 n35 => ?_⟩⟩⟩
        have k35 := Mv.new (S := []) (o := (.tup vv_)) n35
        have e35 : SqT K (upd H34 p35 (.tup vv_)) p35 vv_ := .inl (.inl upd_same)
        generalize upd H34 p35 (.tup vv_) = H35 at k35 e35 ⊢
        have m35 := m2334.trans k35
        have hZ35 := hZ.mv (m3134.trans k35)
        obtain ⟨dz, _, _, hsz35, _⟩ := hZ35.tm
        refine ⟨dz, _, hsz35, zf, p35, many, _, ws, vv_, rfl, hZ35, .inr e35, iv22.mv (m23.trans m35), hoBw, by omega, by rw [List.length_map]; omega, fun v1 H36 m36 hv1 => ?_⟩
        have m2336 := m35.trans m36
        refine ⟨.ref y, rfl, y, rfl, .ref x, rfl, x, rfl, .ref vl, rfl, vl, vv_, rfl, .inl ⟨.inl (.inl ((m23.trans m2336).same _ _ ev22)), fun p37 n37 => ?_⟩⟩
        have k37 := Mv.new (S := []) (o := (.tup vv_)) n37
        have e37 : SqT K (upd H36 p37 (.tup vv_)) p37 vv_ := .inl (.inl upd_same)
        generalize upd H36 p37 (.tup vv_) = H37 at k37 e37 ⊢
        have m37 := m2336.trans k37
        have hR37 := hR23.mv m37
        obtain ⟨dx3, _, _, hsx37, _⟩ := hR37.tm
        refine ⟨dx3, _, hsx37, x, p37, many, ts, ws, vv_, rfl, hR37, .inr e37, iv22.mv (m23.trans m37), hot, by omega, by omega, fun v2 H38 m38 hv2 => ?_⟩
        obtain ⟨c2, zs4, rfl, hc2, hzs4⟩ := hv2.tupI
        have m2338 := m37.trans m38
        have hS38 := hS23.mv m2338
        obtain ⟨dy, _, _, hsy38, _⟩ := hS38.tm
        refine ⟨dy, _, hsy38, y, c2, wide, us, _, zs4, rfl, hS38, .inr hc2, hzs4, hoAl, by omega, by omega, fun v3 H39 m39 hv3 => ?_⟩
        rw [hcomp] at hv3
        have hFC : Shw (tsD ((us.map (Tm.put (vat ts))).map (Tm.put (vat ws)))) := by
          rw [← hcomp]
          exact shw_few hfit3 oC (by omega) (by rw [List.length_map]; omega)
        exact ⟨v1, v3, _, rfl, (hv1.mv (k37.trans (m38.trans m39))).dp, hv3.dp, hFC, true, rfl, _, _, _, _, rfl, m23.trans (m2338.trans m39)⟩
      · obtain ⟨y14, y15, y16, y17, rfl, m23⟩ := h23
        have hsm := few_sm (n := 3) ts ot7 dt7
        rw [show 3 ^ 3 = 27 from rfl] at hsm
        refine ⟨.ref x, rfl, .int many, rfl, .ref p17, rfl, x, p17, many, ts, tv, rfl, hR22.mv m23, m23.sqT eK22, it22.mv m23, by omega, by omega, by omega, hFt, fun H24 m24 => ⟨true, rfl, ?_⟩⟩
        have d324 := d322.trans (.of (m23.trans m24))
        exact ⟨_, _, _, _, _, _, _, _, _, _, _, _, _, _, _, rfl, d324.bag hB3, d324.get hnb en3⟩
    · obtain ⟨y3, y4, y5, y6, y7, y8, y9, y10, y11, y12, y13, y14, y15, y16, y17, rfl, hB3, en3⟩ := h3
      refine ⟨b, rfl, ?_, fun p4 zs us H4 m4 np4 e4 hl4 hI4 hU4 => ?_⟩
      · obtain ⟨zs, e⟩ := hB3.lst
        exact ⟨_, e⟩
      have hp4 : p4 ≠ b := hB3.fneq np4
      refine ⟨.ref b, rfl, b, 4, rfl, hB3.mv m4, by decide, by decide, fun o H5 o0 o1 d5 => ?_⟩
      have hlt : o.toNat < zs.length := by omega
      obtain ⟨u, hu, hI⟩ := (hI4.dr d5).get (List.getElem?_eq_getElem hlt)
      have hB5 := d5.bag (hB3.mv m4)
      obtain ⟨hun, huc⟩ := hU4 u (List.mem_of_getElem? hu)
      refine rd_ixL (.inl (.inl (d5.get hp4 e4))) o0 (List.getElem?_eq_getElem hlt) ⟨(by decide : 2 ≤ sizeLine), fun p6 n6 => ?_⟩
      have hp6 : p6 ≠ b := hB5.fneq n6
      generalize zs[o.toNat] = y at hI n6 ⊢
      have k6 := Mv.new (S := []) (o := (.lst [.int 0, y])) n6
      have e6 : upd H5 p6 (.lst [.int 0, y]) p6 = some (.lst [.int 0, y]) := upd_same
      generalize upd H5 p6 (.lst [.int 0, y]) = H6 at k6 e6 ⊢
      have m6 := k6
      refine ⟨.int 2, .ref p6, b, .int 2, some ([.int 0, y], [.int 0, u]), 1, rfl, rfl, .lst hp6 e6 (.cons rfl (.cons (hI.mv0 k6) .nil)), fun r hr' => ?_, ?_, fun v H7 m7 hv => ⟨(by decide : 2 ≤ sizeLine), fun p8 n8 => ?_⟩⟩
      · cases hr'
        refine ⟨by simp, fun t ht => ?_⟩
        simp only [List.mem_cons, List.not_mem_nil, or_false] at ht
        rcases ht with rfl | rfl
        · simp [Th.cnt]
        · omega
      · show (if (2 : Int) < 0 then some 0 else if _ then none else some 1) = _
        rw [if_neg (by decide), if_neg]
        simp [hun]
      have k8 := Mv.new (S := []) (o := (.tup [.str "wrong", .int 1])) n8
      have e8 : SqT K (upd H7 p8 (.tup [.str "wrong", .int 1])) p8 [.str "wrong", .int 1] := .inl (.inl upd_same)
      generalize upd H7 p8 (.tup [.str "wrong", .int 1]) = H8 at k8 e8 ⊢
      have m8 := m7.trans k8
      refine Or.inr ⟨_, _, (hv.mv k8).dp, .tup e8 (.cons (.str _) (.cons (.int _) .nil)), shp_wk 1, shp_wk 1, ?_⟩
      rw [show PyData.eqv (.tuple [.str "wrong", .int ((1 : Nat) : Int)]) (.tuple [.str "wrong", .int 1]) = true by decide +kernel]
      exact q _
end
end Fm
namespace Fm
open PySem PySem.Spec PyProof.Rows L2 SlX
section
variable {l : PySem.W.OpenLaw} {w : World} {K : PySem.W.Frag} {mg : Str → Option Value} {fa : Addr}
theorem all_mk {h : Heap} (X : K.In h) (G : h.Ns mainGlobals mg) (hfa : mg "law" = some (.ref fa))
    {f0 : Addr} {od0 an0 : Option Addr} {sl0 : Array (Option Value)} {oc0 kV0 dc0 pm0 cd0 ct0 : Value}
    (a0 : PySem.W.nsIn K mainGlobals "is_integer" = some (some (.ref f0))) (l0 : K.lookup f0 = some ⟨oc0, od0, .func (PySem.W.fnOf "is_integer" "is_integer" (defArgs s_is_integer) (defBody s_is_integer) (defScope s_is_integer) .none kV0 dc0 pm0 an0 cd0 ct0), sl0⟩) (c0 : PySem.W.codeIn K cd0 "is_integer" = true) (k0 : PySem.W.keepIn K (.ref f0) = true)
    {f1 : Addr} {od1 an1 : Option Addr} {sl1 : Array (Option Value)} {oc1 kV1 dc1 pm1 cd1 ct1 : Value}
    (a1 : PySem.W.nsIn K mainGlobals "is_name" = some (some (.ref f1))) (l1 : K.lookup f1 = some ⟨oc1, od1, .func (PySem.W.fnOf "is_name" "is_name" (defArgs s_is_name) (defBody s_is_name) (defScope s_is_name) .none kV1 dc1 pm1 an1 cd1 ct1), sl1⟩) (c1 : PySem.W.codeIn K cd1 "is_name" = true) (k1 : PySem.W.keepIn K (.ref f1) = true)
    {f2 : Addr} {od2 an2 : Option Addr} {sl2 : Array (Option Value)} {oc2 kV2 dc2 pm2 cd2 ct2 : Value}
    (a2 : PySem.W.nsIn K mainGlobals "is_term" = some (some (.ref f2))) (l2 : K.lookup f2 = some ⟨oc2, od2, .func (PySem.W.fnOf "is_term" "is_term" (defArgs s_is_term) (defBody s_is_term) (defScope s_is_term) .none kV2 dc2 pm2 an2 cd2 ct2), sl2⟩) (c2 : PySem.W.codeIn K cd2 "is_term" = true) (k2 : PySem.W.keepIn K (.ref f2) = true)
    {f3 : Addr} {od3 an3 : Option Addr} {sl3 : Array (Option Value)} {oc3 kV3 dc3 pm3 cd3 ct3 : Value}
    (a3 : PySem.W.nsIn K mainGlobals "is_term_over" = some (some (.ref f3))) (l3 : K.lookup f3 = some ⟨oc3, od3, .func (PySem.W.fnOf "is_term_over" "is_term_over" (defArgs s_is_term_over) (defBody s_is_term_over) (defScope s_is_term_over) .none kV3 dc3 pm3 an3 cd3 ct3), sl3⟩) (c3 : PySem.W.codeIn K cd3 "is_term_over" = true) (k3 : PySem.W.keepIn K (.ref f3) = true)
    {f4 : Addr} {od4 an4 : Option Addr} {sl4 : Array (Option Value)} {oc4 kV4 dc4 pm4 cd4 ct4 : Value}
    (a4 : PySem.W.nsIn K mainGlobals "put" = some (some (.ref f4))) (l4 : K.lookup f4 = some ⟨oc4, od4, .func (PySem.W.fnOf "put" "put" (defArgs s_put) (defBody s_put) (defScope s_put) .none kV4 dc4 pm4 an4 cd4 ct4), sl4⟩) (c4 : PySem.W.codeIn K cd4 "put" = true) (k4 : PySem.W.keepIn K (.ref f4) = true)
    {f5 : Addr} {od5 an5 : Option Addr} {sl5 : Array (Option Value)} {oc5 kV5 dc5 pm5 cd5 ct5 : Value}
    (a5 : PySem.W.nsIn K mainGlobals "put_all" = some (some (.ref f5))) (l5 : K.lookup f5 = some ⟨oc5, od5, .func (PySem.W.fnOf "put_all" "put_all" (defArgs s_put_all) (defBody s_put_all) (defScope s_put_all) .none kV5 dc5 pm5 an5 cd5 ct5), sl5⟩) (c5 : PySem.W.codeIn K cd5 "put_all" = true) (k5 : PySem.W.keepIn K (.ref f5) = true)
    {f6 : Addr} {od6 an6 : Option Addr} {sl6 : Array (Option Value)} {oc6 kV6 dc6 pm6 cd6 ct6 : Value}
    (a6 : PySem.W.nsIn K mainGlobals "_law_bag" = some (some (.ref f6))) (l6 : K.lookup f6 = some ⟨oc6, od6, .func (PySem.W.fnOf "_law_bag" "_law_bag" (defArgs s__law_bag) (defBody s__law_bag) (defScope s__law_bag) .none kV6 dc6 pm6 an6 cd6 ct6), sl6⟩) (c6 : PySem.W.codeIn K cd6 "_law_bag" = true) (k6 : PySem.W.keepIn K (.ref f6) = true)
    {f7 : Addr} {od7 an7 : Option Addr} {sl7 : Array (Option Value)} {oc7 kV7 dc7 pm7 cd7 ct7 : Value}
    (a7 : PySem.W.nsIn K mainGlobals "_law_take" = some (some (.ref f7))) (l7 : K.lookup f7 = some ⟨oc7, od7, .func (PySem.W.fnOf "_law_take" "_law_take" (defArgs s__law_take) (defBody s__law_take) (defScope s__law_take) .none kV7 dc7 pm7 an7 cd7 ct7), sl7⟩) (c7 : PySem.W.codeIn K cd7 "_law_take" = true) (k7 : PySem.W.keepIn K (.ref f7) = true)
    {f8 : Addr} {od8 an8 : Option Addr} {sl8 : Array (Option Value)} {oc8 kV8 dc8 pm8 cd8 ct8 : Value}
    (a8 : PySem.W.nsIn K mainGlobals "_law_alike" = some (some (.ref f8))) (l8 : K.lookup f8 = some ⟨oc8, od8, .func (PySem.W.fnOf "_law_alike" "_law_alike" (defArgs s__law_alike) (defBody s__law_alike) (defScope s__law_alike) .none kV8 dc8 pm8 an8 cd8 ct8), sl8⟩) (c8 : PySem.W.codeIn K cd8 "_law_alike" = true) (k8 : PySem.W.keepIn K (.ref f8) = true)
    {f9 : Addr} {od9 an9 : Option Addr} {sl9 : Array (Option Value)} {oc9 kV9 dc9 pm9 cd9 ct9 : Value}
    (a9 : PySem.W.nsIn K mainGlobals "_law_names" = some (some (.ref f9))) (l9 : K.lookup f9 = some ⟨oc9, od9, .func (PySem.W.fnOf "_law_names" "_law_names" (defArgs s__law_names) (defBody s__law_names) (defScope s__law_names) .none kV9 dc9 pm9 an9 cd9 ct9), sl9⟩) (c9 : PySem.W.codeIn K cd9 "_law_names" = true) (k9 : PySem.W.keepIn K (.ref f9) = true)
    {f10 : Addr} {od10 an10 : Option Addr} {sl10 : Array (Option Value)} {oc10 kV10 dc10 pm10 cd10 ct10 : Value}
    (a10 : PySem.W.nsIn K mainGlobals "_law_term" = some (some (.ref f10))) (l10 : K.lookup f10 = some ⟨oc10, od10, .func (PySem.W.fnOf "_law_term" "_law_term" (defArgs s__law_term) (defBody s__law_term) (defScope s__law_term) .none kV10 dc10 pm10 an10 cd10 ct10), sl10⟩) (c10 : PySem.W.codeIn K cd10 "_law_term" = true) (k10 : PySem.W.keepIn K (.ref f10) = true)
    {f11 : Addr} {od11 an11 : Option Addr} {sl11 : Array (Option Value)} {oc11 kV11 dc11 pm11 cd11 ct11 : Value}
    (a11 : PySem.W.nsIn K mainGlobals "_law_put" = some (some (.ref f11))) (l11 : K.lookup f11 = some ⟨oc11, od11, .func (PySem.W.fnOf "_law_put" "_law_put" (defArgs s__law_put) (defBody s__law_put) (defScope s__law_put) .none kV11 dc11 pm11 an11 cd11 ct11), sl11⟩) (c11 : PySem.W.codeIn K cd11 "_law_put" = true) (k11 : PySem.W.keepIn K (.ref f11) = true)
    {f12 : Addr} {od12 an12 : Option Addr} {sl12 : Array (Option Value)} {oc12 kV12 dc12 pm12 cd12 ct12 : Value}
    (a12 : PySem.W.nsIn K mainGlobals "_law_made" = some (some (.ref f12))) (l12 : K.lookup f12 = some ⟨oc12, od12, .func (PySem.W.fnOf "_law_made" "_law_made" (defArgs s__law_made) (defBody s__law_made) (defScope s__law_made) .none kV12 dc12 pm12 an12 cd12 ct12), sl12⟩) (c12 : PySem.W.codeIn K cd12 "_law_made" = true) (k12 : PySem.W.keepIn K (.ref f12) = true)
    {f13 : Addr} {od13 an13 : Option Addr} {sl13 : Array (Option Value)} {oc13 kV13 dc13 pm13 cd13 ct13 : Value}
    (a13 : PySem.W.nsIn K mainGlobals "_law_bad" = some (some (.ref f13))) (l13 : K.lookup f13 = some ⟨oc13, od13, .func (PySem.W.fnOf "_law_bad" "_law_bad" (defArgs s__law_bad) (defBody s__law_bad) (defScope s__law_bad) .none kV13 dc13 pm13 an13 cd13 ct13), sl13⟩) (c13 : PySem.W.codeIn K cd13 "_law_bad" = true) (k13 : PySem.W.keepIn K (.ref f13) = true)
    {f14 : Addr} {od14 an14 : Option Addr} {sl14 : Array (Option Value)} {oc14 kV14 dc14 pm14 cd14 ct14 : Value}
    (a14 : PySem.W.nsIn K mainGlobals "_law_times" = some (some (.ref f14))) (l14 : K.lookup f14 = some ⟨oc14, od14, .func (PySem.W.fnOf "_law_times" "_law_times" (defArgs s__law_times) (defBody s__law_times) (defScope s__law_times) .none kV14 dc14 pm14 an14 cd14 ct14), sl14⟩) (c14 : PySem.W.codeIn K cd14 "_law_times" = true) (k14 : PySem.W.keepIn K (.ref f14) = true)
    {f15 : Addr} {od15 an15 : Option Addr} {sl15 : Array (Option Value)} {oc15 kV15 dc15 pm15 cd15 ct15 : Value}
    (a15 : PySem.W.nsIn K mainGlobals "_law_tells" = some (some (.ref f15))) (l15 : K.lookup f15 = some ⟨oc15, od15, .func (PySem.W.fnOf "_law_tells" "_law_tells" (defArgs s__law_tells) (defBody s__law_tells) (defScope s__law_tells) .none kV15 dc15 pm15 an15 cd15 ct15), sl15⟩) (c15 : PySem.W.codeIn K cd15 "_law_tells" = true) (k15 : PySem.W.keepIn K (.ref f15) = true)
    {f16 : Addr} {od16 an16 : Option Addr} {sl16 : Array (Option Value)} {oc16 kV16 dc16 pm16 cd16 ct16 : Value}
    (a16 : PySem.W.nsIn K mainGlobals "_law_compared_right" = some (some (.ref f16))) (l16 : K.lookup f16 = some ⟨oc16, od16, .func (PySem.W.fnOf "_law_compared_right" "_law_compared_right" (defArgs s__law_compared_right) (defBody s__law_compared_right) (defScope s__law_compared_right) .none kV16 dc16 pm16 an16 cd16 ct16), sl16⟩) (c16 : PySem.W.codeIn K cd16 "_law_compared_right" = true) (k16 : PySem.W.keepIn K (.ref f16) = true)
    {f17 : Addr} {od17 an17 : Option Addr} {sl17 : Array (Option Value)} {oc17 kV17 dc17 pm17 cd17 ct17 : Value}
    (a17 : PySem.W.nsIn K mainGlobals "_law_great_things" = some (some (.ref f17))) (l17 : K.lookup f17 = some ⟨oc17, od17, .func (PySem.W.fnOf "_law_great_things" "_law_great_things" (defArgs s__law_great_things) (defBody s__law_great_things) (defScope s__law_great_things) .none kV17 dc17 pm17 an17 cd17 ct17), sl17⟩) (c17 : PySem.W.codeIn K cd17 "_law_great_things" = true) (k17 : PySem.W.keepIn K (.ref f17) = true)
    {f18 : Addr} {od18 an18 : Option Addr} {sl18 : Array (Option Value)} {oc18 kV18 dc18 pm18 cd18 ct18 : Value}
    (a18 : PySem.W.nsIn K mainGlobals "law" = some (some (.ref f18))) (l18 : K.lookup f18 = some ⟨oc18, od18, .func (PySem.W.fnOf "law" "law" (defArgs s_law) (defBody s_law) (defScope s_law) .none kV18 dc18 pm18 an18 cd18 ct18), sl18⟩) (c18 : PySem.W.codeIn K cd18 "law" = true) (k18 : PySem.W.keepIn K (.ref f18) = true)
    {C_Recipe : Addr}
    (g_Recipe : PySem.W.nsIn K mainGlobals "Recipe" = some (some (.ref C_Recipe)))
    (k_Recipe : PySem.W.keepIn K (.ref C_Recipe) = true)
    (pg_Recipe : PySem.W.plainGet K C_Recipe Str.empty = true)
    (ic_Recipe : PySem.W.isClsIn K C_Recipe = true)
    (po_Recipe : PySem.W.plainOver K C_Recipe = true)
    (sa_Recipe : PySem.W.findIn K (.ref C_Recipe) "__setattr__" = some (some (.builtin "object.__setattr__")))
    (mk_Recipe : PySem.W.makesIn K C_Recipe = true)
    (ca_Recipe : PySem.W.findIn K (.ref C_Recipe) "__class__" = some (some (.builtin "object.__class__")))
    (cn_Recipe : PySem.W.specialIn K (.builtin "object.__class__") "__get__" = some (some (.builtin "getset_descriptor.__get__")))
    (ct_Recipe : PySem.W.takesIn K (.builtin "object.__class__") = some true)
    (cm_Recipe : PySem.W.mroIn K C_Recipe (.type "object") = some true)
    (ne_Recipe : PySem.W.findIn K (.ref C_Recipe) "__ne__" = some (some (.builtin "object.__ne__")))
    (tyc_Recipe : PySem.W.typeIn K (.ref C_Recipe) = some (.type "type"))
    (mul_Recipe : PySem.W.selfFirst K C_Recipe = true)
    (nl_Recipe : PySem.W.subIn K (.ref C_Recipe) (.type "list") = some false)
    (nt_Recipe : PySem.W.subIn K (.ref C_Recipe) (.type "tuple") = some false)
    {p_Recipe_its_terms : Addr}
    (at_Recipe_its_terms : PySem.W.findIn K (.ref C_Recipe) "its_terms" = some (some (.ref p_Recipe_its_terms)))
    (get_Recipe_its_terms : PySem.W.specialIn K (.ref p_Recipe_its_terms) "__get__" = some (some (.builtin "member_descriptor.__get__")))
    (tk_Recipe_its_terms : PySem.W.takesIn K (.ref p_Recipe_its_terms) = some true)
    (ty_Recipe_its_terms : PySem.W.typeIn K (.ref p_Recipe_its_terms) = some (.type "member_descriptor"))
    (ix_Recipe_its_terms : PySem.W.slotIn K p_Recipe_its_terms C_Recipe = some 0)
    {p_Recipe_its_variables : Addr}
    (at_Recipe_its_variables : PySem.W.findIn K (.ref C_Recipe) "its_variables" = some (some (.ref p_Recipe_its_variables)))
    (get_Recipe_its_variables : PySem.W.specialIn K (.ref p_Recipe_its_variables) "__get__" = some (some (.builtin "member_descriptor.__get__")))
    (tk_Recipe_its_variables : PySem.W.takesIn K (.ref p_Recipe_its_variables) = some true)
    (ty_Recipe_its_variables : PySem.W.typeIn K (.ref p_Recipe_its_variables) = some (.type "member_descriptor"))
    (ix_Recipe_its_variables : PySem.W.slotIn K p_Recipe_its_variables C_Recipe = some 1)
    {f_Recipe___init__ : Addr} {od_Recipe___init__ an_Recipe___init__ : Option Addr} {sl_Recipe___init__ : Array (Option Value)} {oc_Recipe___init__ kV_Recipe___init__ dc_Recipe___init__ pm_Recipe___init__ cd_Recipe___init__ cc_Recipe___init__ : Value}
    (am_Recipe___init__ : PySem.W.findIn K (.ref C_Recipe) "__init__" = some (some (.ref f_Recipe___init__)))
    (im_Recipe___init__ : PySem.W.isFn K (.ref f_Recipe___init__) = true)
    (lm_Recipe___init__ : K.lookup f_Recipe___init__ = some ⟨oc_Recipe___init__, od_Recipe___init__, .func (PySem.W.fnOf "__init__" "Recipe.__init__" (defArgs s_Recipe___init__) (defBody s_Recipe___init__) (defScope s_Recipe___init__) .none kV_Recipe___init__ dc_Recipe___init__ pm_Recipe___init__ an_Recipe___init__ cd_Recipe___init__ cc_Recipe___init__), sl_Recipe___init__⟩)
    (co_Recipe___init__ : PySem.W.codeIn K cd_Recipe___init__ "Recipe.__init__" = true)
    (km_Recipe___init__ : PySem.W.keepIn K (.ref f_Recipe___init__) = true)
    {f_Recipe_variables : Addr} {od_Recipe_variables an_Recipe_variables : Option Addr} {sl_Recipe_variables : Array (Option Value)} {oc_Recipe_variables kV_Recipe_variables dc_Recipe_variables pm_Recipe_variables cd_Recipe_variables cc_Recipe_variables : Value}
    {p_Recipe_variables : Addr} {rs_Recipe_variables : List Value}
    (pa_Recipe_variables : PySem.W.findIn K (.ref C_Recipe) "variables" = some (some (.ref p_Recipe_variables)))
    (pg_Recipe_variables : PySem.W.specialIn K (.ref p_Recipe_variables) "__get__" = some (some (.builtin "property.__get__")))
    (pt_Recipe_variables : PySem.W.takesIn K (.ref p_Recipe_variables) = some true)
    (pr_Recipe_variables : PySem.W.recIn K p_Recipe_variables "property" = some (.ref f_Recipe_variables :: rs_Recipe_variables))
    (lm_Recipe_variables : K.lookup f_Recipe_variables = some ⟨oc_Recipe_variables, od_Recipe_variables, .func (PySem.W.fnOf "variables" "Recipe.variables" (defArgs s_Recipe_variables) (defBody s_Recipe_variables) (defScope s_Recipe_variables) .none kV_Recipe_variables dc_Recipe_variables pm_Recipe_variables an_Recipe_variables cd_Recipe_variables cc_Recipe_variables), sl_Recipe_variables⟩)
    (co_Recipe_variables : PySem.W.codeIn K cd_Recipe_variables "Recipe.variables" = true)
    (km_Recipe_variables : PySem.W.keepIn K (.ref f_Recipe_variables) = true)
    {f_Recipe_terms : Addr} {od_Recipe_terms an_Recipe_terms : Option Addr} {sl_Recipe_terms : Array (Option Value)} {oc_Recipe_terms kV_Recipe_terms dc_Recipe_terms pm_Recipe_terms cd_Recipe_terms cc_Recipe_terms : Value}
    {p_Recipe_terms : Addr} {rs_Recipe_terms : List Value}
    (pa_Recipe_terms : PySem.W.findIn K (.ref C_Recipe) "terms" = some (some (.ref p_Recipe_terms)))
    (pg_Recipe_terms : PySem.W.specialIn K (.ref p_Recipe_terms) "__get__" = some (some (.builtin "property.__get__")))
    (pt_Recipe_terms : PySem.W.takesIn K (.ref p_Recipe_terms) = some true)
    (pr_Recipe_terms : PySem.W.recIn K p_Recipe_terms "property" = some (.ref f_Recipe_terms :: rs_Recipe_terms))
    (lm_Recipe_terms : K.lookup f_Recipe_terms = some ⟨oc_Recipe_terms, od_Recipe_terms, .func (PySem.W.fnOf "terms" "Recipe.terms" (defArgs s_Recipe_terms) (defBody s_Recipe_terms) (defScope s_Recipe_terms) .none kV_Recipe_terms dc_Recipe_terms pm_Recipe_terms an_Recipe_terms cd_Recipe_terms cc_Recipe_terms), sl_Recipe_terms⟩)
    (co_Recipe_terms : PySem.W.codeIn K cd_Recipe_terms "Recipe.terms" = true)
    (km_Recipe_terms : PySem.W.keepIn K (.ref f_Recipe_terms) = true)
    {f_Recipe_keeping : Addr} {od_Recipe_keeping an_Recipe_keeping : Option Addr} {sl_Recipe_keeping : Array (Option Value)} {oc_Recipe_keeping kV_Recipe_keeping dc_Recipe_keeping pm_Recipe_keeping cd_Recipe_keeping cc_Recipe_keeping : Value}
    {p_Recipe_keeping : Addr} {rs_Recipe_keeping : List Value}
    (sf_Recipe_keeping : PySem.W.findCls K (.ref C_Recipe) (.type "type") "keeping" = some (.get (.builtin "staticmethod.__get__") (.ref p_Recipe_keeping) .none (.ref C_Recipe)))
    (sr_Recipe_keeping : PySem.W.recIn K p_Recipe_keeping "staticmethod" = some (.ref f_Recipe_keeping :: rs_Recipe_keeping))
    (sd_Recipe_keeping : PySem.W.readsIn K C_Recipe (.type "type") = true)
    (sg_Recipe_keeping : PySem.W.specialIn K (.ref C_Recipe) "__getattribute__" = some (some (.builtin "type.__getattribute__")))
    (st_Recipe_keeping : PySem.W.typeIn K (.ref C_Recipe) = some (.type "type"))
    (lm_Recipe_keeping : K.lookup f_Recipe_keeping = some ⟨oc_Recipe_keeping, od_Recipe_keeping, .func (PySem.W.fnOf "keeping" "Recipe.keeping" (defArgs s_Recipe_keeping) (defBody s_Recipe_keeping) (defScope s_Recipe_keeping) .none kV_Recipe_keeping dc_Recipe_keeping pm_Recipe_keeping an_Recipe_keeping cd_Recipe_keeping cc_Recipe_keeping), sl_Recipe_keeping⟩)
    (co_Recipe_keeping : PySem.W.codeIn K cd_Recipe_keeping "Recipe.keeping" = true)
    (km_Recipe_keeping : PySem.W.keepIn K (.ref f_Recipe_keeping) = true)
    {f_Recipe___call__ : Addr} {od_Recipe___call__ an_Recipe___call__ : Option Addr} {sl_Recipe___call__ : Array (Option Value)} {oc_Recipe___call__ kV_Recipe___call__ dc_Recipe___call__ pm_Recipe___call__ cd_Recipe___call__ cc_Recipe___call__ : Value}
    (am_Recipe___call__ : PySem.W.findIn K (.ref C_Recipe) "__call__" = some (some (.ref f_Recipe___call__)))
    (im_Recipe___call__ : PySem.W.isFn K (.ref f_Recipe___call__) = true)
    (lm_Recipe___call__ : K.lookup f_Recipe___call__ = some ⟨oc_Recipe___call__, od_Recipe___call__, .func (PySem.W.fnOf "__call__" "Recipe.__call__" (defArgs s_Recipe___call__) (defBody s_Recipe___call__) (defScope s_Recipe___call__) .none kV_Recipe___call__ dc_Recipe___call__ pm_Recipe___call__ an_Recipe___call__ cd_Recipe___call__ cc_Recipe___call__), sl_Recipe___call__⟩)
    (co_Recipe___call__ : PySem.W.codeIn K cd_Recipe___call__ "Recipe.__call__" = true)
    (km_Recipe___call__ : PySem.W.keepIn K (.ref f_Recipe___call__) = true)
    {f_Recipe___mul__ : Addr} {od_Recipe___mul__ an_Recipe___mul__ : Option Addr} {sl_Recipe___mul__ : Array (Option Value)} {oc_Recipe___mul__ kV_Recipe___mul__ dc_Recipe___mul__ pm_Recipe___mul__ cd_Recipe___mul__ cc_Recipe___mul__ : Value}
    (am_Recipe___mul__ : PySem.W.findIn K (.ref C_Recipe) "__mul__" = some (some (.ref f_Recipe___mul__)))
    (im_Recipe___mul__ : PySem.W.isFn K (.ref f_Recipe___mul__) = true)
    (lm_Recipe___mul__ : K.lookup f_Recipe___mul__ = some ⟨oc_Recipe___mul__, od_Recipe___mul__, .func (PySem.W.fnOf "__mul__" "Recipe.__mul__" (defArgs s_Recipe___mul__) (defBody s_Recipe___mul__) (defScope s_Recipe___mul__) .none kV_Recipe___mul__ dc_Recipe___mul__ pm_Recipe___mul__ an_Recipe___mul__ cd_Recipe___mul__ cc_Recipe___mul__), sl_Recipe___mul__⟩)
    (co_Recipe___mul__ : PySem.W.codeIn K cd_Recipe___mul__ "Recipe.__mul__" = true)
    (km_Recipe___mul__ : PySem.W.keepIn K (.ref f_Recipe___mul__) = true)
    {f_Recipe___eq__ : Addr} {od_Recipe___eq__ an_Recipe___eq__ : Option Addr} {sl_Recipe___eq__ : Array (Option Value)} {oc_Recipe___eq__ kV_Recipe___eq__ dc_Recipe___eq__ pm_Recipe___eq__ cd_Recipe___eq__ cc_Recipe___eq__ : Value}
    (am_Recipe___eq__ : PySem.W.findIn K (.ref C_Recipe) "__eq__" = some (some (.ref f_Recipe___eq__)))
    (im_Recipe___eq__ : PySem.W.isFn K (.ref f_Recipe___eq__) = true)
    (lm_Recipe___eq__ : K.lookup f_Recipe___eq__ = some ⟨oc_Recipe___eq__, od_Recipe___eq__, .func (PySem.W.fnOf "__eq__" "Recipe.__eq__" (defArgs s_Recipe___eq__) (defBody s_Recipe___eq__) (defScope s_Recipe___eq__) .none kV_Recipe___eq__ dc_Recipe___eq__ pm_Recipe___eq__ an_Recipe___eq__ cd_Recipe___eq__ cc_Recipe___eq__), sl_Recipe___eq__⟩)
    (co_Recipe___eq__ : PySem.W.codeIn K cd_Recipe___eq__ "Recipe.__eq__" = true)
    (km_Recipe___eq__ : PySem.W.keepIn K (.ref f_Recipe___eq__) = true)
    {f_Recipe___len__ : Addr} {od_Recipe___len__ an_Recipe___len__ : Option Addr} {sl_Recipe___len__ : Array (Option Value)} {oc_Recipe___len__ kV_Recipe___len__ dc_Recipe___len__ pm_Recipe___len__ cd_Recipe___len__ cc_Recipe___len__ : Value}
    (am_Recipe___len__ : PySem.W.findIn K (.ref C_Recipe) "__len__" = some (some (.ref f_Recipe___len__)))
    (im_Recipe___len__ : PySem.W.isFn K (.ref f_Recipe___len__) = true)
    (lm_Recipe___len__ : K.lookup f_Recipe___len__ = some ⟨oc_Recipe___len__, od_Recipe___len__, .func (PySem.W.fnOf "__len__" "Recipe.__len__" (defArgs s_Recipe___len__) (defBody s_Recipe___len__) (defScope s_Recipe___len__) .none kV_Recipe___len__ dc_Recipe___len__ pm_Recipe___len__ an_Recipe___len__ cd_Recipe___len__ cc_Recipe___len__), sl_Recipe___len__⟩)
    (co_Recipe___len__ : PySem.W.codeIn K cd_Recipe___len__ "Recipe.__len__" = true)
    (km_Recipe___len__ : PySem.W.keepIn K (.ref f_Recipe___len__) = true)
    {f_Recipe___repr__ : Addr} {od_Recipe___repr__ an_Recipe___repr__ : Option Addr} {sl_Recipe___repr__ : Array (Option Value)} {oc_Recipe___repr__ kV_Recipe___repr__ dc_Recipe___repr__ pm_Recipe___repr__ cd_Recipe___repr__ cc_Recipe___repr__ : Value}
    (am_Recipe___repr__ : PySem.W.findIn K (.ref C_Recipe) "__repr__" = some (some (.ref f_Recipe___repr__)))
    (im_Recipe___repr__ : PySem.W.isFn K (.ref f_Recipe___repr__) = true)
    (lm_Recipe___repr__ : K.lookup f_Recipe___repr__ = some ⟨oc_Recipe___repr__, od_Recipe___repr__, .func (PySem.W.fnOf "__repr__" "Recipe.__repr__" (defArgs s_Recipe___repr__) (defBody s_Recipe___repr__) (defScope s_Recipe___repr__) .none kV_Recipe___repr__ dc_Recipe___repr__ pm_Recipe___repr__ an_Recipe___repr__ cd_Recipe___repr__ cc_Recipe___repr__), sl_Recipe___repr__⟩)
    (co_Recipe___repr__ : PySem.W.codeIn K cd_Recipe___repr__ "Recipe.__repr__" = true)
    (km_Recipe___repr__ : PySem.W.keepIn K (.ref f_Recipe___repr__) = true)
    (topS_ : (l.prog.main.scope.names.lookup ("super" : Str)).isSome = false)
    (sup_ : PySem.W.nsIn K mainGlobals "super" = some none)
    (opq_ : PySem.W.nsIn K PySem.cStatics "thirdparty.any" = some none)
    {C_MoveError : Addr}
    (g_MoveError : PySem.W.nsIn K mainGlobals "MoveError" = some (some (.ref C_MoveError)))
    (ex_MoveError : PySem.W.subIn K (.ref C_MoveError) (.type "BaseException") = some true)
    (hd_MoveError : PySem.W.hasDictIn K C_MoveError = true)
    (ty_MoveError : PySem.W.typeIn K (.ref C_MoveError) = some (.type "type"))
    {C_Wrong : Addr}
    (g_Wrong : PySem.W.nsIn K mainGlobals "Wrong" = some (some (.ref C_Wrong)))
    (ex_Wrong : PySem.W.subIn K (.ref C_Wrong) (.type "BaseException") = some true)
    (hd_Wrong : PySem.W.hasDictIn K C_Wrong = true)
    (ty_Wrong : PySem.W.typeIn K (.ref C_Wrong) = some (.type "type"))
    {nm_Wrong q_Wrong : Str} {N_Wrong : Addr} {bs_Wrong bm_Wrong sub_Wrong : List Value} {sn_Wrong : List Str} {ab_Wrong : Bool} {col_Wrong : Option Bool} {dd_Wrong : Option Addr} {k0_Wrong k1_Wrong k2_Wrong k3_Wrong k5_Wrong : Option Value}
    (cls_Wrong : K.lookup C_Wrong = some (excClassObj nm_Wrong q_Wrong C_Wrong N_Wrong bs_Wrong bm_Wrong true sn_Wrong sub_Wrong ab_Wrong col_Wrong dd_Wrong k0_Wrong k1_Wrong k2_Wrong k3_Wrong k5_Wrong "ValueError.__new__"))
    (ve_Wrong : PySem.HandSPX.refsVE bm_Wrong = true)
    (sa_Wrong : PySem.W.findIn K (.ref C_Wrong) "__setattr__" = some (some (.builtin "object.__setattr__")))
    (no_Wrong : PySem.W.findIn K (.ref C_Wrong) "place" = some none)
    (k_Wrong : PySem.W.keepIn K (.ref C_Wrong) = true)
    (vs_Wrong : PySem.W.subIn K (.ref C_Wrong) (.type "ValueError") = some true)
    (up_Wrong : PySem.W.ks_superIn K C_Wrong C_Wrong "__init__" = some (some (.builtin "ValueError.__init__")))
    (self_Wrong : PySem.W.mroIn K C_Wrong (.ref C_Wrong) = some true)
    {fI_Wrong cda_Wrong cc_Wrong : Addr} {oc_Wrong kV_Wrong doc_Wrong pm_Wrong ct_Wrong cl_Wrong ccl_Wrong : Value} {od_Wrong an_Wrong cld_Wrong cdd_Wrong : Option Addr} {osl_Wrong csl_Wrong ccs_Wrong : Array (Option Value)} {ql_Wrong file_Wrong : Str} {vv_Wrong : Array Value} {tf_Wrong : Tok} {p1_Wrong p2_Wrong q1_Wrong q2_Wrong q3_Wrong q4_Wrong q5_Wrong q6_Wrong q7_Wrong q8_Wrong q9_Wrong q10_Wrong : Pos}
    (fi_Wrong : PySem.W.findIn K (.ref C_Wrong) "__init__" = some (some (.ref fI_Wrong)))
    (tI_Wrong : PySem.W.typeIn K (.ref fI_Wrong) = some (.type "function"))
    (lI_Wrong : K.lookup fI_Wrong = some ⟨oc_Wrong, od_Wrong, .func (PySem.W.ksFn "__init__" ql_Wrong (xA "place" p1_Wrong p2_Wrong) (xB "place" q1_Wrong q2_Wrong q3_Wrong q4_Wrong q5_Wrong q6_Wrong q7_Wrong q8_Wrong q9_Wrong q10_Wrong) (xS "place") .none kV_Wrong doc_Wrong pm_Wrong an_Wrong (.ref cda_Wrong) ct_Wrong cc_Wrong), osl_Wrong⟩)
    (cd_Wrong : PySem.W.codeIn K (.ref cda_Wrong) ql_Wrong = true)
    (ce_Wrong : K.lookup cc_Wrong = some ⟨cl_Wrong, cld_Wrong, .cell (some (.ref C_Wrong)), csl_Wrong⟩)
    (co_Wrong : K.lookup cda_Wrong = some ⟨ccl_Wrong, cdd_Wrong, .fields vv_Wrong, ccs_Wrong⟩)
    (cv_Wrong : vv_Wrong[2]? = some (.str file_Wrong tf_Wrong))
    (cf_Wrong : ((l.prog.main.file : Str) == file_Wrong) = true)
    (bi_Wrong : ∀ e v, bindArgs (PySem.W.ksFn "__init__" ql_Wrong (xA "place" p1_Wrong p2_Wrong) (xB "place" q1_Wrong q2_Wrong q3_Wrong q4_Wrong q5_Wrong q6_Wrong q7_Wrong q8_Wrong q9_Wrong q10_Wrong) (xS "place") .none kV_Wrong doc_Wrong pm_Wrong an_Wrong (.ref cda_Wrong) ct_Wrong cc_Wrong) ⟨[.ref e, v], []⟩ = pure [((PySem.Str.ofString "self" : Str), .ref e), ("place", v)])
    (ev_Wrong : ∀ L : Addr, ∃ pl, eval (xCall "place" q1_Wrong q2_Wrong q3_Wrong q4_Wrong q5_Wrong) (PySem.W.ksEnv ql_Wrong (xS "place") L fI_Wrong (.ref cda_Wrong) cc_Wrong) = (do
      let ov ← attributeBase (.Call (.Name "super" q1_Wrong) [] [] q2_Wrong) "__init__" (PySem.W.ksEnv ql_Wrong (xS "place") L fI_Wrong (.ref cda_Wrong) cc_Wrong) (eval (.Call (.Name "super" q1_Wrong) [] [] q2_Wrong) (PySem.W.ksEnv ql_Wrong (xS "place") L fI_Wrong (.ref cda_Wrong) cc_Wrong))
      standAt q3_Wrong.atName
      let (g, first) ← holding [ov] (getMethod ov "__init__" pl)
      callWith q5_Wrong g first (backTo q5_Wrong (starEach [.Name "place" q4_Wrong] (PySem.W.ksEnv ql_Wrong (xS "place") L fI_Wrong (.ref cda_Wrong) cc_Wrong))) []))
    {C_Unlike : Addr}
    (g_Unlike : PySem.W.nsIn K mainGlobals "Unlike" = some (some (.ref C_Unlike)))
    (ex_Unlike : PySem.W.subIn K (.ref C_Unlike) (.type "BaseException") = some true)
    (hd_Unlike : PySem.W.hasDictIn K C_Unlike = true)
    (ty_Unlike : PySem.W.typeIn K (.ref C_Unlike) = some (.type "type"))
    (k_Unlike : PySem.W.keepIn K (.ref C_Unlike) = true)
    (ei_Unlike : PySem.W.excIn K C_Unlike [.type "ValueError", .type "Exception", .type "BaseException", .type "object"] "ValueError.__new__" = true)
    (z0 : PySem.W.nsIn K mainGlobals "ValueError" = some none)
    (z1 : PySem.W.nsIn K mainGlobals "abs" = some none)
    (z2 : PySem.W.nsIn K mainGlobals "all" = some none)
    (z3 : PySem.W.nsIn K mainGlobals "bool" = some none)
    (z4 : PySem.W.nsIn K mainGlobals "int" = some none)
    (z5 : PySem.W.nsIn K mainGlobals "isinstance" = some none)
    (z6 : PySem.W.nsIn K mainGlobals "len" = some none)
    (z7 : PySem.W.nsIn K mainGlobals "list" = some none)
    (z8 : PySem.W.nsIn K mainGlobals "range" = some none)
    (z9 : PySem.W.nsIn K mainGlobals "repr" = some none)
    (z10 : PySem.W.nsIn K mainGlobals "str" = some none)
    (z11 : PySem.W.nsIn K mainGlobals "tuple" = some none)
    {tk0 : Tok}
    (y0 : PySem.W.nsIn K mainGlobals "LETTERS" = some (some (.str "abcdefghijklmnopqrstuvwxyz" tk0)))
    {tk1 : Tok}
    (y1 : PySem.W.nsIn K mainGlobals "MOST_LETTERS" = some (some (.int 8 tk1)))
    {tk2 : Tok}
    (y2 : PySem.W.nsIn K mainGlobals "MOST_PARTS" = some (some (.int 3 tk2)))
    (xa_Wrong : PySem.W.findIn K (.ref C_Wrong) "__getattribute__" = some (some (.builtin "BaseException.__getattribute__")))
    (xg_Wrong : PySem.W.findIn K (.ref C_Wrong) "__getattr__" = some none)
    (xl_Wrong : PySem.W.findIn K (.ref C_Wrong) "__class__" = some (some (.builtin "object.__class__")))
    (xn_Wrong : PySem.W.specialIn K (.builtin "object.__class__") "__get__" = some (some (.builtin "getset_descriptor.__get__")))
    (xt_Wrong : PySem.W.takesIn K (.builtin "object.__class__") = some true)
    (xm_Wrong : PySem.W.mroIn K C_Wrong (.type "object") = some true)
    (xa_Unlike : PySem.W.findIn K (.ref C_Unlike) "__getattribute__" = some (some (.builtin "BaseException.__getattribute__")))
    (xg_Unlike : PySem.W.findIn K (.ref C_Unlike) "__getattr__" = some none)
    (xl_Unlike : PySem.W.findIn K (.ref C_Unlike) "__class__" = some (some (.builtin "object.__class__")))
    (xn_Unlike : PySem.W.specialIn K (.builtin "object.__class__") "__get__" = some (some (.builtin "getset_descriptor.__get__")))
    (xt_Unlike : PySem.W.takesIn K (.builtin "object.__class__") = some true)
    (xm_Unlike : PySem.W.mroIn K C_Unlike (.type "object") = some true)
    (ds_Unlike_Wrong : PySem.W.subIn K (.ref C_Unlike) (.ref C_Wrong) = some false)
    (dn_Unlike_Wrong : C_Unlike ≠ C_Wrong)
    (sb_Wrong_MoveError : PySem.W.subIn K (.ref C_Wrong) (.ref C_MoveError) = some true)
    (sb_Unlike_MoveError : PySem.W.subIn K (.ref C_Unlike) (.ref C_MoveError) = some true)
    : ∃ fd : FuncData, (∀ (t : Shared) (u : Value), BindsTo t fd ⟨[u], []⟩ [("_law_script", u)]) ∧ ∀ base : Heap, K.In base → base.Ns mainGlobals mg → FnOkG l.prog w K mg base CX0 60 fa fd P_law (sp_law K) := by
  have e := hfa.symm.trans (PySem.W.mg_of X G a18)
  cases e
  exact ⟨_, fun s v => .of_eq rfl, fun base _ _ => ok_law (T := {
    d_is_integer := ⟨_, _, fun_mk l0 c0 k0, PySem.W.mg_of X G a0, (fun_mk l0 c0 k0).binds fun _ _ _ _ _ _ us hl => match us, hl with | [_], _ => rfl⟩
    d_is_name := ⟨_, _, fun_mk l1 c1 k1, PySem.W.mg_of X G a1, (fun_mk l1 c1 k1).binds fun _ _ _ _ _ _ us hl => match us, hl with | [_], _ => rfl⟩
    d_is_term := ⟨_, _, fun_mk l2 c2 k2, PySem.W.mg_of X G a2, (fun_mk l2 c2 k2).binds fun _ _ _ _ _ _ us hl => match us, hl with | [_], _ => rfl⟩
    d_is_term_over := ⟨_, _, fun_mk l3 c3 k3, PySem.W.mg_of X G a3, (fun_mk l3 c3 k3).binds fun _ _ _ _ _ _ us hl => match us, hl with | [_, _], _ => rfl⟩
    d_put := ⟨_, _, fun_mk l4 c4 k4, PySem.W.mg_of X G a4, (fun_mk l4 c4 k4).binds fun _ _ _ _ _ _ us hl => match us, hl with | [_, _], _ => rfl⟩
    d_put_all := ⟨_, _, fun_mk l5 c5 k5, PySem.W.mg_of X G a5, (fun_mk l5 c5 k5).binds fun _ _ _ _ _ _ us hl => match us, hl with | [_, _], _ => rfl⟩
    d__law_bag := ⟨_, _, fun_mk l6 c6 k6, PySem.W.mg_of X G a6, (fun_mk l6 c6 k6).binds fun _ _ _ _ _ _ us hl => match us, hl with | [_], _ => rfl⟩
    d__law_take := ⟨_, _, fun_mk l7 c7 k7, PySem.W.mg_of X G a7, (fun_mk l7 c7 k7).binds fun _ _ _ _ _ _ us hl => match us, hl with | [_, _], _ => rfl⟩
    d__law_alike := ⟨_, _, fun_mk l8 c8 k8, PySem.W.mg_of X G a8, (fun_mk l8 c8 k8).binds fun _ _ _ _ _ _ us hl => match us, hl with | [_, _], _ => rfl⟩
    d__law_names := ⟨_, _, fun_mk l9 c9 k9, PySem.W.mg_of X G a9, (fun_mk l9 c9 k9).binds fun _ _ _ _ _ _ us hl => match us, hl with | [_, _], _ => rfl⟩
    d__law_term := ⟨_, _, fun_mk l10 c10 k10, PySem.W.mg_of X G a10, (fun_mk l10 c10 k10).binds fun _ _ _ _ _ _ us hl => match us, hl with | [_, _, _, _], _ => rfl⟩
    d__law_put := ⟨_, _, fun_mk l11 c11 k11, PySem.W.mg_of X G a11, (fun_mk l11 c11 k11).binds fun _ _ _ _ _ _ us hl => match us, hl with | [_, _], _ => rfl⟩
    d__law_made := ⟨_, _, fun_mk l12 c12 k12, PySem.W.mg_of X G a12, (fun_mk l12 c12 k12).binds fun _ _ _ _ _ _ us hl => match us, hl with | [_, _], _ => rfl⟩
    d__law_bad := ⟨_, _, fun_mk l13 c13 k13, PySem.W.mg_of X G a13, (fun_mk l13 c13 k13).binds fun _ _ _ _ _ _ us hl => match us, hl with | [_, _, _], _ => rfl⟩
    d__law_times := ⟨_, _, fun_mk l14 c14 k14, PySem.W.mg_of X G a14, (fun_mk l14 c14 k14).binds fun _ _ _ _ _ _ us hl => match us, hl with | [_, _], _ => rfl⟩
    d__law_tells := ⟨_, _, fun_mk l15 c15 k15, PySem.W.mg_of X G a15, (fun_mk l15 c15 k15).binds fun _ _ _ _ _ _ us hl => match us, hl with | [_, _, _], _ => rfl⟩
    d__law_compared_right := ⟨_, _, fun_mk l16 c16 k16, PySem.W.mg_of X G a16, (fun_mk l16 c16 k16).binds fun _ _ _ _ _ _ us hl => match us, hl with | [_, _, _], _ => rfl⟩
    d__law_great_things := ⟨_, _, fun_mk l17 c17 k17, PySem.W.mg_of X G a17, (fun_mk l17 c17 k17).binds fun _ _ _ _ _ _ us hl => match us, hl with | [], _ => rfl⟩
    d_law := ⟨_, _, fun_mk l18 c18 k18, PySem.W.mg_of X G a18, (fun_mk l18 c18 k18).binds fun _ _ _ _ _ _ us hl => match us, hl with | [_], _ => rfl⟩
    C_Recipe := C_Recipe
    g_Recipe := PySem.W.mg_of X G g_Recipe
    k_Recipe := k_Recipe
    c_Recipe := ⟨pg_Recipe, ic_Recipe, po_Recipe, sa_Recipe⟩
    mk_Recipe := mk_Recipe
    is_Recipe := ⟨ca_Recipe, cn_Recipe, ct_Recipe, cm_Recipe⟩
    ne_Recipe := ne_Recipe
    ty_Recipe := tyc_Recipe
    mul_Recipe := mul_Recipe
    nl_Recipe := nl_Recipe
    nt_Recipe := nt_Recipe
    p_Recipe_its_variables := p_Recipe_its_variables
    sl_Recipe_its_variables := ⟨at_Recipe_its_variables, get_Recipe_its_variables, tk_Recipe_its_variables, ty_Recipe_its_variables, ix_Recipe_its_variables, by decide⟩
    p_Recipe_its_terms := p_Recipe_its_terms
    sl_Recipe_its_terms := ⟨at_Recipe_its_terms, get_Recipe_its_terms, tk_Recipe_its_terms, ty_Recipe_its_terms, ix_Recipe_its_terms, by decide⟩
    d_Recipe___init__ := ⟨_, _, fun_mk lm_Recipe___init__ co_Recipe___init__ km_Recipe___init__, ⟨am_Recipe___init__, im_Recipe___init__, km_Recipe___init__⟩, (fun_mk lm_Recipe___init__ co_Recipe___init__ km_Recipe___init__).binds fun _ _ _ _ _ _ us hl => match us, hl with | [_, _, _], _ => rfl⟩
    d_Recipe_variables := ⟨_, _, fun_mk lm_Recipe_variables co_Recipe_variables km_Recipe_variables, _, pa_Recipe_variables, pg_Recipe_variables, pt_Recipe_variables, ⟨_, pr_Recipe_variables⟩, (fun_mk lm_Recipe_variables co_Recipe_variables km_Recipe_variables).binds fun _ _ _ _ _ _ us hl => match us, hl with | [_], _ => rfl⟩
    d_Recipe_terms := ⟨_, _, fun_mk lm_Recipe_terms co_Recipe_terms km_Recipe_terms, _, pa_Recipe_terms, pg_Recipe_terms, pt_Recipe_terms, ⟨_, pr_Recipe_terms⟩, (fun_mk lm_Recipe_terms co_Recipe_terms km_Recipe_terms).binds fun _ _ _ _ _ _ us hl => match us, hl with | [_], _ => rfl⟩
    d_Recipe_keeping := ⟨_, _, fun_mk lm_Recipe_keeping co_Recipe_keeping km_Recipe_keeping, _, ⟨⟨sd_Recipe_keeping, sg_Recipe_keeping⟩, st_Recipe_keeping, sf_Recipe_keeping, ⟨_, sr_Recipe_keeping⟩, km_Recipe_keeping⟩, (fun_mk lm_Recipe_keeping co_Recipe_keeping km_Recipe_keeping).binds fun _ _ _ _ _ _ us hl => match us, hl with | [_], _ => rfl⟩
    d_Recipe___call__ := ⟨_, _, fun_mk lm_Recipe___call__ co_Recipe___call__ km_Recipe___call__, ⟨am_Recipe___call__, im_Recipe___call__, km_Recipe___call__⟩, (fun_mk lm_Recipe___call__ co_Recipe___call__ km_Recipe___call__).binds fun _ _ _ _ _ _ us hl => match us, hl with | [_, _], _ => rfl⟩
    d_Recipe___mul__ := ⟨_, _, fun_mk lm_Recipe___mul__ co_Recipe___mul__ km_Recipe___mul__, ⟨am_Recipe___mul__, im_Recipe___mul__, km_Recipe___mul__⟩, (fun_mk lm_Recipe___mul__ co_Recipe___mul__ km_Recipe___mul__).binds fun _ _ _ _ _ _ us hl => match us, hl with | [_, _], _ => rfl⟩
    d_Recipe___eq__ := ⟨_, _, fun_mk lm_Recipe___eq__ co_Recipe___eq__ km_Recipe___eq__, ⟨am_Recipe___eq__, im_Recipe___eq__, km_Recipe___eq__⟩, (fun_mk lm_Recipe___eq__ co_Recipe___eq__ km_Recipe___eq__).binds fun _ _ _ _ _ _ us hl => match us, hl with | [_, _], _ => rfl⟩
    d_Recipe___len__ := ⟨_, _, fun_mk lm_Recipe___len__ co_Recipe___len__ km_Recipe___len__, ⟨am_Recipe___len__, im_Recipe___len__, km_Recipe___len__⟩, (fun_mk lm_Recipe___len__ co_Recipe___len__ km_Recipe___len__).binds fun _ _ _ _ _ _ us hl => match us, hl with | [_], _ => rfl⟩
    d_Recipe___repr__ := ⟨_, _, fun_mk lm_Recipe___repr__ co_Recipe___repr__ km_Recipe___repr__, ⟨am_Recipe___repr__, im_Recipe___repr__, km_Recipe___repr__⟩, (fun_mk lm_Recipe___repr__ co_Recipe___repr__ km_Recipe___repr__).binds fun _ _ _ _ _ _ us hl => match us, hl with | [_], _ => rfl⟩
    b_ValueError := PySem.W.mg_none_of X G z0
    b_abs := PySem.W.mg_none_of X G z1
    b_all := PySem.W.mg_none_of X G z2
    b_bool := PySem.W.mg_none_of X G z3
    b_int := PySem.W.mg_none_of X G z4
    b_isinstance := PySem.W.mg_none_of X G z5
    b_len := PySem.W.mg_none_of X G z6
    b_list := PySem.W.mg_none_of X G z7
    b_range := PySem.W.mg_none_of X G z8
    b_repr := PySem.W.mg_none_of X G z9
    b_str := PySem.W.mg_none_of X G z10
    b_tuple := PySem.W.mg_none_of X G z11
    v_LETTERS := _
    c_LETTERS := PySem.W.mg_of X G y0
    r_LETTERS := ⟨_, rfl⟩
    v_MOST_LETTERS := _
    c_MOST_LETTERS := PySem.W.mg_of X G y1
    r_MOST_LETTERS := ⟨_, rfl⟩
    v_MOST_PARTS := _
    c_MOST_PARTS := PySem.W.mg_of X G y2
    r_MOST_PARTS := ⟨_, rfl⟩
  }) (Y := {
    C_MoveError := C_MoveError
    x_MoveError := ⟨PySem.W.mg_of X G g_MoveError, ex_MoveError, hd_MoveError, ty_MoveError⟩
    C_Wrong := C_Wrong
    x_Wrong := ⟨PySem.W.mg_of X G g_Wrong, ⟨_, _, _, _, _, _, _, _, _, _, _, _, _, _, _, cls_Wrong, ve_Wrong⟩, sa_Wrong, no_Wrong, k_Wrong, ex_Wrong, vs_Wrong, ty_Wrong, hd_Wrong, up_Wrong, opq_, self_Wrong, ⟨_, _, _, _, _, _, _, _, _, _, _, _, _, _, _, _, _, _, _, _, _, _, _, _, fi_Wrong, tI_Wrong, lI_Wrong, cd_Wrong, ⟨_, _, _, ce_Wrong⟩, _, _, _, _, _, _, co_Wrong, cv_Wrong, cf_Wrong, bi_Wrong, ev_Wrong⟩, topS_, PySem.W.mg_none_of X G sup_, by decide +kernel, by decide +kernel, by decide +kernel, by decide +kernel, by decide +kernel⟩
    C_Unlike := C_Unlike
    x_Unlike := ⟨PySem.W.mg_of X G g_Unlike, ex_Unlike, hd_Unlike, ty_Unlike, k_Unlike, ei_Unlike⟩
    xc_Wrong := ⟨xa_Wrong, xg_Wrong, ex_Wrong, hd_Wrong, xl_Wrong, xn_Wrong, xt_Wrong, xm_Wrong⟩
    xc_Unlike := ⟨xa_Unlike, xg_Unlike, ex_Unlike, hd_Unlike, xl_Unlike, xn_Unlike, xt_Unlike, xm_Unlike⟩
    ed_Unlike_Wrong := kitOne_exd ds_Unlike_Wrong dn_Unlike_Wrong hd_Wrong ty_Wrong
    ev_Wrong := kitOne_ve vs_Wrong
    em_Wrong_MoveError := PySem.W.exm_ref ex_MoveError hd_MoveError ty_MoveError sb_Wrong_MoveError
    em_Unlike_MoveError := PySem.W.exm_ref ex_MoveError hd_MoveError ty_MoveError sb_Unlike_MoveError
  })⟩
end
end Fm
open PySem PySem.W PyProof.Rows
set_option maxHeartbeats 0 in
theorem PySem.Challenge.cw_framemoves_k50_recipes_told_holds : PySem.Challenge.rw_framemoves_k50_recipes_told.Holds := by
  w_on; o_law; k_head; (case hw => w_witness2)
  k_fill
  refine Fm.walk_G (l := PySem.Challenge.rw_framemoves_k50_recipes_told) (n := 63) (k := 60) (x := "_law_script") (sp := Fm.sp_law) rfl (by decide) rfl ⟨rfl, by decide, by decide⟩ (fun w h Y => PySem.W.kIn_of Y) ?F (fun K H a ns hl hS => ⟨a, ns, rfl, hS, hl, fun _ => rfl⟩)
  case F =>
    intro w mg fa h KX G hmg
    refine' Fm.all_mk KX G hmg ?a0 ?l0 ?c0 ?k0 ?a1 ?l1 ?c1 ?k1 ?a2 ?l2 ?c2 ?k2 ?a3 ?l3 ?c3 ?k3 ?a4 ?l4 ?c4 ?k4 ?a5 ?l5 ?c5 ?k5 ?a6 ?l6 ?c6 ?k6 ?a7 ?l7 ?c7 ?k7 ?a8 ?l8 ?c8 ?k8 ?a9 ?l9 ?c9 ?k9 ?a10 ?l10 ?c10 ?k10 ?a11 ?l11 ?c11 ?k11 ?a12 ?l12 ?c12 ?k12 ?a13 ?l13 ?c13 ?k13 ?a14 ?l14 ?c14 ?k14 ?a15 ?l15 ?c15 ?k15 ?a16 ?l16 ?c16 ?k16 ?a17 ?l17 ?c17 ?k17 ?a18 ?l18 ?c18 ?k18 ?g_Recipe ?k_Recipe ?pg_Recipe ?ic_Recipe ?po_Recipe ?sa_Recipe ?mk_Recipe ?ca_Recipe ?cn_Recipe ?ct_Recipe ?cm_Recipe ?ne_Recipe ?tyc_Recipe ?mul_Recipe ?nl_Recipe ?nt_Recipe ?at_Recipe_its_terms ?get_Recipe_its_terms ?tk_Recipe_its_terms ?ty_Recipe_its_terms ?ix_Recipe_its_terms ?at_Recipe_its_variables ?get_Recipe_its_variables ?tk_Recipe_its_variables ?ty_Recipe_its_variables ?ix_Recipe_its_variables ?am_Recipe___init__ ?im_Recipe___init__ ?lm_Recipe___init__ ?co_Recipe___init__ ?km_Recipe___init__ ?pa_Recipe_variables ?pg_Recipe_variables ?pt_Recipe_variables ?pr_Recipe_variables ?lm_Recipe_variables ?co_Recipe_variables ?km_Recipe_variables ?pa_Recipe_terms ?pg_Recipe_terms ?pt_Recipe_terms ?pr_Recipe_terms ?lm_Recipe_terms ?co_Recipe_terms ?km_Recipe_terms ?sf_Recipe_keeping ?sr_Recipe_keeping ?sd_Recipe_keeping ?sg_Recipe_keeping ?st_Recipe_keeping ?lm_Recipe_keeping ?co_Recipe_keeping ?km_Recipe_keeping ?am_Recipe___call__ ?im_Recipe___call__ ?lm_Recipe___call__ ?co_Recipe___call__ ?km_Recipe___call__ ?am_Recipe___mul__ ?im_Recipe___mul__ ?lm_Recipe___mul__ ?co_Recipe___mul__ ?km_Recipe___mul__ ?am_Recipe___eq__ ?im_Recipe___eq__ ?lm_Recipe___eq__ ?co_Recipe___eq__ ?km_Recipe___eq__ ?am_Recipe___len__ ?im_Recipe___len__ ?lm_Recipe___len__ ?co_Recipe___len__ ?km_Recipe___len__ ?am_Recipe___repr__ ?im_Recipe___repr__ ?lm_Recipe___repr__ ?co_Recipe___repr__ ?km_Recipe___repr__ ?topS_ ?sup_ ?opq_ ?g_MoveError ?ex_MoveError ?hd_MoveError ?ty_MoveError ?g_Wrong ?ex_Wrong ?hd_Wrong ?ty_Wrong ?cls_Wrong ?ve_Wrong ?sa_Wrong ?no_Wrong ?k_Wrong ?vs_Wrong ?up_Wrong ?self_Wrong ?fi_Wrong ?tI_Wrong ?lI_Wrong ?cd_Wrong ?ce_Wrong ?co_Wrong ?cv_Wrong ?cf_Wrong ?bi_Wrong ?ev_Wrong ?g_Unlike ?ex_Unlike ?hd_Unlike ?ty_Unlike ?k_Unlike ?ei_Unlike ?z0 ?z1 ?z2 ?z3 ?z4 ?z5 ?z6 ?z7 ?z8 ?z9 ?z10 ?z11 ?y0 ?y1 ?y2 ?xa_Wrong ?xg_Wrong ?xl_Wrong ?xn_Wrong ?xt_Wrong ?xm_Wrong ?xa_Unlike ?xg_Unlike ?xl_Unlike ?xn_Unlike ?xt_Unlike ?xm_Unlike ?ds_Unlike_Wrong ?dn_Unlike_Wrong ?sb_Wrong_MoveError ?sb_Unlike_MoveError
    (case a0 => k_is); (case l0 => k_is); (case c0 => k_is); (case k0 => k_is); (case a1 => k_is); (case l1 => k_is); (case c1 => k_is); (case k1 => k_is); (case a2 => k_is); (case l2 => k_is); (case c2 => k_is); (case k2 => k_is); (case a3 => k_is); (case l3 => k_is); (case c3 => k_is); (case k3 => k_is); (case a4 => k_is); (case l4 => k_is); (case c4 => k_is); (case k4 => k_is); (case a5 => k_is); (case l5 => k_is); (case c5 => k_is); (case k5 => k_is); (case a6 => k_is); (case l6 => k_is); (case c6 => k_is); (case k6 => k_is); (case a7 => k_is); (case l7 => k_is); (case c7 => k_is); (case k7 => k_is); (case a8 => k_is); (case l8 => k_is); (case c8 => k_is); (case k8 => k_is); (case a9 => k_is); (case l9 => k_is); (case c9 => k_is); (case k9 => k_is); (case a10 => k_is); (case l10 => k_is); (case c10 => k_is); (case k10 => k_is); (case a11 => k_is); (case l11 => k_is); (case c11 => k_is); (case k11 => k_is); (case a12 => k_is); (case l12 => k_is); (case c12 => k_is); (case k12 => k_is); (case a13 => k_is); (case l13 => k_is); (case c13 => k_is); (case k13 => k_is); (case a14 => k_is); (case l14 => k_is); (case c14 => k_is); (case k14 => k_is); (case a15 => k_is); (case l15 => k_is); (case c15 => k_is); (case k15 => k_is); (case a16 => k_is); (case l16 => k_is); (case c16 => k_is); (case k16 => k_is); (case a17 => k_is); (case l17 => k_is); (case c17 => k_is); (case k17 => k_is); (case a18 => k_is); (case l18 => k_is); (case c18 => k_is); (case k18 => k_is); (case g_Recipe => k_is); (case k_Recipe => k_is); (case pg_Recipe => k_is); (case ic_Recipe => k_is); (case po_Recipe => k_is); (case sa_Recipe => k_is); (case mk_Recipe => k_is); (case ca_Recipe => k_is); (case cn_Recipe => k_is); (case ct_Recipe => k_is); (case cm_Recipe => k_is); (case ne_Recipe => k_is); (case tyc_Recipe => k_is); (case mul_Recipe => k_is); (case nl_Recipe => k_is); (case nt_Recipe => k_is); (case at_Recipe_its_terms => k_is); (case get_Recipe_its_terms => k_is); (case tk_Recipe_its_terms => k_is); (case ty_Recipe_its_terms => k_is); (case ix_Recipe_its_terms => k_is); (case at_Recipe_its_variables => k_is); (case get_Recipe_its_variables => k_is); (case tk_Recipe_its_variables => k_is); (case ty_Recipe_its_variables => k_is); (case ix_Recipe_its_variables => k_is); (case am_Recipe___init__ => k_is); (case im_Recipe___init__ => k_is); (case lm_Recipe___init__ => k_is); (case co_Recipe___init__ => k_is); (case km_Recipe___init__ => k_is); (case pa_Recipe_variables => k_is); (case pg_Recipe_variables => k_is); (case pt_Recipe_variables => k_is); (case pr_Recipe_variables => k_is); (case lm_Recipe_variables => k_is); (case co_Recipe_variables => k_is); (case km_Recipe_variables => k_is); (case pa_Recipe_terms => k_is); (case pg_Recipe_terms => k_is); (case pt_Recipe_terms => k_is); (case pr_Recipe_terms => k_is); (case lm_Recipe_terms => k_is); (case co_Recipe_terms => k_is); (case km_Recipe_terms => k_is); (case sf_Recipe_keeping => k_is); (case sr_Recipe_keeping => k_is); (case sd_Recipe_keeping => k_is); (case sg_Recipe_keeping => k_is); (case st_Recipe_keeping => k_is); (case lm_Recipe_keeping => k_is); (case co_Recipe_keeping => k_is); (case km_Recipe_keeping => k_is); (case am_Recipe___call__ => k_is); (case im_Recipe___call__ => k_is); (case lm_Recipe___call__ => k_is); (case co_Recipe___call__ => k_is); (case km_Recipe___call__ => k_is); (case am_Recipe___mul__ => k_is); (case im_Recipe___mul__ => k_is); (case lm_Recipe___mul__ => k_is); (case co_Recipe___mul__ => k_is); (case km_Recipe___mul__ => k_is); (case am_Recipe___eq__ => k_is); (case im_Recipe___eq__ => k_is); (case lm_Recipe___eq__ => k_is); (case co_Recipe___eq__ => k_is); (case km_Recipe___eq__ => k_is); (case am_Recipe___len__ => k_is); (case im_Recipe___len__ => k_is); (case lm_Recipe___len__ => k_is); (case co_Recipe___len__ => k_is); (case km_Recipe___len__ => k_is); (case am_Recipe___repr__ => k_is); (case im_Recipe___repr__ => k_is); (case lm_Recipe___repr__ => k_is); (case co_Recipe___repr__ => k_is); (case km_Recipe___repr__ => k_is); (case topS_ => rfl); (case sup_ => k_is); (case opq_ => k_is); (case g_MoveError => k_is); (case ex_MoveError => k_is); (case hd_MoveError => k_is); (case ty_MoveError => k_is); (case g_Wrong => k_is); (case ex_Wrong => k_is); (case hd_Wrong => k_is); (case ty_Wrong => k_is); (case cls_Wrong => k_is); (case ve_Wrong => decide +kernel); (case sa_Wrong => k_is); (case no_Wrong => k_is); (case k_Wrong => k_is); (case vs_Wrong => k_is); (case up_Wrong => ks_is); (case self_Wrong => k_is); (case fi_Wrong => k_is); (case tI_Wrong => k_is); (case lI_Wrong => k_is); (case cd_Wrong => k_is); (case ce_Wrong => k_is); (case co_Wrong => k_is); (case cv_Wrong => rfl); (case cf_Wrong => decide +kernel); (case bi_Wrong => exact fun _ _ => rfl); (case ev_Wrong => exact fun _ => ⟨_, rfl⟩); (case g_Unlike => k_is); (case ex_Unlike => k_is); (case hd_Unlike => k_is); (case ty_Unlike => k_is); (case k_Unlike => k_is); (case ei_Unlike => k_exc); (case z0 => k_is); (case z1 => k_is); (case z2 => k_is); (case z3 => k_is); (case z4 => k_is); (case z5 => k_is); (case z6 => k_is); (case z7 => k_is); (case z8 => k_is); (case z9 => k_is); (case z10 => k_is); (case z11 => k_is); (case y0 => k_is); (case y1 => k_is); (case y2 => k_is); (case xa_Wrong => k_is); (case xg_Wrong => k_is); (case xl_Wrong => k_is); (case xn_Wrong => k_is); (case xt_Wrong => k_is); (case xm_Wrong => k_is); (case xa_Unlike => k_is); (case xg_Unlike => k_is); (case xl_Unlike => k_is); (case xn_Unlike => k_is); (case xt_Unlike => k_is); (case xm_Unlike => k_is); (case ds_Unlike_Wrong => k_is); (case dn_Unlike_Wrong => decide +kernel); (case sb_Wrong_MoveError => k_is); (case sb_Unlike_MoveError => k_is)
