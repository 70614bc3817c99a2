import PyProof.Rows.All
import Wide.All
import OpenK.AllK
import Wide.FinOn
import HandS.ForMost
import HandS.IsInst
import HandS.TupAny
import HandS.Wide
import HandS.Deep
import HandS.SetKeys
import HandS.Style
import HandS.Conv
import PyProof.ReprRoads
import HandS.SetFor
import HandS.Strs
import HandS.Walk
import HandS.Sort
import HandS.TupLe
import PyProof.NeKinds
import PyProof.EqAt
import HandS.TupMul
import HandS.Evl
import PySem.Challenge.RW_framemoves_k11_kinds_known
set_option Elab.async false
set_option linter.all false
set_option maxRecDepth 100000
set_option maxHeartbeats 8000000
namespace Fm
open PySem PySem.Spec PyProof.Rows L2

/-! built-in names -/
theorem bt_len : bootBuiltins "len" = some (.builtin "len") := by decide +kernel
theorem bt_abs : bootBuiltins "abs" = some (.builtin "abs") := by decide +kernel
theorem bt_isinstance : bootBuiltins "isinstance" = some (.builtin "isinstance") := by decide +kernel
theorem bt_repr : bootBuiltins "repr" = some (.builtin "repr") := by decide +kernel
theorem bt_sum : bootBuiltins "sum" = some (.builtin "sum") := by decide +kernel
theorem bt_sorted : bootBuiltins "sorted" = some (.builtin "sorted") := by decide +kernel
theorem bt_all : bootBuiltins "all" = some (.builtin "all") := by decide +kernel
theorem bt_int : bootBuiltins "int" = some (.type "int") := by decide +kernel
theorem bt_tuple : bootBuiltins "tuple" = some (.type "tuple") := by decide +kernel
theorem bt_list : bootBuiltins "list" = some (.type "list") := by decide +kernel
theorem bt_dict : bootBuiltins "dict" = some (.type "dict") := by decide +kernel
theorem bt_set : bootBuiltins "set" = some (.type "set") := by decide +kernel
theorem bt_str : bootBuiltins "str" = some (.type "str") := by decide +kernel
theorem bt_bool : bootBuiltins "bool" = some (.type "bool") := by decide +kernel

section
variable {X : Cx} {e l : Expr} {pos : Pos}
theorem pe_ty {x : Str} {n : String} (hm : X.mg x = none) (hv : bootBuiltins x = some (.type n)) (hg : Gl X x := by rfl)
    (h1 : x ≠ "__name__" := by decide) (h2 : (x == ("__debug__" : Str)) = false := by decide) : PE X (.Name x pos) (tC (.ty n)) :=
  pe_bltn hg hm hv rfl h1 h2
/-- one of two readings, chosen ahead -/
theorem pe_or2 {t u : TE} (h : PE X e t) (k : PE X e u) : PE X e (fun σ H Q => t σ H Q ∨ u σ H Q) :=
  ⟨fun pins s σ H Q I q => q.elim (h.run pins s σ H Q I) (k.run pins s σ H Q I)⟩
theorem pi_or2 {tg : Expr} {t u : TI} (h : PI X tg e t) (k : PI X tg e u) : PI X tg e (fun σ H R => t σ H R ∨ u σ H R) :=
  ⟨fun pins s σ H R I q => q.elim (h.run pins s σ H R I) (k.run pins s σ H R I)⟩

def iSeq (K : PySem.W.Frag) (tl : TE) : TI := fun σ H R => tl σ H fun x H1 => ∃ a, x = .ref a ∧
  (((∃ xs, SqL K H1 a xs) ∧ R (Itl K a) H1) ∨ ((∃ xs, SqT K H1 a xs) ∧ R (Itt K a) H1))
theorem pi_seq {tg : Expr} {tl : TE} (hl : PE X l tl) : PI X tg l (iSeq X.K tl) := by
  refine ⟨fun pins s σ H R I h => thn (hl.run pins s σ H _ I h) ?_⟩
  rintro v s1 ⟨x, H1, I1, r1, a, rfl, q⟩
  cases r1
  have fp : ∀ b ∈ [s1.heap.objs.size], FpOk X pins H1 b := fun b hb => by
    rw [List.mem_singleton.mp hb]
    exact I1.fpOk (Nat.le_refl _) (I1.hok.fresh (Nat.le_refl _))
  rcases q with ⟨⟨xs, hq⟩, q⟩ | ⟨⟨xs, hq⟩, q⟩
  · obtain ⟨its, rv, p, hz⟩ := I1.list hq
    exact wpAny_pyIter_list p.isList ⟨_, _, _, _, H1, rfl, I1.kept (t' := s1.toks) fun b o e => Heap.get?_push_of_some _ e, turn_list a _,
      ⟨_, Heap.get?_push_size _ rfl, rfl, rfl⟩, fp, q⟩
  · obtain ⟨its, rv, p, hz⟩ := I1.tuple hq
    exact wpAny_pyIter_tuple (show s1.heap.IsTuple a its.toArray from p) ⟨_, _, _, _, H1, rfl, I1.kept (t' := s1.toks) fun b o e => Heap.get?_push_of_some _ e, turn_tuple a _,
      ⟨_, Heap.get?_push_size _ rfl, rfl, rfl⟩, fp, q⟩

/-! operators by what stands there -/
def rAddS : R2 := fun x y H Q => ∃ i j, x = .str i ∧ y = .str j ∧ i.length + j.length ≤ sizeLine ∧ Q (.str (i ++ j)) H
def rAddG (K : PySem.W.Frag) : R2 := fun x y H Q => rI0 (fun i j => .int (i + j)) x y H Q ∨ (rAddS x y H Q ∨ (rCatA K x y H Q ∨ rCat x y H Q))
theorem op_addG : OpR X (binaryOp .Add) (rAddG X.K) := OpR.or op_add (OpR.or op_add_str (OpR.or op_catA op_cat))
def rMulG : R2 := fun x y H Q => rI CMul (fun i j => .int (i * j)) x y H Q ∨ rRep x y H Q
theorem op_mulG : OpR X (binaryOp .Mult) rMulG := OpR.or op_mul op_rep
def rEqG (K : PySem.W.Frag) : R2 := fun x y H Q => rEq x y H Q ∨ rEqD K x y H Q
theorem op_eqG (hu : X.A.units + 64 < cLine) : OpR X (compareOp .Eq) (rEqG X.K) := OpR.or op_eq (op_eqD hu)
def rNeG (K : PySem.W.Frag) : R2 := fun x y H Q => rNe x y H Q ∨ rNeD K x y H Q
theorem op_neG (hu : X.A.units + 64 < cLine) : OpR X (compareOp .NotEq) (rNeG X.K) := OpR.or op_ne (op_neD hu)
def rInSig : R2 := fun x y H Q => ∃ (c : Nat) (z : Str), x = .str ⟨#[c]⟩ ∧ y = .str z ∧ Q (.bl (decide (c ∈ z.cps.toList))) H
def rInG (K : PySem.W.Frag) : R2 := fun x y H Q => rInD K x y H Q ∨ rInSig x y H Q
theorem op_inG (hu : X.A.units + 65 < cLine) : OpR X (compareOp .In) (rInG X.K) := OpR.or (op_inD hu) op_in_sign
def rNotInSig : R2 := fun x y H Q => ∃ (c : Nat) (z : Str), x = .str ⟨#[c]⟩ ∧ y = .str z ∧ Q (.bl (!decide (c ∈ z.cps.toList))) H
def rNotInG (K : PySem.W.Frag) : R2 := fun x y H Q => rNotInD K x y H Q ∨ rNotInSig x y H Q
theorem op_notInG (hu : X.A.units + 65 < cLine) : OpR X (compareOp .NotIn) (rNotInG X.K) := OpR.or (op_notInD hu) op_notIn_sign
/-- len -/
def rLenG (K : PySem.W.Frag) : List V → Hp → VK → Prop := fun xs H Q =>
  (∃ p ys, xs = [.ref p] ∧ (SqL K H p ys ∨ SqT K H p ys) ∧ Q (.int ys.length) H) ∨ ((∃ z : Str, xs = [.str z] ∧ z.length ≤ sizeLine ∧ Q (.int z.length) H) ∨
    (∃ a kvs, xs = [V.ref a] ∧ H a = some (.dK kvs) ∧ Q (.int kvs.length) H))
theorem call_lenG : CallR X (.builtin "len") (rLenG X.K) := CallR.or call_len_seq (CallR.or call_len_str call_lenD)
/-- tuple(x), list(x) -/
def rTupOf (K : PySem.W.Frag) : List V → Hp → VK → Prop := fun xs H Q => ∃ p ys, xs = [.ref p] ∧ ((SqL K H p ys ∧ ∀ l, H l = none → Q (.ref l) (upd H l (.tup ys))) ∨ (SqT K H p ys ∧ Q (.ref p) H))
theorem call_tupG : CallR X (.type "tuple") (rTupOf X.K) := call_tuple_of
def rListOf (K : PySem.W.Frag) : List V → Hp → VK → Prop := fun xs H Q => ∃ p ys, xs = [.ref p] ∧ (SqL K H p ys ∨ SqT K H p ys) ∧ ∀ l, H l = none → Q (.ref l) (upd H l (.lst ys))
theorem call_listG : CallR X (.type "list") (rListOf X.K) := call_list_of
/-- slices -/
def rSlG (K : PySem.W.Frag) : V → Option Int → Option Int → Hp → VK → Prop := fun x lo hi H Q => rSlL K x lo hi H Q ∨ (rSlA K x lo hi H Q ∨ rSlS x lo hi H Q)
theorem sl_G : SlR X (rSlG X.K) := SlR.or sl_list (SlR.or sl_tupA sl_str)
end
end Fm
namespace Fm
open PySem PySem.Spec PyProof.Rows L2
/-! list.extend by a tuple, whatever its own dict and slots -/
theorem ext_tup (l b : Addr) (as bs : Array Value) (n m : Nat) (dd : Option Addr) (sl : Array (Option Value))
    (h0 : ¬(!as.isEmpty && Builtin.List.listTooLong (as.size + bs.size)) = true) (h1 : as.size ≤ sizeLine) (h2 : as.size + bs.size ≤ sizeLine + 1) :
    Meets (Builtin.«list.extend» ⟨[.ref l, .ref b], []⟩) (fun _ R s =>
      s.heap.get? l = some { cls := .type "list", dict := none, data := .seq as n, slots := #[] } ∧
      s.heap.get? b = some { cls := .type "tuple", dict := dd, data := .seq bs m, slots := sl } ∧
      R (.ok (.ret Value.none)) { s with heap := s.heap.update l (Obj.mapSeq fun x => x ++ bs), toks := s.toks }) := by
  refine .of_wp fun prog w A R s h => ?_
  obtain ⟨hp, g, d, tk, os⟩ := s
  obtain ⟨ha, hb, hr⟩ := h
  have q1 := AutoSeq1.idx_int
  have q2 := AutoSeq1.sub_tuple_tuple
  have q3 := AutoSeq1.sub_list_list
  have q4 := AutoSeq1.sub_tuple_list
  have q5 := AutoSeq1.sub_list_tuple
  have hz : (as ++ bs).size ≤ sizeLine + 1 := by
    rw [Array.size_append]
    exact h2
  wp_walk using (wpAny_updateSeq ha rfl (hz := h1) (_hz' := hz)), AutoSeq1.wpAny_loadPart' ha, AutoSeq1.wpAny_loadPart' hb
  exact ⟨_, rfl, hr⟩
section
variable {X : Cx}
def rExtT (K : PySem.W.Frag) : V → List V → Hp → VK → Prop := fun x vs H Q => ∃ l b xs zs, x = .ref l ∧ vs = [.ref b] ∧ H l = some (.lst xs) ∧ SqT K H b zs ∧
  xs.length + zs.length ≤ sizeLine ∧ Q .non (upd H l (.lst (xs ++ zs)))
theorem mt_extT : MtR X "list.extend" (rExtT X.K) := by
  intro pins s σ H x vs v us Q I rx rv h
  obtain ⟨l, b, xs, zs, rfl, rfl, hH, hB, hz, q⟩ := h
  cases rx
  obtain ⟨u, rfl, ru⟩ := rv.one
  cases ru
  obtain ⟨z, its, n, r, hl, e⟩ := I.lstM hH
  obtain ⟨its2, r2, ⟨⟨cls, dd, data, sl⟩, ho, hc, m, hd⟩, hz2⟩ := I.tuple hB
  simp only at hc hd
  subst hc hd
  have e1 := r.length
  have e2 := r2.length
  have hs : its.toArray.size + its2.toArray.size ≤ sizeLine := by
    rw [List.size_toArray, List.size_toArray]
    omega
  have hlong : ¬ (!its.toArray.isEmpty && Builtin.List.listTooLong (its.toArray.size + its2.toArray.size)) = true := by
    rw [notLongL hs, Bool.and_false]
    exact Bool.false_ne_true
  refine call_meets PySem.F.slot_list_extend ⟨_, e, rfl⟩ PySem.F.entry_list_extend (PySem.F.args_list_extend_2 _ _)
    (ext_tup l b its.toArray its2.toArray n m dd sl hlong (by rw [List.size_toArray]; omega) (by omega)) ⟨e, ho, ?_⟩
  refine ⟨.non, _, I.lset (its' := its ++ its2) hH e (by simp) (r.append r2) ?_, rfl, q⟩
  rw [List.length_append]
  omega
def rExtG (K : PySem.W.Frag) : V → List V → Hp → VK → Prop := fun x vs H Q => rExtend x vs H Q ∨ rExtT K x vs H Q
theorem mt_extendG : MtR X "list.extend" (rExtG X.K) := MtR.or mt_extend mt_extT

/-! repr of data, where no repr is under way -/
def rReprG (K : PySem.W.Frag) : List V → Hp → VK → Prop := fun xs H Q => ∃ (x : V) (d : PyData), xs = [x] ∧ Dp K H x d ∧ d.showable = true ∧ d.hasDict = false ∧ d.depth ≤ 60 ∧ d.shown.length ≤ sizeLine ∧ Q (.str d.shown) H
theorem call_reprG (hg : X.A.guards = some []) (hu : X.A.units + 64 < cLine) : CallR X (.builtin "repr") (rReprG X.K) := by
  intro pins s σ H xs us Q I rv h
  obtain ⟨x, d, rfl, hd, hs, hn, hdp, hz, q⟩ := h
  obtain ⟨u, rfl, ru⟩ := rv.one
  obtain ⟨as, R⟩ := Dp.reads I d x u hd ru
  have fin : ∀ h' (t : Tok) tk, (∀ b o, s.heap.get? b = some o → h'.get? b = some o) → EP X pins σ Q (.str d.shown t) { s with heap := h', toks := tk } := fun h' t tk hk =>
    ⟨.str d.shown, H, I.kept (h' := h') (t' := tk) hk, ⟨t, rfl⟩, q⟩
  cases hd with
  | non =>
    cases ru
    exact PySem.P.repr_of_none (fin s.heap _ _ fun _ _ e => e)
  | bl b =>
    cases ru
    exact PySem.P.repr_of_bool (fin s.heap _ _ fun _ _ e => e)
  | int i =>
    obtain ⟨t, rfl⟩ := ru
    exact PySem.P.repr_of_int (by simpa [PyData.showable] using hs) (fin s.heap _ _ fun _ _ e => e)
  | str y =>
    obtain ⟨t, rfl⟩ := ru
    exact PySem.P.repr_of_str (fin s.heap _ _ fun _ _ e => e) hz
  | lst h1 h2 =>
    cases ru
    exact PySem.repr_of_reads' R hs (fun c => by rw [hn] at c; cases c) hg (by omega) (fun _ _ e => e) (fun h' t tk hk => fin h' t tk hk) hz
  | tup h1 h2 =>
    cases ru
    exact PySem.repr_of_reads' R hs (fun c => by rw [hn] at c; cases c) hg (by omega) (fun _ _ e => e) (fun h' t tk hk => fin h' t tk hk) hz
end

/-! defs that may ask for a repr: called where none is under way -/
structure FnOkG (P : Program) (w : World) (K : PySem.W.Frag) (mg : Str → Option Value) (base : Heap) (CX : CXT) (k : Nat) (f : Addr) (fd : FuncData) (ps : List Str) (sp : Sp) : Prop where
  len : ∀ vs H Q E, sp vs H Q E → vs.length = ps.length
  run : ∀ (A : Around) (outer : List Env) (s : Shared) (H : Hp) (args : Args) (us : List Value) (vs : List V) (Q : VK) (E : XK), A.guards = some [] → Room k A →
    Env0 P w K mg base A outer s H → BindsTo s fd args (ps.zip us) → Vals vs us → sp vs H Q E → codeAny (model P w) A (.call (.ref f) args) (CR CX outer P w H s Q E) s
section
variable {P : Program} {w : World} {K : PySem.W.Frag} {mg : Str → Option Value} {base : Heap} {CX : CXT}
theorem FnOkG.mono {j k : Nat} {f : Addr} {fd : FuncData} {ps : List Str} {sp : Sp} (F : FnOkG P w K mg base CX j f fd ps sp) (h : j ≤ k) : FnOkG P w K mg base CX k f fd ps sp :=
  ⟨F.len, fun A outer s H args us vs Q E hg hr => F.run A outer s H args us vs Q E hg (hr.mono h)⟩
theorem guards_deeper (A : Around) (env : Env) (h : A.guards = some []) : (A.deeper env).guards = some [] := by
  first | exact h | simpa [Around.deeper] using h
/-- a def's promise by its body, as Fun.ok says it, with the guards known -/
theorem okG {x qual : Str} {st : Stmt} {f : Addr} {fd : FuncData} {N ps : List Str} {k : Nat} {sp : Sp} (F : Fun K x qual st f fd) (S : FnScope N ps (defScope st))
    (len : ∀ vs H Q E, sp vs H Q E → vs.length = ps.length)
    (body : ∀ (cdv : Value) (A : Around) (outer : List Env) (s : Shared) (H : Hp) (vs : List V) (Q : VK) (E : XK),
      (A.deeper (envOfC qual (defScope st) s.heap.objs.size f cdv)).guards = some [] → Room k (A.deeper (envOfC qual (defScope st) s.heap.objs.size f cdv)) → sp vs H Q E →
      ∃ t, PSs (cxOf CX0 P w K mg base N qual (defScope st) f cdv A outer s H E).nox (defBody st) t ∧ t { nx := fun _ H' => Q .non H', rt := Q } (start N vs) H) :
    FnOkG P w K mg base CX0 (k + 1) f fd ps sp := by
  obtain ⟨oc, od, kV, doc, pm, an, cdv, ct, osl, rfl, lk, hcd⟩ := F.ex
  refine ⟨len, fun A outer s H args us vs Q E hg hr e0 hb rv hsp => ?_⟩
  have KX : K.In s.heap := e0.mod.kin.keeps fun b o e => (e0.bs b o e).1
  have lim : s.heap.NoLimit := e0.mod.nolimit.keeps fun b o e => (e0.bs b o e).1
  refine codeAny_call_function hr.depth (KX _ _ lk) rfl S.co S.gen rfl (PySem.W.codeRec_of KX hcd) (hb _ _ _ _ ?_)
  refine wpAny_newFunctionEnv_cells S.kind (fun y hy => ?_) fun env he s1 ic => ?_
  · rcases S.par y.1 (List.of_mem_zip (show (y.1, y.2) ∈ ps.zip us from hy)).1 with q | q
    · exact .inl q
    · exact .inr ⟨q, PySem.W.cellsFrom_some _ _ _ (.inl q)⟩
  · subst he
    refine ⟨lim.keeps ic.toInCall.keep, codeAny_func ?_⟩
    obtain ⟨t, ht, hq⟩ := body cdv A outer s H vs Q E (guards_deeper A _ hg) (hr.deeper _) hsp
    have I := inv_start (CX := CX0) (N := N) (E := E) S hr.hd e0 (len _ _ _ _ hsp) rv ic
    refine wpAny_mono (ht.nox.run [] s1 (start N vs) H _ I hq) (fun fl s' hs => ?_) fun e s' hs => hs
    cases fl with
    | ret u =>
      obtain ⟨v, σ', H', J, r', q⟩ := hs
      exact ⟨v, H', J.os, J.bare, J.base, J.hok, r', q⟩
    | next =>
      obtain ⟨σ', H', J, q⟩ := hs
      exact ⟨.non, H', J.os, J.bare, J.base, J.hok, rfl, q⟩
    | brk =>
      obtain ⟨_, _, _, q⟩ := hs
      exact q.elim
    | cont =>
      obtain ⟨_, _, _, q⟩ := hs
      exact q.elim
end
section
variable {X : Cx} {CX : CXT} {k : Nat} {f : Addr} {fd : FuncData} {ps : List Str} {sp : Sp} {dvs : List V} {ds : List Value} {E : XK} {x : Str} {p pos : Pos} {e : Expr} {es : List Expr} {t : TA}
theorem pe_callG (F : FnOkG X.prog X.w X.K X.mg X.base CX k f fd ps sp) (hgd : X.A.guards = some []) (hr : Room k X.A) (hg : Gl X x) (hm : X.mg x = some (.ref f))
    (hk : PySem.W.keepIn X.K (.ref f) = true) (hb : Binds X.K fd ps ds) (hd : Vals dvs ds) (hx : Passes CX X E) (ha : PA X (e :: es) t) (hdb : (x == ("__debug__" : Str)) = false := by decide)
    (he : starEach (e :: es) X.env = (false, eval e X.env) :: starEach es X.env := by rfl) (hpl : (backTo pos (starEach es X.env)).any (·.1) = false := by rfl) :
    PE X (.Call (.Name x p) (e :: es) [] pos) (tCall sp dvs E t) := by
  refine ⟨fun pins s σ H Q I h => wpAny_Call_Name_kw (ld_glob I hg hm ?_ hdb)⟩
  refine PySem.W.callWith_K (h₀ := X.base) I.ok.mod.kin hk (thn (ha.run pos pins s σ H _ I h) ?_) he hpl
  rintro us s1 ⟨vs, H1, I1, rv, q⟩
  refine ⟨I1.kIn, ?_⟩
  have r2 := rv.append hd
  have hl : (us ++ ds).length = ps.length := by
    rw [← r2.length]
    exact F.len _ _ _ _ q
  refine wpAny_call (codeAny_mono (F.run X.A X.stack s1 H1 ⟨us, []⟩ _ _ Q E hgd hr I1.env0 (hb s1 us I1.kIn hl) r2 q) fun r s' hq => ?_)
  match r, hq with
  | .error e, hq => exact hx pins σ H1 s1 e s' I1 hq
  | .ok (.ret u), hq => exact I1.after hq
end
end Fm
namespace Fm
open PySem PySem.Spec PyProof.Rows L2

/-! heaps: what a step leaves -/
/-- tuples stay; all else stays but what stands in S -/
structure Mv (S : List Addr) (H H' : Hp) : Prop where
  tk : ∀ a xs, Rd H a (.tup xs) → Rd H' a (.tup xs)
  keep : ∀ a o, a ∉ S → H a = some o → H' a = some o
section
variable {S T : List Addr} {H H1 H2 : Hp} {p : Addr} {o : HO}
theorem Mv.refl : Mv S H H := ⟨fun _ _ h => h, fun _ _ _ h => h⟩
theorem Mv.trans (a : Mv S H H1) (b : Mv S H1 H2) : Mv S H H2 := ⟨fun c xs h => b.tk c xs (a.tk c xs h), fun c u n h => b.keep c u n (a.keep c u n h)⟩
theorem Mv.mono (a : Mv S H H1) (h : ∀ x ∈ S, x ∈ T) : Mv T H H1 := ⟨a.tk, fun c u n e => a.keep c u (fun z => n (h c z)) e⟩
theorem Mv.of_same (h : Same H H1) : Mv S H H1 := ⟨fun a xs r => r.elim (fun r => .inl (h _ _ r)) fun ⟨o, r⟩ => .inr ⟨o, h _ _ r⟩, fun a o _ e => h a o e⟩
theorem same_new (h : H p = none) : Same H (upd H p o) := fun a u e => by
  rw [upd_ne (ne_of_none e h)]
  exact e
theorem Mv.new (h : H p = none) : Mv S H (upd H p o) := .of_same (same_new h)
theorem Mv.free (a : Mv [] H H1) (h : H1 p = none) : H p = none := by
  cases q : H p with
  | none => rfl
  | some u =>
    rw [a.keep p u (List.not_mem_nil) q] at h
    cases h
theorem Mv.same (a : Mv [] H H1) : Same H H1 := fun c u e => a.keep c u List.not_mem_nil e
/-- what H does not know may be written -/
theorem Mv.wr (a : Mv S H H1) (h : H p = none) : Mv S H (upd H1 p o) := by
  refine ⟨fun c xs r => ?_, fun c u n e => ?_⟩
  · have hc : c ≠ p := by
      rintro rfl
      rcases r with r | ⟨u, r⟩ <;> (rw [h] at r; cases r)
    rcases a.tk c xs r with r | ⟨u, r⟩
    · exact .inl (by rw [upd_ne hc]; exact r)
    · exact .inr ⟨u, by rw [upd_ne hc]; exact r⟩
  · rw [upd_ne (ne_of_none e h)]
    exact a.keep c u n e
/-- a list that stands in S may be written -/
theorem Mv.set {xs : List V} (h : H p = some (.lst xs)) (hp : p ∈ S) : Mv S H (upd H p o) := by
  refine ⟨fun c ys r => ?_, fun c u n e => ?_⟩
  · have hc : c ≠ p := by
      rintro rfl
      rcases r with r | ⟨u, r⟩ <;> (rw [h] at r; cases r)
    rcases r with r | ⟨u, r⟩
    · exact .inl (by rw [upd_ne hc]; exact r)
    · exact .inr ⟨u, by rw [upd_ne hc]; exact r⟩
  · have hc : c ≠ p := fun z => n (by rw [z]; exact hp)
    rw [upd_ne hc]
    exact e
theorem Mv.sqT {K : PySem.W.Frag} {a : Addr} {xs : List V} (m : Mv S H H1) (h : SqT K H a xs) : SqT K H1 a xs := h.elim (fun h => .inl (m.tk a xs h)) .inr
end

/-! data without lists and dicts -/
mutual
def imm : PyData → Bool
  | .none | .bool _ | .int _ | .str _ => true
  | .tuple xs => immAll xs
  | .list _ => false
  | .dict _ => false
def immAll : List PyData → Bool
  | [] => true
  | x :: xs => imm x && immAll xs
end
theorem immAll_iff : ∀ {xs : List PyData}, immAll xs = true ↔ ∀ x ∈ xs, imm x = true
  | [] => by simp [immAll]
  | x :: xs => by simp [immAll, immAll_iff]
structure Im (K : PySem.W.Frag) (H : Hp) (v : V) (d : PyData) : Prop where
  dp : Dp K H v d
  im : imm d = true
structure Ims (K : PySem.W.Frag) (H : Hp) (vs : List V) (ds : List PyData) : Prop where
  dp : DpAll K H vs ds
  im : immAll ds = true
section
variable {K : PySem.W.Frag} {S : List Addr} {H H' : Hp}
mutual
theorem dp_mv (m : Mv S H H') : ∀ (d : PyData) (v : V), imm d = true → Dp K H v d → Dp K H' v d
  | .none, _, _, h => by cases h; exact .non
  | .bool b, _, _, h => by cases h; exact .bl b
  | .int i, _, _, h => by cases h; exact .int i
  | .str x, _, _, h => by cases h; exact .str x
  | .tuple ds, _, i, h => by
    cases h with
    | tup hs ha => exact .tup (m.sqT hs) (dps_mv m ds _ (by simpa [imm] using i) ha)
  | .list ds, _, i, _ => by simp [imm] at i
  | .dict _, _, _, h => by cases h
theorem dps_mv (m : Mv S H H') : ∀ (ds : List PyData) (vs : List V), immAll ds = true → DpAll K H vs ds → DpAll K H' vs ds
  | [], _, _, h => by cases h; exact .nil
  | d :: ds, _, i, h => by
    cases h with
    | cons h1 h2 =>
      have i' : imm d = true ∧ immAll ds = true := by simpa [immAll] using i
      exact .cons (dp_mv m d _ i'.1 h1) (dps_mv m ds _ i'.2 h2)
end
theorem Im.mv {v : V} {d : PyData} (h : Im K H v d) (m : Mv S H H') : Im K H' v d := ⟨dp_mv m d v h.im h.dp, h.im⟩
theorem Ims.mv {vs : List V} {ds : List PyData} (h : Ims K H vs ds) (m : Mv S H H') : Ims K H' vs ds := ⟨dps_mv m ds vs h.im h.dp, h.im⟩
theorem Ims.nil : Ims K H [] [] := ⟨.nil, rfl⟩
theorem Ims.cons {v : V} {vs : List V} {d : PyData} {ds : List PyData} (h : Im K H v d) (k : Ims K H vs ds) : Ims K H (v :: vs) (d :: ds) := ⟨.cons h.dp k.dp, by simp [immAll, h.im, k.im]⟩
theorem Ims.inv {v : V} {vs : List V} {ds : List PyData} (h : Ims K H (v :: vs) ds) : ∃ d ds', ds = d :: ds' ∧ Im K H v d ∧ Ims K H vs ds' := by
  obtain ⟨h, i⟩ := h
  cases h with
  | cons h1 h2 =>
    simp only [immAll, Bool.and_eq_true] at i
    exact ⟨_, _, rfl, ⟨h1, i.1⟩, h2, i.2⟩
theorem Ims.invD {vs : List V} {d : PyData} {ds : List PyData} (h : Ims K H vs (d :: ds)) : ∃ v vs', vs = v :: vs' ∧ Im K H v d ∧ Ims K H vs' ds := by
  obtain ⟨h, i⟩ := h
  cases h with
  | cons h1 h2 =>
    simp only [immAll, Bool.and_eq_true] at i
    exact ⟨_, _, rfl, ⟨h1, i.1⟩, h2, i.2⟩
theorem Ims.nilV {ds : List PyData} (h : Ims K H [] ds) : ds = [] := by
  obtain ⟨h, i⟩ := h
  cases h
  rfl
theorem Ims.nilD {vs : List V} (h : Ims K H vs []) : vs = [] := by
  obtain ⟨h, i⟩ := h
  cases h
  rfl
theorem Ims.length : ∀ {ds : List PyData} {vs : List V}, Ims K H vs ds → vs.length = ds.length
  | [], _, h => by rw [h.nilD]; rfl
  | d :: ds, _, h => by
    obtain ⟨v, vs', rfl, _, k⟩ := h.invD
    simp [k.length]
theorem Ims.append : ∀ {ds es : List PyData} {vs us : List V}, Ims K H vs ds → Ims K H us es → Ims K H (vs ++ us) (ds ++ es)
  | [], _, _, _, h, k => by rw [h.nilD]; exact k
  | d :: ds, _, _, _, h, k => by
    obtain ⟨v, vs', rfl, h1, h2⟩ := h.invD
    exact .cons h1 (h2.append k)
theorem Ims.get : ∀ {ds : List PyData} {vs : List V} {i : Nat} {v : V}, Ims K H vs ds → vs[i]? = some v → ∃ d, ds[i]? = some d ∧ Im K H v d
  | [], _, _, _, h, e => by rw [h.nilD] at e; simp at e
  | d :: ds, _, 0, _, h, e => by
    obtain ⟨v, vs', rfl, h1, h2⟩ := h.invD
    simp at e
    subst e
    exact ⟨d, rfl, h1⟩
  | d :: ds, _, i + 1, _, h, e => by
    obtain ⟨v, vs', rfl, h1, h2⟩ := h.invD
    exact h2.get (i := i) (by simpa using e)
theorem Ims.getD : ∀ {ds : List PyData} {vs : List V} {i : Nat} {d : PyData}, Ims K H vs ds → ds[i]? = some d → ∃ v, vs[i]? = some v ∧ Im K H v d
  | [], _, _, _, h, e => by simp at e
  | d :: ds, _, 0, _, h, e => by
    obtain ⟨v, vs', rfl, h1, h2⟩ := h.invD
    simp at e
    subst e
    exact ⟨v, rfl, h1⟩
  | d :: ds, _, i + 1, _, h, e => by
    obtain ⟨v, vs', rfl, h1, h2⟩ := h.invD
    exact h2.getD (i := i) (by simpa using e)
theorem Im.tupI {v : V} {ds : List PyData} (h : Im K H v (.tuple ds)) : ∃ a xs, v = .ref a ∧ SqT K H a xs ∧ Ims K H xs ds := by
  obtain ⟨h, i⟩ := h
  cases h with
  | tup hs ha => exact ⟨_, _, rfl, hs, ha, by simpa [imm] using i⟩
theorem Im.tup {a : Addr} {xs : List V} {ds : List PyData} (h : SqT K H a xs) (k : Ims K H xs ds) : Im K H (.ref a) (.tuple ds) := ⟨.tup h k.dp, by simpa [imm] using k.im⟩
theorem Im.int (i : Int) : Im K H (.int i) (.int i) := ⟨.int i, rfl⟩
theorem Im.str (x : Str) : Im K H (.str x) (.str x) := ⟨.str x, rfl⟩
theorem Im.bl (b : Bool) : Im K H (.bl b) (.bool b) := ⟨.bl b, rfl⟩
theorem Im.non : Im K H .non .none := ⟨.non, rfl⟩
theorem Im.intI {v : V} {i : Int} (h : Im K H v (.int i)) : v = .int i := by
  obtain ⟨h, _⟩ := h
  cases h
  rfl
theorem Im.strI {v : V} {x : Str} (h : Im K H v (.str x)) : v = .str x := by
  obtain ⟨h, _⟩ := h
  cases h
  rfl
end

/-! the bag of draws -/
def BagC (H : Hp) (b c : Addr) : Prop := ∃ (s m k : Int) (ns : List Int), H b = some (.lst [.int s, .int m, .int k, .ref c]) ∧ H c = some (.lst (ns.map V.int)) ∧ ns.length ≤ 63 ∧
  (∀ n ∈ ns, 0 ≤ n) ∧ 0 ≤ s ∧ 0 ≤ k ∧ 0 ≤ m
def Bag (H : Hp) (b : Addr) : Prop := ∃ c, BagC H b c
theorem BagC.lst {H : Hp} {b c : Addr} (h : BagC H b c) : ∃ xs, H b = some (.lst xs) := by
  obtain ⟨s, m, k, ns, h, _⟩ := h
  exact ⟨_, h⟩
theorem Bag.lst {H : Hp} {b : Addr} (h : Bag H b) : ∃ xs, H b = some (.lst xs) := h.elim fun _ h => h.lst
theorem Bag.ne {H : Hp} {b c : Addr} {xs : List V} {ns : List Int} (h : H b = some (.lst (xs ++ [.ref c]))) (k : H c = some (.lst (ns.map V.int))) : c ≠ b := by
  rintro rfl
  rw [h] at k
  have e : xs ++ [V.ref c] = ns.map V.int := by
    have := Option.some.inj k
    injection this
  have : V.ref c ∈ ns.map V.int := by
    rw [← e]
    simp
  obtain ⟨n, _, q⟩ := List.mem_map.mp this
  cases q
theorem BagC.mv {H H' : Hp} {b c : Addr} (h : BagC H b c) (m : Mv [] H H') : BagC H' b c := by
  obtain ⟨s, m', k, ns, h1, h2, r⟩ := h
  exact ⟨s, m', k, ns, m.same _ _ h1, m.same _ _ h2, r⟩
theorem Bag.mv {H H' : Hp} {b : Addr} (h : Bag H b) (m : Mv [] H H') : Bag H' b := h.elim fun c h => ⟨c, h.mv m⟩
/-- a step that may draw from the bag -/
structure Dr (b : Addr) (H H' : Hp) : Prop where
  mv : Mv [b] H H'
  bagC : ∀ c, BagC H b c → BagC H' b c
section
variable {b p : Addr} {H H' H1 H2 : Hp} {o : HO}
theorem Dr.bag (x : Dr b H H') (h : Bag H b) : Bag H' b := h.elim fun c h => ⟨c, x.bagC c h⟩
theorem Dr.refl : Dr b H H := ⟨.refl, fun _ h => h⟩
theorem Dr.trans (x : Dr b H H1) (y : Dr b H1 H2) : Dr b H H2 := ⟨x.mv.trans y.mv, fun c h => y.bagC c (x.bagC c h)⟩
theorem Dr.of (x : Mv [] H H1) : Dr b H H1 := ⟨x.mono (by simp), fun _ h => h.mv x⟩
theorem Dr.new (h : H p = none) : Dr b H (upd H p o) := .of (.new h)
theorem Dr.free (d : Dr b H H') (hB : Bag H b) (h : H' p = none) : H p = none := by
  cases q : H p with
  | none => rfl
  | some u =>
    by_cases e : p = b
    · subst e
      obtain ⟨xs, hx⟩ := (d.bag hB).lst
      rw [hx] at h
      cases h
    · rw [d.mv.keep p u (by simpa using e) q] at h
      cases h
theorem Dr.get (d : Dr b H H') (hp : p ≠ b) (h : H p = some o) : H' p = some o := d.mv.keep p o (by simpa using hp) h
theorem Dr.wr (d : Dr b H H') (hp : H p = none) : Dr b H (upd H' p o) := by
  refine ⟨d.mv.wr hp, fun c hB => ?_⟩
  obtain ⟨s', m', k', ns', h1', h2', r'⟩ := d.bagC c hB
  obtain ⟨s, m, k, ns, h1, h2, r⟩ := hB
  exact ⟨s', m', k', ns', by rw [upd_ne (ne_of_none h1 hp)]; exact h1', by rw [upd_ne (ne_of_none h2 hp)]; exact h2', r'⟩
theorem Dr.mkc {c : Addr} (m : Mv [b] H H') (h : BagC H b c) (h' : BagC H' b c) : Dr b H H' := ⟨m, fun d k => by
  obtain ⟨_, _, _, _, h1, _⟩ := h
  obtain ⟨_, _, _, _, k1, _⟩ := k
  rw [h1] at k1
  have e := Option.some.inj k1
  injection e with e
  injection e with _ e
  injection e with _ e
  injection e with _ e
  injection e with e _
  injection e with e
  rw [← e]
  exact h'⟩
theorem Bag.fneq (h : Bag H b) (hp : H p = none) : p ≠ b := by
  rintro rfl
  obtain ⟨xs, e⟩ := h.lst
  rw [e] at hp
  cases hp
end

/-! items of a list, by values -/
section
variable {X : Cx}
def rGetL (K : PySem.W.Frag) : V → V → Hp → VK → Prop := fun o i H Q => ∃ (p : Addr) (xs : List V) (j : Nat) (v : V), o = .ref p ∧ i = .int (j : Nat) ∧ SqL K H p xs ∧ xs[j]? = some v ∧ Q v H
theorem get_G : PGet X (rGetL X.K) := by
  intro pins s σ H o i ov iv Q I ro ri h
  obtain ⟨p, xs, j, v, rfl, rfl, hq, he, q⟩ := h
  cases ro
  obtain ⟨t, rfl⟩ := ri
  obtain ⟨its, r, pl, hz⟩ := I.list hq
  obtain ⟨w, ew, rw'⟩ := r.get he
  have hl := r.length
  have hn := line63
  have hj : j < its.length := (List.getElem?_eq_some_iff.mp ew).1
  exact wpAny_getItem_list pl.isList (by omega) (by omega) (by simpa using ew) ⟨v, H, I, rw', q⟩
end
end Fm
namespace Fm
open PySem PySem.Spec PyProof.Rows L2
/-- small letters, one to eight -/
def Nm (x : Str) : Prop := 1 ≤ x.length ∧ x.length ≤ 8 ∧ ∀ c ∈ x.cps.toList, 97 ≤ c ∧ c ≤ 122
instance (x : Str) : Decidable (Nm x) := by unfold Nm; infer_instance
/-! terms -/
inductive Tm where
  | var (i : Int)
  | op (x : Str) (ts : List Tm)
namespace Tm
mutual
def d : Tm → PyData
  | .var i => .int i
  | .op x ts => .tuple (.str x :: ds ts)
def ds : List Tm → List PyData
  | [] => []
  | t :: ts => d t :: ds ts
end
theorem ds_map : ∀ ts : List Tm, ds ts = ts.map d
  | [] => by simp [ds]
  | t :: ts => by simp [ds, ds_map ts]
mutual
def dep : Tm → Nat
  | .var _ => 0
  | .op _ ts => deps ts + 1
def deps : List Tm → Nat
  | [] => 0
  | t :: ts => max (dep t) (deps ts)
end
mutual
/-- how many unknowns stand there -/
def lv : Tm → Nat
  | .var _ => 1
  | .op _ ts => lvs ts
def lvs : List Tm → Nat
  | [] => 0
  | t :: ts => lv t + lvs ts
end
mutual
/-- the unknowns from left to right -/
def leaves : Tm → List Int
  | .var i => [i]
  | .op _ ts => leavesL ts
def leavesL : List Tm → List Int
  | [] => []
  | t :: ts => leaves t ++ leavesL ts
end
mutual
/-- how many operations -/
def size : Tm → Nat
  | .var _ => 0
  | .op _ ts => sizes ts + 1
def sizes : List Tm → Nat
  | [] => 0
  | t :: ts => size t + sizes ts
end
mutual
def put (f : Int → Tm) : Tm → Tm
  | .var i => f i
  | .op x ts => .op x (puts f ts)
def puts (f : Int → Tm) : List Tm → List Tm
  | [] => []
  | t :: ts => put f t :: puts f ts
end
mutual
/-- names are names, at most three parts, the unknowns keep P -/
def ok (P : Int → Prop) : Tm → Prop
  | .var i => P i
  | .op x ts => Nm x ∧ ts.length ≤ 3 ∧ oks P ts
def oks (P : Int → Prop) : List Tm → Prop
  | [] => True
  | t :: ts => ok P t ∧ oks P ts
end
theorem puts_map (f : Int → Tm) : ∀ ts : List Tm, puts f ts = ts.map (put f)
  | [] => by simp [puts]
  | t :: ts => by simp [puts, puts_map f ts]
theorem oks_iff {P : Int → Prop} : ∀ {ts : List Tm}, oks P ts ↔ ∀ t ∈ ts, ok P t
  | [] => by simp [oks]
  | t :: ts => by simp [oks, oks_iff]
theorem deps_le {n : Nat} : ∀ {ts : List Tm}, deps ts ≤ n ↔ ∀ t ∈ ts, dep t ≤ n
  | [] => by simp [deps]
  | t :: ts => by
    have := deps_le (n := n) (ts := ts)
    simp only [deps, List.mem_cons, forall_eq_or_imp, ← this]
    omega
theorem leavesL_append : ∀ ts us : List Tm, leavesL (ts ++ us) = leavesL ts ++ leavesL us
  | [], _ => by simp [leavesL]
  | t :: ts, us => by simp [leavesL, leavesL_append ts us]
theorem sizes_append : ∀ ts us : List Tm, sizes (ts ++ us) = sizes ts + sizes us
  | [], _ => by simp [sizes]
  | t :: ts, us => by
    simp only [List.cons_append, sizes, sizes_append ts us]
    omega
theorem lvs_append : ∀ ts us : List Tm, lvs (ts ++ us) = lvs ts + lvs us
  | [], _ => by simp [lvs]
  | t :: ts, us => by
    simp only [List.cons_append, lvs, lvs_append ts us]
    omega
mutual
theorem leaves_len : ∀ t : Tm, (leaves t).length = lv t
  | .var _ => by simp [leaves, lv]
  | .op _ ts => by simp [leaves, lv, leavesL_len ts]
theorem leavesL_len : ∀ ts : List Tm, (leavesL ts).length = lvs ts
  | [] => by simp [leavesL, lvs]
  | t :: ts => by simp [leavesL, lvs, leaves_len t, leavesL_len ts]
end
mutual
theorem ok_leaves {P : Int → Prop} : ∀ t : Tm, ok P t → ∀ i ∈ leaves t, P i
  | .var j, h, i, hi => by
    simp only [leaves, List.mem_singleton] at hi
    rw [hi]
    exact h
  | .op _ ts, h, i, hi => oks_leaves ts h.2.2 i (by simpa [leaves] using hi)
theorem oks_leaves {P : Int → Prop} : ∀ ts : List Tm, oks P ts → ∀ i ∈ leavesL ts, P i
  | [], _, i, hi => by simp [leavesL] at hi
  | t :: ts, h, i, hi => by
    rcases List.mem_append.mp (show i ∈ leaves t ++ leavesL ts by simpa [leavesL] using hi) with hi | hi
    · exact ok_leaves t h.1 i hi
    · exact oks_leaves ts h.2 i hi
end
mutual
theorem ok_mono {P R : Int → Prop} (h : ∀ i, P i → R i) : ∀ t : Tm, ok P t → ok R t
  | .var i, k => h i k
  | .op _ ts, k => ⟨k.1, k.2.1, oks_mono h ts k.2.2⟩
theorem oks_mono {P R : Int → Prop} (h : ∀ i, P i → R i) : ∀ ts : List Tm, oks P ts → oks R ts
  | [], _ => trivial
  | t :: ts, k => ⟨ok_mono h t k.1, oks_mono h ts k.2⟩
end
mutual
theorem ok_put {P R : Int → Prop} {f : Int → Tm} (h : ∀ i, P i → ok R (f i)) : ∀ t : Tm, ok P t → ok R (put f t)
  | .var i, k => h i k
  | .op _ ts, k => by
    refine ⟨k.1, ?_, oks_puts h ts k.2.2⟩
    rw [puts_map, List.length_map]
    exact k.2.1
theorem oks_puts {P R : Int → Prop} {f : Int → Tm} (h : ∀ i, P i → ok R (f i)) : ∀ ts : List Tm, oks P ts → oks R (puts f ts)
  | [], _ => trivial
  | t :: ts, k => ⟨ok_put h t k.1, oks_puts h ts k.2⟩
end
mutual
theorem dep_put {P : Int → Prop} {f : Int → Tm} {n : Nat} (h : ∀ i, P i → dep (f i) ≤ n) : ∀ t : Tm, ok P t → dep (put f t) ≤ dep t + n
  | .var i, k => by simpa [put, dep] using h i k
  | .op _ ts, k => by
    have := deps_puts h ts k.2.2
    simp only [put, dep]
    omega
theorem deps_puts {P : Int → Prop} {f : Int → Tm} {n : Nat} (h : ∀ i, P i → dep (f i) ≤ n) : ∀ ts : List Tm, oks P ts → deps (puts f ts) ≤ deps ts + n
  | [], _ => by simp [puts, deps]
  | t :: ts, k => by
    have h1 := dep_put h t k.1
    have h2 := deps_puts h ts k.2
    simp only [puts, deps]
    omega
end
mutual
/-- what a term's text may come to, without its unknowns' figures -/
def cst : Tm → Nat
  | .var _ => 0
  | .op _ ts => csts ts + 90
def csts : List Tm → Nat
  | [] => 0
  | t :: ts => cst t + 2 + csts ts
end
mutual
theorem cst_put {P : Int → Prop} {f : Int → Tm} {c : Nat} (h : ∀ i, P i → cst (f i) ≤ c) : ∀ t : Tm, ok P t → cst (put f t) ≤ cst t + lv t * c
  | .var i, k => by simpa [put, cst, lv] using h i k
  | .op _ ts, k => by
    have := csts_puts h ts k.2.2
    simp only [put, cst, lv]
    omega
theorem csts_puts {P : Int → Prop} {f : Int → Tm} {c : Nat} (h : ∀ i, P i → cst (f i) ≤ c) : ∀ ts : List Tm, oks P ts → csts (puts f ts) ≤ csts ts + lvs ts * c
  | [], _ => by simp [puts, csts]
  | t :: ts, k => by
    have h1 := cst_put h t k.1
    have h2 := csts_puts h ts k.2
    simp only [puts, csts, lvs, Nat.add_mul]
    omega
end
mutual
theorem lv_put {P : Int → Prop} {f : Int → Tm} {c : Nat} (h : ∀ i, P i → lv (f i) ≤ c) : ∀ t : Tm, ok P t → lv (put f t) ≤ lv t * c
  | .var i, k => by simpa [put, lv] using h i k
  | .op _ ts, k => by simpa [put, lv] using lvs_puts h ts k.2.2
theorem lvs_puts {P : Int → Prop} {f : Int → Tm} {c : Nat} (h : ∀ i, P i → lv (f i) ≤ c) : ∀ ts : List Tm, oks P ts → lvs (puts f ts) ≤ lvs ts * c
  | [], _ => by simp [puts, lvs]
  | t :: ts, k => by
    have h1 := lv_put h t k.1
    have h2 := lvs_puts h ts k.2
    simp only [puts, lvs, Nat.add_mul]
    omega
end
mutual
theorem put_congr {f g : Int → Tm} : ∀ t : Tm, (∀ i ∈ leaves t, f i = g i) → put f t = put g t
  | .var i, h => h i (by simp [leaves])
  | .op x ts, h => by
    show Tm.op x (puts f ts) = .op x (puts g ts)
    rw [puts_congr ts fun i hi => h i (by simpa [leaves] using hi)]
theorem puts_congr {f g : Int → Tm} : ∀ ts : List Tm, (∀ i ∈ leavesL ts, f i = g i) → puts f ts = puts g ts
  | [], _ => rfl
  | t :: ts, h => by
    show put f t :: puts f ts = put g t :: puts g ts
    rw [put_congr t fun i hi => h i (by simp [leavesL, hi]), puts_congr ts fun i hi => h i (by simp [leavesL, hi])]
end
/-- trees of bounded depth are small -/
theorem small {P : Int → Prop} : ∀ (n : Nat) (t : Tm), ok P t → dep t ≤ n → lv t ≤ 3 ^ n ∧ cst t + 48 ≤ 48 * 3 ^ n
  | 0, .var i, _, _ => by simp [lv, cst]
  | 0, .op x ts, _, h => by simp [dep] at h
  | n + 1, .var i, _, _ => by
    have := Nat.one_le_pow (n + 1) 3 (by decide)
    simp only [lv, cst]
    omega
  | n + 1, .op x ts, k, h => by
    have hd : ∀ t ∈ ts, dep t ≤ n := deps_le.mp (by simp only [dep] at h; omega)
    have ho := oks_iff.mp k.2.2
    have hl := k.2.1
    have ih : ∀ t ∈ ts, lv t ≤ 3 ^ n ∧ cst t + 48 ≤ 48 * 3 ^ n := fun t ht => small n t (ho t ht) (hd t ht)
    have h1 := Nat.one_le_pow n 3 (by decide)
    rw [Nat.pow_succ]
    simp only [lv, cst]
    match ts, hl, ih with
    | [], _, _ => simp only [lvs, csts]; omega
    | [a], _, ih =>
      have := ih a (by simp)
      simp only [lvs, csts]; omega
    | [a, b], _, ih =>
      have := ih a (by simp)
      have := ih b (by simp)
      simp only [lvs, csts]; omega
    | [a, b, c], _, ih =>
      have := ih a (by simp)
      have := ih b (by simp)
      have := ih c (by simp)
      simp only [lvs, csts]; omega
end Tm
mutual
theorem imm_d : ∀ t : Tm, imm t.d = true
  | .var _ => by simp [Tm.d, imm]
  | .op _ ts => by simp [Tm.d, imm, immAll, imm_ds ts]
theorem imm_ds : ∀ ts : List Tm, immAll (Tm.ds ts) = true
  | [] => by simp [Tm.ds, immAll]
  | t :: ts => by simp [Tm.ds, immAll, imm_d t, imm_ds ts]
end
end Fm
namespace Fm
open PySem PySem.Spec PyProof.Rows L2
/-! what is worth a value, the heap as it is -/
structure TV (t : TE) (σ : L2.St) (H : Hp) (v : V) : Prop where
  go : ∀ Q : VK, Q v H → t σ H Q
structure TB (t : TT) (σ : L2.St) (H : Hp) (b : Bool) : Prop where
  go : ∀ Q : Bool → Hp → Prop, Q b H → t σ H Q
theorem vint_eq {i j : Int} : decide (V.int i = V.int j) = decide (i = j) := by
  by_cases e : i = j
  · rw [e, decide_eq_true rfl, decide_eq_true rfl]
  · rw [decide_eq_false e, decide_eq_false fun z => e (V.int.inj z)]
section
variable {K : PySem.W.Frag} {σ : L2.St} {H : Hp} {ta tb : TE} {t u : TT} {a b : Bool} {i j : Int} {x y v : V} {Q : VK}
theorem tv_var {m : Nat} (h : σ[m]? = some (some v)) : TV (tVar m) σ H v := ⟨fun Q q => ⟨v, h, q⟩⟩
theorem tv_c : TV (tC v) σ H v := ⟨fun Q q => q⟩
theorem tv_I {g : Int → Int → V} (ha : TV ta σ H (.int i)) (hb : TV tb σ H (.int j)) : TV (tOp (rI0 g) ta tb) σ H (g i j) := ⟨fun Q q => ha.go _ (hb.go _ ⟨i, j, rfl, rfl, q⟩)⟩
theorem tv_eq (ha : TV ta σ H x) (hb : TV tb σ H y) (hs : scal x y = true) : TV (tOp (rEqG K) ta tb) σ H (.bl (decide (x = y))) := ⟨fun Q q => ha.go _ (hb.go _ (Or.inl ⟨hs, q⟩))⟩
theorem tv_ne (ha : TV ta σ H x) (hb : TV tb σ H y) (hs : scal x y = true) : TV (tOp (rNeG K) ta tb) σ H (.bl (!decide (x = y))) := ⟨fun Q q => ha.go _ (hb.go _ (Or.inl ⟨hs, q⟩))⟩
theorem tv_eqI (ha : TV ta σ H (.int i)) (hb : TV tb σ H (.int j)) : TV (tOp (rEqG K) ta tb) σ H (.bl (decide (i = j))) := by
  rw [← vint_eq]
  exact tv_eq ha hb rfl
theorem tv_neI (ha : TV ta σ H (.int i)) (hb : TV tb σ H (.int j)) : TV (tOp (rNeG K) ta tb) σ H (.bl (!decide (i = j))) := by
  rw [← vint_eq]
  exact tv_ne ha hb rfl
theorem tb_test (h : TV ta σ H (.bl a)) : TB (tTest ta) σ H a := ⟨fun Q q => h.go _ ⟨a, rfl, q⟩⟩
theorem tb_B (h : TV ta σ H (.bl a)) : TB (tB ta) σ H a := ⟨fun Q q => h.go _ ⟨a, rfl, q⟩⟩
theorem tb_and (h : TB t σ H a) (k : TB u σ H b) : TB (tAnd t u) σ H (a && b) := ⟨fun Q q => h.go _ (by
  cases a with
  | true => exact k.go _ q
  | false => exact q)⟩
theorem tb_or (h : TB t σ H a) (k : TB u σ H b) : TB (tOr t u) σ H (a || b) := ⟨fun Q q => h.go _ (by
  cases a with
  | true => exact q
  | false => exact k.go _ q)⟩
theorem tb_not (h : TB t σ H a) : TB (tNot t) σ H (!a) := ⟨fun Q q => h.go _ q⟩
theorem tv_is {w : V} (h : TV ta σ H v) (e : v = w) : TV ta σ H w := by rw [← e]; exact h
theorem st_if {c : TT} {t u : TS} {D : Ends} (h : TB c σ H b) (h1 : b = true → t D σ H) (h2 : b = false → u D σ H) : tIfS c t u D σ H := h.go _ (by
  cases b with
  | true => exact h1 rfl
  | false => exact h2 rfl)
theorem te_if {c : TT} (h : TB c σ H b) (h1 : b = true → ta σ H Q) (h2 : b = false → tb σ H Q) : tIf c ta tb σ H Q := h.go _ (by
  cases b with
  | true => exact h1 rfl
  | false => exact h2 rfl)
/-- isinstance(x, int) of data -/
def isInt : PyData → Bool
  | .int _ => true
  | .bool _ => true
  | _ => false
theorem tyx_dp {d : PyData} (h : Dp K H v d) (hd : imm d = true) : ∃ t : String, TyX K H v (.type t) ∧ (t = "int" ∧ (∃ i, d = .int i) ∨ t = "bool" ∧ (∃ b, d = .bool b) ∨ t = "str" ∧ (∃ x, d = .str x) ∨ t = "NoneType" ∧ d = .none ∨ t = "tuple" ∧ (∃ ds, d = .tuple ds)) := by
  cases h with
  | non => exact ⟨_, .base .non, .inr (.inr (.inr (.inl ⟨rfl, rfl⟩)))⟩
  | bl b => exact ⟨_, .base (.bl b), .inr (.inl ⟨rfl, b, rfl⟩)⟩
  | int i => exact ⟨_, .base (.int i), .inl ⟨rfl, i, rfl⟩⟩
  | str x => exact ⟨_, .base (.str x), .inr (.inr (.inl ⟨rfl, x, rfl⟩))⟩
  | lst h1 h2 => simp [imm] at hd
  | tup h1 h2 =>
    refine ⟨"tuple", ?_, .inr (.inr (.inr (.inr ⟨rfl, _, rfl⟩)))⟩
    rcases h1 with (h1 | ⟨o, h1⟩) | ⟨o, its, n, hk, hc, _⟩
    · exact .base (.tup h1)
    · exact .fTuple h1
    · exact .kTuple hk hc
theorem kit_i1 : kitB "int" "int" = some true := by decide +kernel
theorem kit_i2 : kitB "bool" "int" = some true := by decide +kernel
theorem kit_i3 : kitB "str" "int" = some false := by decide +kernel
theorem kit_i4 : kitB "NoneType" "int" = some false := by decide +kernel
theorem kit_i5 : kitB "tuple" "int" = some false := by decide +kernel
theorem rd_isInt {d : PyData} (h : Im K H v d) (q : Q (.bl (isInt d)) H) : rIsi K [v, .ty "int"] H Q := by
  obtain ⟨t, ht, k⟩ := tyx_dp h.dp h.im
  refine ⟨v, .ty "int", _, _, isInt d, rfl, .ty "int", ht, ?_, q⟩
  rcases k with ⟨rfl, i, rfl⟩ | ⟨rfl, i, rfl⟩ | ⟨rfl, i, rfl⟩ | ⟨rfl, rfl⟩ | ⟨rfl, i, rfl⟩
  · exact kit_ty kit_i1
  · exact kit_ty kit_i2
  · exact kit_ty kit_i3
  · exact kit_ty kit_i4
  · exact kit_ty kit_i5
/-- t + u of tuples -/
theorem rd_cat {a b : Addr} {xs ys : List V} (ha : SqT K H a xs) (hb : SqT K H b ys) (hs : xs.length + ys.length ≤ sizeLine)
    (h : ∀ p H', Mv [] H H' → SqT K H' p (xs ++ ys) → Q (.ref p) H') : rAddG K (.ref a) (.ref b) H Q := by
  refine Or.inr (Or.inr (Or.inl ⟨a, b, xs, ys, rfl, rfl, ha, hb, hs, fun e => ?_, fun _ e => ?_, fun _ _ p np => ?_⟩))
  · subst e
    exact h b H .refl hb
  · subst e
    exact h a H .refl (by rw [List.append_nil]; exact ha)
  · exact h p _ (.new np) (.inl (.inl upd_same))
/-- list + list -/
theorem rd_catL {a b : Addr} {xs ys : List V} (ha : H a = some (.lst xs)) (hb : H b = some (.lst ys)) (hs : xs.length + ys.length ≤ sizeLine)
    (h : ∀ p H', H p = none → Mv [] H H' → H' p = some (.lst (xs ++ ys)) → Q (.ref p) H') : rAddG K (.ref a) (.ref b) H Q :=
  Or.inr (Or.inr (Or.inr ⟨a, b, xs, ys, rfl, rfl, ha, hb, hs, fun p np => h p _ np (.new np) upd_same⟩))
/-- an item of a list -/
theorem rd_ixL {a : Addr} {xs : List V} {i : Int} {v : V} (ha : SqL K H a xs) (h0 : 0 ≤ i) (hv : xs[i.toNat]? = some v) (h : Q v H) : rIx K (.ref a) (.int i) H Q := by
  obtain ⟨j, rfl⟩ := Int.eq_ofNat_of_zero_le h0
  exact Or.inl ⟨a, xs, j, v, rfl, rfl, ha, atI_nat hv, h⟩
theorem rd_ixT {a : Addr} {xs : List V} {i : Int} {v : V} (ha : SqT K H a xs) (h0 : 0 ≤ i) (hv : xs[i.toNat]? = some v) (h : Q v H) : rIx K (.ref a) (.int i) H Q := by
  obtain ⟨j, rfl⟩ := Int.eq_ofNat_of_zero_le h0
  exact Or.inr (Or.inl ⟨a, xs, j, v, rfl, rfl, ha, atI_nat hv, h⟩)
theorem rd_len {a : Addr} {xs : List V} (ha : SqL K H a xs ∨ SqT K H a xs) (h : Q (.int xs.length) H) : rLenG K [.ref a] H Q := Or.inl ⟨a, xs, rfl, ha, h⟩
/-- tuple(list) -/
theorem rd_tupOf {a : Addr} {xs : List V} (ha : SqL K H a xs) (h : ∀ p H', Mv [] H H' → SqT K H' p xs → Q (.ref p) H') : rTupOf K [.ref a] H Q :=
  ⟨a, xs, rfl, .inl ⟨ha, fun p np => h p _ (.new np) (.inl (.inl upd_same))⟩⟩
/-- list(x) -/
theorem rd_listOf {a : Addr} {xs : List V} (ha : SqL K H a xs ∨ SqT K H a xs) (h : ∀ p H', H p = none → Mv [] H H' → H' p = some (.lst xs) → Q (.ref p) H') : rListOf K [.ref a] H Q :=
  ⟨a, xs, rfl, ha, fun p np => h p _ np (.new np) upd_same⟩
/-- a written tuple, a written list -/
theorem rd_tup {ta : TA} (h : ta σ H fun xs H1 => xs.length ≤ sizeLine ∧ ∀ p H', H1 p = none → Mv [] H1 H' → SqT K H' p xs → Q (.ref p) H') (mono : ∀ {R S : List V → Hp → Prop}, (∀ xs H1, R xs H1 → S xs H1) → ta σ H R → ta σ H S) : tTup ta σ H Q :=
  mono (fun xs H1 k => ⟨k.1, fun p np => k.2 p _ np (.new np) (.inl (.inl upd_same))⟩) h
/-- t[1:], t[:1] of a tuple that is not empty -/
theorem rd_sl1 {a : Addr} {x : V} {xs : List V} (ha : SqT K H a (x :: xs)) (h : ∀ p H', Mv [] H H' → SqT K H' p xs → Q (.ref p) H') : rSlG K (.ref a) (some 1) none H Q := by
  have e : HT.sIx (x :: xs).length 0 (some 1) = 1 := by
    rw [show HT.sIx (x :: xs).length 0 (some 1) = min 1 (x :: xs).length from HT.sIx_nat _ 0 1, List.length_cons]
    omega
  refine Or.inr (Or.inl ⟨a, x :: xs, rfl, ha, fun z => ?_, fun _ p np => h p _ (.new np) (.inl (.inl ?_))⟩)
  · rw [e] at z
    omega
  · rw [upd_same]
    unfold cutV
    rw [e, HT.sIx_none, List.length_cons, Nat.add_sub_cancel]
    show some (HO.tup (xs.take xs.length)) = _
    rw [List.take_length]
theorem rd_slA {a : Addr} {x : V} {xs : List V} (ha : SqT K H a (x :: xs)) (h : ∀ p H', Mv [] H H' → SqT K H' p [x] → Q (.ref p) H') : rSlG K (.ref a) none (some 1) H Q := by
  have e : HT.sIx (x :: xs).length (x :: xs).length (some 1) = 1 := by
    rw [show HT.sIx (x :: xs).length (x :: xs).length (some 1) = min 1 (x :: xs).length from HT.sIx_nat _ _ 1, List.length_cons]
    omega
  refine Or.inr (Or.inl ⟨a, x :: xs, rfl, ha, fun z => ?_, fun _ p np => h p _ (.new np) (.inl (.inl ?_))⟩)
  · rw [e] at z
    have e0 : xs = [] := by
      cases xs with
      | nil => rfl
      | cons y ys =>
        have := z.2
        simp at this
    subst e0
    exact h a H .refl ha
  · rw [upd_same]
    unfold cutV
    rw [e, HT.sIx_none]
    rfl
end

/-! loops over a list or a tuple that stays -/
section
variable {K : PySem.W.Frag} {a : Addr} {xs : List V}
theorem for_seq {g : TG} {tb : TS} {D : Ends} {σ : L2.St} {H : Hp} (hS : SqL K H a xs ∨ SqT K H a xs) (Pv : Nat → L2.St → Hp → Prop) (h0 : Pv 0 σ H) (hk : ∀ i σ' H', Pv i σ' H' → Mv [] H H')
    (hs : ∀ i x σ' H', xs[i]? = some x → Pv i σ' H' → g x σ' H' fun σ2 H2 => tb { D with nx := Pv (i + 1), ct := Pv (i + 1), bk := D.nx } σ2 H2) (hd : ∀ σ' H', Pv xs.length σ' H' → D.nx σ' H') :
    ((∃ xs, SqL K H a xs) ∧ ∃ W : Nat → Nat → L2.St → Hp → Prop, (∃ m, W 0 m σ H) ∧ ∀ i m σ H, W i m σ H →
      ((Itl K a).stop i H ∧ D.nx σ H) ∨ ((Itl K a).go i H ∧ ∃ N : L2.St → Hp → Prop, (∀ σ' H', N σ' H' → ∃ m', m' < m ∧ W (i + 1) m' σ' H') ∧ ∀ x H', (Itl K a).yld i H x H' → g x σ H' fun σ2 H2 => tb { D with nx := N, ct := N, bk := D.nx } σ2 H2)) ∨
    ((∃ xs, SqT K H a xs) ∧ ∃ W : Nat → Nat → L2.St → Hp → Prop, (∃ m, W 0 m σ H) ∧ ∀ i m σ H, W i m σ H →
      ((Itt K a).stop i H ∧ D.nx σ H) ∨ ((Itt K a).go i H ∧ ∃ N : L2.St → Hp → Prop, (∀ σ' H', N σ' H' → ∃ m', m' < m ∧ W (i + 1) m' σ' H') ∧ ∀ x H', (Itt K a).yld i H x H' → g x σ H' fun σ2 H2 => tb { D with nx := N, ct := N, bk := D.nx } σ2 H2)) := by
  rcases hS with hS | hS
  · exact .inl ⟨⟨xs, hS⟩, for_list Pv h0 (fun i σ' H' _ p => (hk i σ' H' p).same.seq hS) hs hd⟩
  · exact .inr ⟨⟨xs, hS⟩, for_tup Pv h0 (fun i σ' H' _ p => (hk i σ' H' p).sqT hS) hs hd⟩
theorem lc_seq {g : TG} {tt : TT} {te : TE} {vs : List Nat} {σ : L2.St} {H : Hp} {Qd : Addr → Hp → Prop} (hS : SqL K H a xs ∨ SqT K H a xs) (Pv : Nat → Addr → Hp → Prop) (h0 : ∀ D, H D = none → Pv 0 D (upd H D (.lst [])))
    (hk : ∀ i D H', H D = none → Pv i D H' → Mv [] H H')
    (hs : ∀ D, H D = none → ∀ i x H', xs[i]? = some x → Pv i D H' → g x (wipe σ vs) H' fun σ2 H2 => wipe σ2 vs = wipe σ vs ∧ tt σ2 H2 fun b H3 =>
      if b = true then te σ2 H3 fun y H4 => ∃ acc, H4 D = some (.lst acc) ∧ acc.length < sizeLine ∧ Pv (i + 1) D (upd H4 D (.lst (acc ++ [y]))) else Pv (i + 1) D H3) (hd : ∀ D H', H D = none → Pv xs.length D H' → Qd D H') :
    ((∃ xs, SqL K H a xs) ∧ ∀ D, H D = none → ∃ W : Nat → Nat → Hp → Prop, (∃ m, W 0 m (upd H D (.lst []))) ∧ ∀ i m H, W i m H →
      ((Itl K a).stop i H ∧ Qd D H) ∨ ((Itl K a).go i H ∧ ∃ Nx : Hp → Prop, (∀ H', Nx H' → ∃ m', m' < m ∧ W (i + 1) m' H') ∧ ∀ x H', (Itl K a).yld i H x H' → g x (wipe σ vs) H' fun σ2 H2 => wipe σ2 vs = wipe σ vs ∧ tt σ2 H2 fun b H3 =>
        if b = true then te σ2 H3 fun y H4 => ∃ acc, H4 D = some (.lst acc) ∧ acc.length < sizeLine ∧ Nx (upd H4 D (.lst (acc ++ [y]))) else Nx H3)) ∨
    ((∃ xs, SqT K H a xs) ∧ ∀ D, H D = none → ∃ W : Nat → Nat → Hp → Prop, (∃ m, W 0 m (upd H D (.lst []))) ∧ ∀ i m H, W i m H →
      ((Itt K a).stop i H ∧ Qd D H) ∨ ((Itt K a).go i H ∧ ∃ Nx : Hp → Prop, (∀ H', Nx H' → ∃ m', m' < m ∧ W (i + 1) m' H') ∧ ∀ x H', (Itt K a).yld i H x H' → g x (wipe σ vs) H' fun σ2 H2 => wipe σ2 vs = wipe σ vs ∧ tt σ2 H2 fun b H3 =>
        if b = true then te σ2 H3 fun y H4 => ∃ acc, H4 D = some (.lst acc) ∧ acc.length < sizeLine ∧ Nx (upd H4 D (.lst (acc ++ [y]))) else Nx H3)) := by
  rcases hS with hS | hS
  · exact .inl ⟨⟨xs, hS⟩, fun D nD => lc_list (Pv · D) (h0 D nD) (fun i H' _ p => (hk i D H' nD p).same.seq hS) (hs D nD) (fun H' p => hd D H' nD p)⟩
  · exact .inr ⟨⟨xs, hS⟩, fun D nD => lc_tup (Pv · D) (h0 D nD) (fun i H' _ p => (hk i D H' nD p).sqT hS) (hs D nD) (fun H' p => hd D H' nD p)⟩
end
end Fm
namespace Fm
open PySem PySem.Spec PyProof.Rows L2 HT
/-! t[:0:-1] of a tuple -/
section
variable {prog : Program} {w : World} {A : Around} {E : Value → Shared → Prop} {s : Shared}
theorem back_adjust (n : Nat) : Builtin.Slice.sliceAdjust none (some 0) (-1) (n : Int) = ((n : Int) - 1, min 0 ((n : Int) - 1)) := by
  unfold Builtin.Slice.sliceAdjust
  simp only [show ((-1 : Int) < 0) from by decide, if_true, show ¬ ((0 : Int) < 0) from by decide, if_false]
theorem back_places (n : Nat) : Builtin.Slice.slicePlaces ((n : Int) - 1) (min 0 ((n : Int) - 1)) (-1) = n - 1 := by
  unfold Builtin.Slice.slicePlaces
  simp only [show ¬ ((-1 : Int) > 0) from by decide, if_false, show (- -1 : Int) = 1 from by decide, Int.ediv_one]
  split <;> omega
theorem back_applied {sl : Addr} {vu vs : Value} {n : Nat} {Q : Int × Int × Nat → Shared → Prop} (hs : s.heap.IsSliceOf sl .none vu vs) (pu : IsPart vu (some 0)) (ps : IsPart vs (some (-1)))
    (h : Q ((n : Int) - 1, -1, n - 1) s) : wpAny (model prog w) A (Builtin.Slice.sliceApplied (.ref sl) (pure (n : Int))) Q E s := by
  obtain ⟨os, hos, hcs, hds⟩ := id hs
  unfold Builtin.Slice.sliceApplied Builtin.Slice.sliceFields
  refine wpAny_bind (wpAny_bind (wpAny_field hos hds (x := .none) rfl (wpAny_bind (wpAny_field hos hds (x := vu) rfl (wpAny_bind (wpAny_field hos hds (x := vs) rfl (wpAny_pure ?_)))))))
  refine wpAny_bind (slicePart_ ps ?_)
  show wpAny _ _ (if ((-1 : Int) == 0) = true then _ else _) _ _ s
  rw [if_neg (by decide)]
  refine wpAny_bind (slicePart_none (wpAny_bind (slicePart_ pu (wpAny_bind (wpAny_pure ?_)))))
  show wpAny _ _ (match Builtin.Slice.sliceAdjust none (some 0) (-1) (n : Int) with | (lo, hi) => pure (lo, (-1 : Int), Builtin.Slice.slicePlaces lo hi (-1))) _ _ s
  rw [back_adjust n]
  show wpAny _ _ (pure ((n : Int) - 1, (-1 : Int), Builtin.Slice.slicePlaces ((n : Int) - 1) (min 0 ((n : Int) - 1)) (-1))) _ _ s
  rw [back_places]
  exact wpAny_pure h
theorem fm_congr {α β : Type} {f g : α → Option β} : ∀ {l : List α}, (∀ m ∈ l, f m = g m) → l.filterMap f = l.filterMap g
  | [], _ => rfl
  | x :: l, h => by
    rw [List.filterMap_cons, List.filterMap_cons, h x List.mem_cons_self, fm_congr fun m hm => h m (List.mem_cons_of_mem _ hm)]
theorem back_pick (y : Value) (l : List Value) : ((List.range l.length).filterMap fun (m : Nat) => (y :: l).toArray[((((y :: l).toArray.size : Nat) : Int) - 1 + (m : Int) * (-1)).toNat]?).toArray = l.reverse.toArray := by
  congr 1
  have e : ∀ m ∈ List.range l.length, (y :: l).toArray[((((y :: l).toArray.size : Nat) : Int) - 1 + (m : Int) * (-1)).toNat]? = l[l.length - 1 - m]? := by
    intro m hm
    have hm := List.mem_range.mp hm
    have e1 : ((((y :: l).toArray.size : Nat) : Int) - 1 + (m : Int) * (-1)).toNat = (l.length - 1 - m) + 1 := by
      simp only [List.size_toArray, List.length_cons]
      omega
    rw [e1]
    simp
  rw [fm_congr e]
  apply List.ext_getElem?
  intro i
  have e2 : (List.range l.length).filterMap (fun m => l[l.length - 1 - m]?) = (List.range l.length).filterMap (fun m => l.reverse[m]?) := by
    apply fm_congr
    intro m hm
    have hm := List.mem_range.mp hm
    rw [List.getElem?_reverse hm]
  rw [e2]
  have e3 : (List.range l.length).filterMap (fun m => l.reverse[m]?) = l.reverse := by
    have := PySem.W.krv_all l.reverse.toArray
    simpa using this
  rw [e3]
theorem getItem_back {t sl : Addr} {y : Value} {l : List Value} {vu vs : Value} {Q : Value → Shared → Prop} (ht : IsTup s.heap t (y :: l).toArray) (hs : s.heap.IsSliceOf sl .none vu vs) (pu : IsPart vu (some 0)) (ps : IsPart vs (some (-1)))
    (hz : l.length ≤ sizeLine) (h : Q (.ref s.heap.objs.size) { s with heap := s.heap.push { cls := .type "tuple", data := .seq l.reverse.toArray } }) : wpAny (model prog w) A (getItem (.ref t) (.ref sl)) Q E s := by
  obtain ⟨os, hos, hcs, hds⟩ := id hs
  have hTs : s.TypeIs (.ref sl) "slice" := ⟨os, hos, hcs⟩
  have hfit : sizeOk (.seq l.reverse.toArray) := by
    show l.reverse.toArray.size ≤ sizeLine
    rw [List.size_toArray, List.length_reverse]
    exact hz
  unfold getItem
  try with_reducible refine wpAny_holding ?_
  first | refine wpAny_bind (wpAny_pure ?_) | skip
  refine wpAny_bind (wpAny_sequenceKey ht.typeIs (by decide) ?_)
  refine wpAny_bind (wpAny_callSpecial?_slot (name := Str.ofString "__getitem__") ht.typeIs PyProof.Rows.slot_tuple_getitem
    (wpAny_call_entry PyProof.Rows.slot_tuple_getitem ht.typeIs entry_tuple_getitem ?_ (args_tuple_getitem _ _)))
  show wpAny _ _ (Builtin.Tuple.tupleItemsOf (.ref t) >>= _) _ _ s
  refine wpAny_bind (tupleItemsOf_ ht (wpAny_bind (wpAny_typeOf hTs ?_)))
  rw [if_pos (by decide)]
  refine wpAny_bind (back_applied hs pu ps ?_)
  have hno : ¬ (((((y :: l).toArray.size : Nat) : Int) - 1 == 0 && (-1 : Int) == 1 && ((y :: l).toArray.size - 1) == (y :: l).toArray.size) = true) := by
    simp
  show wpAny _ _ (if ((((y :: l).toArray.size : Nat) : Int) - 1 == 0 && (-1 : Int) == 1 && ((y :: l).toArray.size - 1) == (y :: l).toArray.size) = true then _ else _) _ _ s
  rw [if_neg hno]
  have e : (y :: l).toArray.size - 1 = l.length := by simp
  rw [e, back_pick]
  first
    | exact wpAny_bind (m := Builtin.Tuple.tupleExact _) (wpAny_newObj_type (wpAny_pure ⟨_, rfl, wpAny_pure h⟩) hfit)
    | exact wpAny_bind (m := Builtin.Tuple.tupleExact _) (wpAny_newObj_type (wpAny_bind (wpAny_pure (wpAny_pure ⟨_, rfl, wpAny_pure h⟩))) hfit)
    | exact wpAny_bind (wpAny_bind (m := Builtin.Tuple.tupleExact _) (wpAny_newObj_type (wpAny_pure (wpAny_pure ⟨_, rfl, wpAny_pure h⟩)) hfit))
    | exact wpAny_bind (wpAny_bind (m := Builtin.Tuple.tupleExact _) (wpAny_newObj_type (wpAny_pure ⟨_, rfl, wpAny_pure h⟩) hfit))
end
section
variable {X : Cx}
def tBack (K : PySem.W.Frag) (te : TE) : TE := fun σ H Q => te σ H fun x H1 => ∃ a y ys, x = .ref a ∧ SqT K H1 a (y :: ys) ∧ ∀ p, H1 p = none → Q (.ref p) (upd H1 p (.tup ys.reverse))
theorem pe_slice3 {e : Expr} {te : TE} {k k0 : Nat} {p0 p1 p2 p3 pos : Pos} (he : PE X e te) :
    PE X (.Subscript e (.Slice none (some (.Constant (.int 0) k0 p0)) (some (.UnaryOp .USub (.Constant (.int 1) k p1) p2)) p3) pos) (tBack X.K te) := by
  refine ⟨fun pins s σ H Q I h => Subscript_ (thn (he.run pins s σ H _ I h) ?_)⟩
  rintro v s1 ⟨x, H1, I1, r1, a, y, ys, rfl, hx, q⟩
  cases r1
  have hup : PO X (some (.Constant (.int 0) k0 p0)) (tPart (tC (.int 0))) := po_some pe_int
  have hst : PO X (some (.UnaryOp .USub (.Constant (.int 1) k p1) p2)) (tPart (tUn (rU fun i => .int (-i)) (tC (.int 1)))) := po_some (pe_un un_neg pe_int)
  refine wpAny_Slice (thn (po_none.run pins s1 σ H1 (fun o H2 => o = none ∧ H2 = H1) I1 ⟨rfl, rfl⟩) ?_)
  rintro vl s2 ⟨l, H2, I2, pl, rfl, rfl⟩
  refine thn (hup.run pins s2 σ H2 (fun o H3 => o = some 0 ∧ H3 = H2) I2 ⟨0, rfl, rfl, rfl⟩) ?_
  rintro vu s3 ⟨u, H3, I3, pu, rfl, rfl⟩
  refine thn (hst.run pins s3 σ H3 (fun o H4 => o = some (-1) ∧ H4 = H3) I3 ⟨1, rfl, -1, rfl, rfl, rfl⟩) ?_
  rintro vs s4 ⟨o, H4, I4, ps, rfl, rfl⟩
  have I5 : Inv X pins σ H4 { s4 with heap := s4.heap.push { cls := .type "slice", data := .fields #[vl, vu, vs] } } := I4.kept (t' := s4.toks) fun b ob q => Heap.get?_push_of_some _ q
  obtain ⟨its, r, ht, hz⟩ := I5.tuple hx
  cases pl
  cases r with
  | @cons _ uy _ us ry rs =>
    have hl := rs.length
    show wpAny (model X.prog X.w) X.A (subscriptTail e (.Slice none (some (.Constant (.int 0) k0 p0)) (some (.UnaryOp .USub (.Constant (.int 1) k p1) p2)) p3) (.ref a) (.ref s4.heap.objs.size)) (EP X pins σ Q) X.xe { s4 with heap := s4.heap.push { cls := .type "slice", data := .fields #[.none, vu, vs] } }
    refine tail_any (ops := [.ref a, .ref s4.heap.objs.size]) ht.typeIs (PyProof.Rows.slot_tuple_getitem.lookup) ?_ (by with_unfolding_all rfl)
    have hz' : us.length ≤ sizeLine := by
      rw [List.length_cons] at hz
      omega
    refine getItem_back ht (Heap.IsSliceOf.new _ .none vu vs) pu ps hz' ?_
    refine ⟨.ref _, _, I5.laid (t' := s4.toks) (o := .tup ys.reverse) (fun b ob q => Heap.get?_push_of_some _ q) (Nat.le_refl _) ?_, rfl, q _ (I5.hok.fresh (Nat.le_refl _))⟩
    exact ⟨by rw [List.length_reverse]; omega, _, Vals.reverse rs, IsTup.new _ _⟩
end
end Fm
namespace Fm
open PySem PySem.Spec PyProof.Rows L2
/-! set(xs) of a list of ints -/
section
variable {P : Program} {w : World} {A : Around} {E : Value → Shared → Prop} {s : Shared}
/-- the empty set as it is laid -/
abbrev eset (w : World) : Obj := { cls := .type "set", dict := none, data := .set #[] 0 (.fresh 0 0 (!w.params.followText "set-order")) }
abbrev hset (w : World) (h : Heap) : Heap := h.push (eset w)
set_option maxHeartbeats 8000000 in
theorem set_of_list {l : Addr} {its : Array Value} (ns : List Int) {Q : Value → Shared → Prop} (hh : A.handled = none) (hl : s.heap.IsList l its) (hi : IntsAre its.toList ns) (hb : ns.length + 1 < scanBound)
    (h : ∀ (g : Heap) (tk c : Nat), SetR w g s.heap.objs.size (fun j => decide (j ∈ ns)) c → (∀ b o, s.heap.get? b = some o → g.get? b = some o) → Q (.ref s.heap.objs.size) { s with heap := g, toks := tk }) :
    wpAny (model P w) A (call (.type "set") [.ref l]) Q E s := by
  have hn : its.size = ns.length := by rw [← Array.length_toList]; exact IntsAre.length hi
  obtain ⟨mc, mt, mro⟩ := F.called_set.mro
  have mk1 := F.called_set.made
  have mk2 := F.called_set.sub
  refine wpAny_call (codeAny_of_tree (show wpAny _ _ (callAny (.type "set") _) _ _ _ from wpAny_pure ⟨Code.quiet_builtin _ (by decide +kernel), codeAny_builtin F.entry_type_call ?_⟩))
  rw [Around.under_plain (weight_type_call_type "set" [.ref l] []) rfl]
  have mk3 := F.called_set.notType
  have mk4 := F.called_set.canCreate
  have mk5 := F.typeCall_set_1 (.ref l)
  repeat (any_goals (first | assumption | wp_step))
  refine codeAny_mono (code_set_led1 (w := w) (s := s) (.ref l) (E := E)
    (Q₁ := fun obj s₁ => obj = .ref s.heap.objs.size ∧ s₁ = { s with heap := hset w s.heap }) ⟨rfl, rfl⟩) fun r s₁ hr => ?_
  match r, hr with
  | .error e, hr => exact hr
  | .ok (.ret obj), hr =>
    obtain ⟨rfl, rfl⟩ := hr
    have here : (hset w s.heap).get? s.heap.objs.size = some (eset w) := Heap.get?_push_size _ rfl
    have isS : Shared.TypeIs { s with heap := hset w s.heap } (.ref s.heap.objs.size) "set" := ⟨_, here, rfl⟩
    have in1 := F.called_set.init.lookup
    have in2 := F.called_set.init.bind (.ref s.heap.objs.size)
    repeat (any_goals (first | assumption | wp_step))
    have goes : codeAny (model P w) A.in1 (.call (.builtin "set.__init__") ⟨[.ref s.heap.objs.size, .ref l], []⟩) (wants (fun r s₂ => r = .none ∧ ∃ g tk c,
        s₂ = { s with heap := g, toks := tk } ∧ SetR w g s.heap.objs.size (fun j => decide (j ∈ ns)) c ∧ ∀ b o, s.heap.get? b = some o → g.get? b = some o) E) { s with heap := hset w s.heap } := by
      refine codeAny_call_builtin F.called_set.init.plain F.entry_set_init (check_set_init_1 isS ?_)
      obtain ⟨⟨oc, od, dt, sl⟩, hol, hcl, nl, hdl⟩ := id hl
      simp only at hcl hdl
      subst hcl hdl
      have lt := Heap.lt_size hol
      have hol2 : (hset w s.heap).get? l = some _ := Heap.get?_push_of_some _ hol
      have hl2 : (hset w s.heap).IsList l its := ⟨_, hol2, rfl, nl, rfl⟩
      have no1 := F.sub_list_set
      have no2 := F.sub_list_frozenset
      have no3 : (Value.type "list" == Value.type "dict") = false := by decide
      unfold Builtin.«set.__init__» noKeywords Builtin.Frozenset.updateFrom
      generalize hPI : pyIter = PI
      wp_walk
      subst hPI
      refine wpAny_pyIter_list hl2 (wpAny_bind (wpAny_runValue ?_))
      have sz2 : (hset w s.heap).objs.size = s.heap.objs.size + 1 := Heap.size_push ..
      have neI : l ≠ (hset w s.heap).objs.size := by
        rw [sz2]
        exact Nat.ne_of_lt (Nat.lt_succ_of_lt lt)
      have notIn : s.heap.objs.size ∉ [(hset w s.heap).objs.size, l] := by
        rw [sz2]
        intro z
        rcases List.mem_cons.mp z with z | z
        · exact Nat.ne_of_lt (Nat.lt_succ_self _) z
        · exact Nat.ne_of_gt lt (List.mem_singleton.mp z)
      have val : ∀ (i : Nat) (v : Value), its[i]? = some v → ∃ k t, ns[i]? = some k ∧ v = .int k t := fun i v hv => by
        have hi' : i < ns.length := by
          rw [← hn]
          exact (Array.getElem?_eq_some_iff.mp hv).1
        obtain ⟨t, e⟩ := PyProof.Rows.IntsAre.int_at hi i v (by rw [Array.getElem?_toList]; exact hv)
        have e2 : ns.getD i 0 = ns[i] := by rw [List.getD_eq_getElem?_getD, List.getElem?_eq_getElem hi']; rfl
        exact ⟨ns[i], t, List.getElem?_eq_getElem hi', by rw [e, e2]⟩
      have hh3 : A.in1.in1.in1.handled = none := by simp [hh]
      refine set_update_ints ((Walks.list hh3 _ l neI its).toS) s.heap.objs.size notIn ns hn hb val (its.size - 0) 0 _ (by omega) (Nat.zero_le _) ?st ?s0 ?fin
      case st => exact ⟨⟨_, Heap.get?_push_size _ rfl, rfl, rfl⟩, hl2.push _⟩
      case s0 => exact ⟨0, Nat.le_refl 0, setR_new_at (Heap.get?_push_of_some _ here)⟩
      case fin =>
        rintro ⟨g, gg, dd, tk, oo⟩ c' mv hc' hS'
        have e1 : gg = s.gens := mv.gens
        have e2 : dd = s.drawn := mv.drawn
        have e3 : oo = s.os := mv.os
        subst e1 e2 e3
        refine wpAny_pure (show wpAny _ _ (ret Value.none) _ _ _ from wpAny_pure ⟨rfl, g, tk, c', rfl, hS', fun b o e => ?_⟩)
        have b0 := Heap.lt_size e
        refine mv.heap b o (fun z => ?_) (Heap.get?_push_of_some _ (Heap.get?_push_of_some _ e))
        rcases List.mem_cons.mp z with z | z
        · exact Nat.ne_of_lt b0 z
        · have z2 := List.mem_singleton.mp z
          rw [sz2] at z2
          exact Nat.ne_of_lt (Nat.lt_succ_of_lt b0) z2
    refine codeAny_mono goes fun r₂ s₂ hr₂ => ?_
    match r₂, hr₂ with
    | .error e, hr₂ => exact hr₂
    | .ok (.ret r), hr₂ =>
      obtain ⟨rfl, g, tk, c', rfl, hS', hk'⟩ := hr₂
      repeat (any_goals (first | assumption | wp_step))
      exact h _ _ _ hS' hk'
end
section
variable {X : Cx}
/-- set(xs): its numbers; sorted(set) -/
def rSetOfL (K : PySem.W.Frag) (w : World) : List V → Hp → VK → Prop := fun xs H Q => ∃ (l : Addr) (ns : List Int), xs = [V.ref l] ∧ SqL K H l (ns.map V.int) ∧ ns.length ≤ 4000 ∧
  ∀ p (n : Nat) (ks : List Int), H p = none → ks.Nodup → ks.length = n → (∀ k, k ∈ ks ↔ k ∈ ns) → Q (.ref p) (upd H p (SetO w p (fun j => decide (j ∈ ns)) n))
theorem cr_setG (hc : X.calm = true) : CallR X (.type "set") (rSetOfL X.K X.w) := by
  intro pins s σ H xs us Q I r h
  obtain ⟨l, ns, rfl, hl, hb, q⟩ := h
  rw [Vals.ref1 r]
  obtain ⟨its, rv, pl, hz⟩ := I.list hl
  refine set_of_list ns (I.ok.hd hc) pl.isList (by simpa using intsAre_of rv) (Nat.lt_of_le_of_lt (Nat.succ_le_succ hb) (by decide)) fun g tk c R hk => ?_
  obtain ⟨o, es, ep, t, h1, h2, h3, h4, h5, h6, h7, h8, h9, h10⟩ := id R
  refine ⟨.ref _, upd H s.heap.objs.size (SetO X.w s.heap.objs.size (fun j => decide (j ∈ ns)) c), I.laid (t' := tk) hk (Nat.le_refl _) (setO_new R), rfl, ?_⟩
  refine q _ c (es.toList.map keyOf) (I.hok.fresh (Nat.le_refl _)) h5 (by rw [List.length_map, Array.length_toList]; exact h9) fun k => ?_
  rw [← h6 k]
  simp
theorem cr_sortedG (hc : X.calm = true) : CallR X (.builtin "sorted") (fun xs H Q => rSortedSet X.w xs H Q ∨ rSorted X.K xs H Q) := CallR.or (cr_sortedSet hc) cr_sorted
end
end Fm
namespace Fm
open PySem PySem.Spec PyProof.Rows L2
/-! data that can be compared and shown -/
mutual
def fine : PyData → Prop
  | .none => True
  | .bool _ => True
  | .int i => i.natAbs < 10 ^ 40
  | .str x => PyData.strOk x = true
  | .list xs => fineAll xs
  | .tuple xs => fineAll xs
  | .dict _ => False
def fineAll : List PyData → Prop
  | [] => True
  | x :: xs => fine x ∧ fineAll xs
end
mutual
/-- what its text may come to -/
def wl : PyData → Nat
  | .none => 4
  | .bool _ => 5
  | .int _ => 41
  | .str x => 10 * x.length + 2
  | .list xs => wls xs + 2
  | .tuple xs => wls xs + 2
  | .dict _ => 0
def wls : List PyData → Nat
  | [] => 0
  | x :: xs => wl x + 2 + wls xs
end
theorem fineAll_iff : ∀ {xs : List PyData}, fineAll xs ↔ ∀ x ∈ xs, fine x
  | [] => by simp [fineAll]
  | x :: xs => by simp [fineAll, fineAll_iff]
theorem listText_le : ∀ ts : List Str, (listText ts).length ≤ piled ts + 2
  | [] => by rw [listText_nil]; decide
  | t :: r => by
    have h := textFrom_length_pos r 1 (("[" : Str) ++ ("" : String) ++ t) (Nat.succ_pos 0)
    have e : ((("[" : Str) ++ ("" : String) ++ t)).length = 1 + t.length := by
      rw [strLen_append, strLen_append]
      rfl
    have x1 : (listText (t :: r)).length = (textFrom 1 (("[" : Str) ++ ("" : String) ++ t) r).length + 1 := by
      show (textFrom 1 (("[" : Str) ++ ("" : String) ++ t) r ++ "]").length = _
      rw [strLen_append]
      rfl
    rw [x1, h, e, piled_cons]
    omega
theorem tupleText_le (ts : List Str) : (tupleText ts).length ≤ piled ts + 2 := by
  have e3 : (((if ts.length == 1 then ",)" else ")" : String) : Str)).length ≤ 2 := by split <;> decide +kernel
  have e1 : ((("(" : String) : Str)).length = 1 := rfl
  unfold tupleText
  rw [strLen_append, strLen_append, e1]
  cases ts with
  | nil => decide +kernel
  | cons t r =>
    have := join_length_add (t :: r) (by simp)
    omega
mutual
theorem shown_le : ∀ d : PyData, fine d → d.shown.length ≤ wl d
  | .none, _ => by simp only [PyData.shown]; decide
  | .bool b, _ => by cases b <;> (simp only [PyData.shown]; decide)
  | .int i, h => by
    simp only [PyData.shown, wl]
    rw [PySem.ofString_length]
    exact int_text_length_le10 (k := 40) (by decide) h
  | .str x, h => by
    simp only [PyData.shown, wl]
    refine StrLaws.reprText_len x fun c hc => ?_
    have h' : x.cps.all (· < 0x110000) = true := h
    rw [Array.all_eq_true_iff_forall_mem] at h'
    have := h' c (by simpa using hc)
    simp at this
    omega
  | .list xs, h => by
    have := shown_les xs h
    have := listText_le (PyData.shownAll xs)
    simp only [PyData.shown, wl]
    omega
  | .tuple xs, h => by
    have := shown_les xs h
    have := tupleText_le (PyData.shownAll xs)
    simp only [PyData.shown, wl]
    omega
  | .dict _, h => h.elim
theorem shown_les : ∀ xs : List PyData, fineAll xs → piled (PyData.shownAll xs) ≤ wls xs
  | [], _ => by simp [PyData.shownAll, piled, wls]
  | x :: xs, h => by
    have h1 := shown_le x h.1
    have h2 := shown_les xs h.2
    simp only [PyData.shownAll, wls]
    rw [piled_cons]
    omega
end
mutual
theorem fine_lay : ∀ d : PyData, fine d → d.canLay0 = true ∧ d.showable = true ∧ d.hasDict = false
  | .none, _ => by simp [PyData.canLay0, PyData.showable, PyData.hasDict]
  | .bool b, _ => by simp [PyData.canLay0, PyData.showable, PyData.hasDict]
  | .int i, h => by
    refine ⟨by simp [PyData.canLay0], ?_, by simp [PyData.hasDict]⟩
    have h' : i.natAbs < 10 ^ 40 := h
    have h2 : i.natAbs < 2 ^ 200 := Nat.lt_trans h' (by decide)
    simp only [PyData.showable, decide_eq_true_eq]
    exact Nat.lt_trans (PySem.Flt.log2_lt_of (by decide) h2) (by decide)
  | .str x, h => ⟨by simp only [PyData.canLay0]; exact h, by simp [PyData.showable], by simp [PyData.hasDict]⟩
  | .list xs, h => by simpa [PyData.canLay0, PyData.showable, PyData.hasDict] using fine_lays xs h
  | .tuple xs, h => by simpa [PyData.canLay0, PyData.showable, PyData.hasDict] using fine_lays xs h
  | .dict _, h => h.elim
theorem fine_lays : ∀ xs : List PyData, fineAll xs → PyData.canLayAll0 xs = true ∧ PyData.showableAll xs = true ∧ PyData.hasDictAll xs = false
  | [], _ => by simp [PyData.canLayAll0, PyData.showableAll, PyData.hasDictAll]
  | x :: xs, h => by
    obtain ⟨a, b, c⟩ := fine_lay x h.1
    obtain ⟨a', b', c'⟩ := fine_lays xs h.2
    simp [PyData.canLayAll0, PyData.showableAll, PyData.hasDictAll, a, b, c, a', b', c']
end
structure Shw (d : PyData) : Prop where
  fi : fine d
  dp : d.depth ≤ 60
  wl : wl d ≤ 16000000
theorem Shw.shaped {d : PyData} (h : Shw d) : SeqAt.shaped d = true := by
  show (d.canLay0 && decide (d.depth ≤ 64)) = true
  have := h.dp
  rw [(fine_lay d h.fi).1, decide_eq_true (by omega)]
  rfl
theorem Shw.len {d : PyData} (h : Shw d) : d.shown.length ≤ sizeLine := by
  have := shown_le d h.fi
  have := h.wl
  have e : sizeLine = 16777216 := rfl
  omega
theorem Shw.eqv {d : PyData} (h : Shw d) : PyData.eqv d d = true := SeqAt.eqv_refl d (fine_lay d h.fi).1
theorem eqv_nil (xs : List PyData) : PyData.eqv (.list xs) (.list []) = xs.isEmpty := by
  cases xs <;> simp [PyData.eqv, PyData.eqvAll]
/-! of terms -/
theorem nm_ok {x : Str} (h : Nm x) : PyData.strOk x = true := by
  show x.cps.all (· < 0x110000) = true
  rw [Array.all_eq_true_iff_forall_mem]
  intro c hc
  have := h.2.2 c (by simpa using hc)
  simp
  omega
mutual
theorem fine_d {P : Int → Prop} (h : ∀ i, P i → i.natAbs < 10 ^ 40) : ∀ t : Tm, t.ok P → fine t.d
  | .var i, k => h i k
  | .op x ts, k => by
    simp only [Tm.d, fine, fineAll]
    exact ⟨nm_ok k.1, fine_ds h ts k.2.2⟩
theorem fine_ds {P : Int → Prop} (h : ∀ i, P i → i.natAbs < 10 ^ 40) : ∀ ts : List Tm, Tm.oks P ts → fineAll (Tm.ds ts)
  | [], _ => trivial
  | t :: ts, k => ⟨fine_d h t k.1, fine_ds h ts k.2⟩
end
mutual
theorem depth_d : ∀ t : Tm, t.d.depth = t.dep
  | .var _ => by simp [Tm.d, PyData.depth, Tm.dep]
  | .op _ ts => by simp [Tm.d, PyData.depth, PyData.depthAll, Tm.dep, depth_ds ts]
theorem depth_ds : ∀ ts : List Tm, PyData.depthAll (Tm.ds ts) = Tm.deps ts
  | [] => by simp [Tm.ds, PyData.depthAll, Tm.deps]
  | t :: ts => by simp [Tm.ds, PyData.depthAll, Tm.deps, depth_d t, depth_ds ts]
end
mutual
theorem wl_d {P : Int → Prop} : ∀ t : Tm, t.ok P → wl t.d ≤ t.cst + 41 * t.lv
  | .var _, _ => by simp [Tm.d, wl, Tm.cst, Tm.lv]
  | .op x ts, k => by
    have h1 := wl_ds ts k.2.2
    have h2 := k.1.2.1
    simp only [Tm.d, wl, wls, Tm.cst, Tm.lv]
    omega
theorem wl_ds {P : Int → Prop} : ∀ ts : List Tm, Tm.oks P ts → wls (Tm.ds ts) ≤ Tm.csts ts + 41 * Tm.lvs ts
  | [], _ => by simp [Tm.ds, wls]
  | t :: ts, k => by
    have h1 := wl_d t k.1
    have h2 := wl_ds ts k.2
    simp only [Tm.ds, wls, Tm.csts, Tm.lvs]
    omega
end
end Fm
namespace Fm
open PySem PySem.Spec PyProof.Rows L2
/-! a list of whatever, beside the empty one -/
section
variable {X : Cx}
def rNeNil (K : PySem.W.Frag) : R2 := fun x y H Q => ∃ (a b : Addr) (xs : List V), x = .ref a ∧ y = .ref b ∧ SqL K H a xs ∧ SqL K H b [] ∧ Q (.bl (!xs.isEmpty)) H
def rEqNil (K : PySem.W.Frag) : R2 := fun x y H Q => ∃ (a b : Addr) (xs : List V), x = .ref a ∧ y = .ref b ∧ SqL K H a xs ∧ SqL K H b [] ∧ Q (.bl xs.isEmpty) H
theorem op_neNil (hu : X.A.units < cLine) : OpR X (compareOp .NotEq) (rNeNil X.K) := by
  intro pins s σ H x y v u Q I rx ry h
  obtain ⟨a, b, xs, rfl, rfl, ha, hb, q⟩ := h
  obtain rfl : v = Value.ref a := rx
  obtain rfl : u = Value.ref b := ry
  obtain ⟨i1, r1, p1, _⟩ := I.list ha
  obtain ⟨i2, r2, p2, _⟩ := I.list hb
  have l1 := r1.length
  have l2 : i2 = [] := List.eq_nil_of_length_eq_zero (by have := r2.length; simpa using this.symm)
  subst l2
  cases xs with
  | nil =>
    have l3 : i1 = [] := List.eq_nil_of_length_eq_zero (by simpa using l1.symm)
    subst l3
    exact SeqAt.RcNeAt.lists (e := fun _ => true) p1.isList p2.isList rfl hu (fun j j1 _ => absurd j1 (Nat.not_lt_zero j)) X.prog X.w X.xe _ ⟨.bl false, H, I, rfl, q⟩
  | cons z zs =>
    refine SeqAt.RcNeAt.lists_lengths p1.isList p2.isList ?_ hu X.prog X.w X.xe _ ⟨.bl true, H, I, rfl, q⟩
    simp only [List.length_cons] at l1
    simp [bne_iff_ne]
    intro z
    rw [z] at l1
    simp at l1
theorem op_eqNil (hu : X.A.units < cLine) : OpR X (compareOp .Eq) (rEqNil X.K) := by
  intro pins s σ H x y v u Q I rx ry h
  obtain ⟨a, b, xs, rfl, rfl, ha, hb, q⟩ := h
  obtain rfl : v = Value.ref a := rx
  obtain rfl : u = Value.ref b := ry
  obtain ⟨i1, r1, p1, _⟩ := I.list ha
  obtain ⟨i2, r2, p2, _⟩ := I.list hb
  have l1 := r1.length
  have l2 : i2 = [] := List.eq_nil_of_length_eq_zero (by have := r2.length; simpa using this.symm)
  subst l2
  cases xs with
  | nil =>
    have l3 : i1 = [] := List.eq_nil_of_length_eq_zero (by simpa using l1.symm)
    subst l3
    exact SeqAt.RcAt.lists (e := fun _ => true) p1.isList p2.isList rfl hu (fun j j1 _ => absurd j1 (Nat.not_lt_zero j)) X.prog X.w X.xe _ ⟨.bl true, H, I, rfl, q⟩
  | cons z zs =>
    refine SeqAt.RcAt.lists_lengths p1.isList p2.isList ?_ hu X.prog X.w X.xe _ ⟨.bl false, H, I, rfl, q⟩
    simp only [List.length_cons] at l1
    simp [bne_iff_ne]
    intro z
    rw [z] at l1
    simp at l1
/-- i not in range(lo, hi) -/
theorem op_notIn_rng : OpR X (compareOp .NotIn) (fun x y H Q => ∃ i a lo hi, x = V.int i ∧ y = V.ref a ∧ H a = some (.rng lo hi) ∧ Q (.bl (!decide (lo ≤ i ∧ i < hi))) H) := by
  intro pins s σ H x y v u Q I rx ry h
  obtain ⟨i, a, lo, hi, rfl, rfl, ha, q⟩ := h
  obtain ⟨k, rfl⟩ := rx
  obtain rfl : u = Value.ref a := ry
  obtain ⟨t1, t2, t3, hob⟩ := I.hok a _ ha
  show wpAny _ _ (do return Value.bool (!(← contains (Value.ref a) (Value.int i k)))) _ _ s
  refine wpAny_bind (wpAny_contains_slot (T := "range") ⟨_, hob, rfl⟩ F.slot_range_contains (call_meets F.slot_range_contains ⟨_, hob, rfl⟩ F.entry_range_contains (F.args_range_contains_2 _ _) (q_contains a lo hi i t1 t2 t3 k) ⟨hob, wpAny_truthy_bool (wpAny_pure ⟨.bl _, H, I, rfl, by rw [place1]; exact q⟩)⟩))
/-- x is not True, x a bool or an int -/
def rNotB : R2 := fun x y H Q => ∃ b : Bool, y = .bl b ∧ ((∃ a : Bool, x = .bl a ∧ Q (.bl (!decide (a = b))) H) ∨ (∃ i : Int, x = .int i ∧ Q (.bl true) H))
theorem op_notB : OpR X (compareOp .IsNot) rNotB := by
  intro pins s σ H x y v u Q I rx ry h
  obtain ⟨b, rfl, h⟩ := h
  rcases h with ⟨a, rfl, q⟩ | ⟨i, rfl, q⟩
  · exact op_isnot_bl pins s σ H _ _ _ _ Q I rx ry ⟨a, b, rfl, rfl, q⟩
  · obtain ⟨t, rfl⟩ := rx
    cases (show u = Value.bool b from ry)
    exact wpAny_isNot_other rfl (fun z => nomatch z) ⟨.bl true, H, I, rfl, q⟩
end
end Fm
namespace Fm
open PySem PySem.Spec PyProof.Rows L2
theorem bt_range : bootBuiltins "range" = some (.type "range") := by decide +kernel
/-! things: what a function of kinds may be handed -/
inductive Th where
  | non
  | bl (b : Bool)
  | int (i : Int)
  | str (x : Str)
  | tup (ts : List Th)
  | lst
  | dct
mutual
/-- v is such a thing; b: a list that may change meanwhile -/
def Is (K : PySem.W.Frag) (b : Addr) (H : Hp) (v : V) : Th → Prop
  | .non => v = .non
  | .bl c => v = .bl c
  | .int i => v = .int i
  | .str x => v = .str x ∧ x.length ≤ 1000
  | .tup ts => ∃ a xs, v = .ref a ∧ SqT K H a xs ∧ IsAll K b H xs ts
  | .lst => ∃ a xs, v = .ref a ∧ a ≠ b ∧ H a = some (.lst xs)
  | .dct => ∃ a kvs, v = .ref a ∧ a ≠ b ∧ H a = some (.dK kvs)
def IsAll (K : PySem.W.Frag) (b : Addr) (H : Hp) (xs : List V) : List Th → Prop
  | [] => xs = []
  | t :: ts => ∃ y ys, xs = y :: ys ∧ Is K b H y t ∧ IsAll K b H ys ts
end
section
variable {K : PySem.W.Frag} {b : Addr} {H H' : Hp}
mutual
theorem Is.mv (m : Mv [b] H H') : ∀ (t : Th) (v : V), Is K b H v t → Is K b H' v t
  | .non, v, h => h
  | .bl _, v, h => h
  | .int _, v, h => h
  | .str _, v, h => h
  | .tup ts, v, h => by
    obtain ⟨a, xs, e, hs, ha⟩ := h
    exact ⟨a, xs, e, m.sqT hs, IsAll.mv m ts xs ha⟩
  | .lst, v, h => by
    obtain ⟨a, xs, e, hb, ha⟩ := h
    exact ⟨a, xs, e, hb, m.keep a _ (by simpa using hb) ha⟩
  | .dct, v, h => by
    obtain ⟨a, xs, e, hb, ha⟩ := h
    exact ⟨a, xs, e, hb, m.keep a _ (by simpa using hb) ha⟩
theorem IsAll.mv (m : Mv [b] H H') : ∀ (ts : List Th) (xs : List V), IsAll K b H xs ts → IsAll K b H' xs ts
  | [], xs, h => h
  | t :: ts, xs, h => by
    obtain ⟨y, ys, e, h1, h2⟩ := h
    exact ⟨y, ys, e, Is.mv m t y h1, IsAll.mv m ts ys h2⟩
end
theorem Is.mv0 {t : Th} {v : V} (h : Is K b H v t) (m : Mv [] H H') : Is K b H' v t := Is.mv (m.mono (by simp)) t v h
theorem IsAll.mv0 {ts : List Th} {xs : List V} (h : IsAll K b H xs ts) (m : Mv [] H H') : IsAll K b H' xs ts := IsAll.mv (m.mono (by simp)) ts xs h
theorem Is.dr {t : Th} {v : V} (h : Is K b H v t) (m : Dr b H H') : Is K b H' v t := Is.mv m.mv t v h
theorem IsAll.dr {ts : List Th} {xs : List V} (h : IsAll K b H xs ts) (m : Dr b H H') : IsAll K b H' xs ts := IsAll.mv m.mv ts xs h
theorem IsAll.length : ∀ {ts : List Th} {xs : List V}, IsAll K b H xs ts → xs.length = ts.length
  | [], xs, h => by
    have h' : xs = [] := h
    rw [h']
    rfl
  | t :: ts, xs, h => by
    obtain ⟨y, ys, rfl, _, k⟩ := h
    simp [k.length]
theorem IsAll.append : ∀ {ts us : List Th} {xs ys : List V}, IsAll K b H xs ts → IsAll K b H ys us → IsAll K b H (xs ++ ys) (ts ++ us)
  | [], _, xs, _, h, k => by
    have h' : xs = [] := h
    rw [h']
    exact k
  | t :: ts, _, xs, _, h, k => by
    obtain ⟨y, zs, rfl, h1, h2⟩ := h
    exact ⟨y, zs ++ _, rfl, h1, h2.append k⟩
theorem IsAll.nil : IsAll K b H [] [] := rfl
theorem IsAll.cons {t : Th} {ts : List Th} {y : V} {ys : List V} (h : Is K b H y t) (k : IsAll K b H ys ts) : IsAll K b H (y :: ys) (t :: ts) := ⟨y, ys, rfl, h, k⟩
theorem IsAll.get : ∀ {ts : List Th} {xs : List V} {i : Nat} {v : V}, IsAll K b H xs ts → xs[i]? = some v → ∃ t, ts[i]? = some t ∧ Is K b H v t
  | [], xs, _, _, h, e => by
    have h' : xs = [] := h
    rw [h'] at e
    simp at e
  | t :: ts, _, 0, _, h, e => by
    obtain ⟨y, ys, rfl, h1, h2⟩ := h
    simp at e
    subst e
    exact ⟨t, rfl, h1⟩
  | t :: ts, _, i + 1, _, h, e => by
    obtain ⟨y, ys, rfl, h1, h2⟩ := h
    exact h2.get (i := i) (by simpa using e)
theorem IsAll.take : ∀ {ts : List Th} {xs : List V} (n : Nat), IsAll K b H xs ts → IsAll K b H (xs.take n) (ts.take n)
  | [], xs, n, h => by
    have h' : xs = [] := h
    rw [h']
    simpa using IsAll.nil
  | t :: ts, _, 0, h => by simpa using IsAll.nil
  | t :: ts, _, n + 1, h => by
    obtain ⟨y, ys, rfl, h1, h2⟩ := h
    exact IsAll.cons h1 (h2.take n)
theorem IsAll.drop : ∀ {ts : List Th} {xs : List V} (n : Nat), IsAll K b H xs ts → IsAll K b H (xs.drop n) (ts.drop n)
  | [], xs, n, h => by
    have h' : xs = [] := h
    rw [h']
    simpa using IsAll.nil
  | t :: ts, _, 0, h => by simpa using h
  | t :: ts, _, n + 1, h => by
    obtain ⟨y, ys, rfl, h1, h2⟩ := h
    exact h2.drop n
theorem IsAll.last {ts : List Th} {t : Th} : ∀ {us : List Th} {xs : List V}, us = ts ++ [t] → IsAll K b H xs us → ∃ ys y, xs = ys ++ [y] ∧ IsAll K b H ys ts ∧ Is K b H y t := by
  induction ts with
  | nil =>
    intro us xs e h
    subst e
    obtain ⟨y, ys, rfl, h1, h2⟩ := h
    have h3 : ys = [] := h2
    exact ⟨[], y, by rw [h3]; rfl, IsAll.nil, h1⟩
  | cons u ts ih =>
    intro us xs e h
    subst e
    obtain ⟨y, ys, rfl, h1, h2⟩ := h
    obtain ⟨zs, z, rfl, h3, h4⟩ := ih rfl h2
    exact ⟨y :: zs, z, rfl, IsAll.cons h1 h3, h4⟩
/-! classes -/
def tyN : Th → String
  | .non => "NoneType"
  | .bl _ => "bool"
  | .int _ => "int"
  | .str _ => "str"
  | .tup _ => "tuple"
  | .lst => "list"
  | .dct => "dict"
theorem tyx_is {t : Th} {v : V} (h : Is K b H v t) : TyX K H v (.type (tyN t)) := by
  cases t with
  | non => cases (show v = V.non from h); exact .base .non
  | bl c => cases (show v = V.bl c from h); exact .base (.bl c)
  | int i => cases (show v = V.int i from h); exact .base (.int i)
  | str x => cases (show v = V.str x from h.1); exact .base (.str x)
  | tup ts =>
    obtain ⟨a, xs, rfl, hs, _⟩ := h
    rcases hs with (hs | ⟨o, hs⟩) | ⟨o, its, n, hk, hc, _⟩
    · exact .base (.tup hs)
    · exact .fTuple hs
    · exact .kTuple hk hc
  | lst =>
    obtain ⟨a, xs, rfl, _, ha⟩ := h
    exact .base (.lst ha)
  | dct =>
    obtain ⟨a, kvs, rfl, _, ha⟩ := h
    exact .base (.dK ha)
theorem rd_isi {t : Th} {v : V} {T : String} {c : Bool} {Q : VK} (h : Is K b H v t) (k : kitB (tyN t) T = some c) (q : Q (.bl c) H) : rIsi K [v, .ty T] H Q := ⟨v, .ty T, _, _, c, rfl, .ty T, tyx_is h, kit_ty k, q⟩
def isIntT : Th → Bool
  | .int _ => true
  | .bl _ => true
  | _ => false
def isBoolT : Th → Bool
  | .bl _ => true
  | _ => false
def isStrT : Th → Bool
  | .str _ => true
  | _ => false
def isTupT : Th → Bool
  | .tup _ => true
  | _ => false
def isLstT : Th → Bool
  | .lst => true
  | _ => false
theorem kit_int (t : Th) : kitB (tyN t) "int" = some (isIntT t) := by cases t <;> (simp only [tyN, isIntT]; decide +kernel)
theorem kit_bool (t : Th) : kitB (tyN t) "bool" = some (isBoolT t) := by cases t <;> (simp only [tyN, isBoolT]; decide +kernel)
theorem kit_str (t : Th) : kitB (tyN t) "str" = some (isStrT t) := by cases t <;> (simp only [tyN, isStrT]; decide +kernel)
theorem kit_tup (t : Th) : kitB (tyN t) "tuple" = some (isTupT t) := by cases t <;> (simp only [tyN, isTupT]; decide +kernel)
theorem kit_lst (t : Th) : kitB (tyN t) "list" = some (isLstT t) := by cases t <;> (simp only [tyN, isLstT]; decide +kernel)
end
/-! what kind a thing is -/
def lettersS : Str := "abcdefghijklmnopqrstuvwxyz"
def nmd (x : Str) : Bool := decide (1 ≤ x.length) && decide (x.length ≤ 8) && x.cps.toList.all fun c => decide (c ∈ lettersS.cps.toList)
def isWhole : Th → Bool
  | .int _ => true
  | _ => false
def isNamed : Th → Bool
  | .str x => nmd x
  | _ => false
mutual
def isTerm : Th → Bool
  | .int i => decide (0 ≤ i)
  | .tup [] => false
  | .tup (t :: ts) => isNamed t && decide (ts.length ≤ 3) && isTerms ts
  | _ => false
def isTerms : List Th → Bool
  | [] => true
  | t :: ts => isTerm t && isTerms ts
end
mutual
def Th.cnt : Th → Nat
  | .tup ts => Th.cnts ts + 1
  | _ => 1
def Th.cnts : List Th → Nat
  | [] => 0
  | t :: ts => t.cnt + Th.cnts ts
end
theorem isTerms_all : ∀ ts : List Th, isTerms ts = ts.all isTerm
  | [] => by simp [isTerms]
  | t :: ts => by simp [isTerms, isTerms_all ts]
theorem Th.cnts_append : ∀ ts us : List Th, Th.cnts (ts ++ us) = Th.cnts ts + Th.cnts us
  | [], us => by simp [Th.cnts]
  | t :: ts, us => by
    simp only [List.cons_append, Th.cnts, Th.cnts_append ts us]
    omega
mutual
/-- a term as a thing -/
def Tm.th : Tm → Th
  | .var i => .int i
  | .op x ts => .tup (.str x :: Tm.ths ts)
def Tm.ths : List Tm → List Th
  | [] => []
  | t :: ts => t.th :: Tm.ths ts
end
section
variable {K : PySem.W.Frag} {b : Addr} {H : Hp}
mutual
theorem Is.of_im {R : Int → Prop} : ∀ (t : Tm) (v : V), t.ok R → Im K H v t.d → Is K b H v t.th
  | .var i, v, _, h => h.intI
  | .op x ts, v, k, h => by
    obtain ⟨a, xs0, rfl, ha, hxs⟩ := h.tupI
    obtain ⟨x', xs, rfl, hx', hys⟩ := hxs.invD
    exact ⟨a, x' :: xs, rfl, ha, IsAll.cons ⟨hx'.strI, by have := k.1.2.1; omega⟩ (IsAll.of_ims ts xs k.2.2 hys)⟩
theorem IsAll.of_ims {R : Int → Prop} : ∀ (ts : List Tm) (xs : List V), Tm.oks R ts → Ims K H xs (Tm.ds ts) → IsAll K b H xs (Tm.ths ts)
  | [], xs, _, h => h.nilD
  | t :: ts, xs, k, h => by
    obtain ⟨v, vs, rfl, h1, h2⟩ := h.invD
    exact IsAll.cons (Is.of_im t v k.1 h1) (IsAll.of_ims ts vs k.2 h2)
end
end
theorem nmd_nm {x : Str} (h : Nm x) : nmd x = true := by
  unfold nmd
  have h3 : (x.cps.toList.all fun c => decide (c ∈ lettersS.cps.toList)) = true := by
    rw [List.all_eq_true]
    intro c hc
    have := h.2.2 c hc
    have k : ∀ c : Fin 123, 97 ≤ c.val → decide (c.val ∈ lettersS.cps.toList) = true := by decide +kernel
    exact k ⟨c, by omega⟩ this.1
  rw [h3, decide_eq_true h.1, decide_eq_true h.2.1]
  rfl
end Fm
namespace Fm
open PySem PySem.Spec PyProof.Rows L2
/-! tuple * int, also once and not at all -/
theorem tmul_one (l : Addr) (items : Array Value) (n : Nat) (dd : Option Addr) (sl : Array (Option Value)) (u : Tok) :
    Meets (Builtin.«tuple.__mul__» ⟨[.ref l, .int 1 u], []⟩) (fun _ R s => s.heap.get? l = some { cls := .type "tuple", dict := dd, data := .seq items n, slots := sl } ∧ R (.ok (.ret (Value.ref l))) s) :=
  .of_wp fun prog w A R s h => by
    obtain ⟨hp, g, d, tk, os⟩ := s
    obtain ⟨hl, h⟩ := h
    have f1 := AutoSeq1.idx_int
    have c0 : (decide ((1 : Int) < -(2 ^ 63)) || decide ((1 : Int) ≥ 2 ^ 63)) = false := by decide
    have c1 : (items.isEmpty || (1 : Int) == 1) = true := by simp
    wp_walk using wpAny_loadPart' hl
    repeat (first
      | (refine wpAny_ite_false (decide_eq_false (by rw [c0]; exact Bool.false_ne_true)) ?_; wp_walk using wpAny_loadPart' hl)
      | (refine wpAny_ite_true (decide_eq_true c1) ?_; wp_walk using wpAny_loadPart' hl))
    exact ⟨_, rfl, h⟩
theorem tmul_zero (l : Addr) (items : Array Value) (n : Nat) (dd : Option Addr) (sl : Array (Option Value)) (u : Tok) (hi : items.isEmpty = false) :
    Meets (Builtin.«tuple.__mul__» ⟨[.ref l, .int 0 u], []⟩) (fun _ R s => s.heap.get? l = some { cls := .type "tuple", dict := dd, data := .seq items n, slots := sl } ∧
      R (.ok (.ret (Value.ref s.heap.objs.size))) { s with heap := s.heap.push { cls := Value.type "tuple", data := Data.seq #[] }, toks := s.toks }) :=
  .of_wp fun prog w A R s h => by
    obtain ⟨hp, g, d, tk, os⟩ := s
    obtain ⟨hl, h⟩ := h
    have f1 := AutoSeq1.idx_int
    have c0 : (decide ((0 : Int) < -(2 ^ 63)) || decide ((0 : Int) ≥ 2 ^ 63)) = false := by decide
    have c1 : (items.isEmpty || (0 : Int) == 1) = false := by rw [hi]; rfl
    have c2 : (decide ((0 : Int) ≤ 0) || items.isEmpty) = true := by simp
    have hsz : (#[] : Array Value).size ≤ sizeLine := Nat.zero_le _
    wp_walk using wpAny_loadPart' hl
    repeat (first
      | (refine wpAny_ite_false (decide_eq_false (by rw [c0]; exact Bool.false_ne_true)) ?_; wp_walk using wpAny_loadPart' hl)
      | (refine wpAny_ite_false (decide_eq_false (by rw [c1]; exact Bool.false_ne_true)) ?_; wp_walk using wpAny_loadPart' hl)
      | (refine wpAny_ite_true (decide_eq_true c2) ?_; wp_walk using wpAny_loadPart' hl)
      | (refine wpAny_ite_false (decide_eq_false (Nat.not_lt.mpr hsz)) ?_; wp_walk using wpAny_loadPart' hl))
    exact ⟨_, rfl, h⟩
def rRepTG (K : PySem.W.Frag) : R2 := fun x y H Q => ∃ l k xs, x = .ref l ∧ y = .int k ∧ SqT K H l xs ∧ xs ≠ [] ∧ 0 ≤ k ∧ k ≤ 1000 ∧ xs.length ≤ 1000 ∧ (k = 1 → Q (.ref l) H) ∧ (k ≠ 1 → ∀ p, H p = none → Q (.ref p) (upd H p (.tup (List.replicate k.toNat xs).flatten)))
section
variable {X : Cx}
theorem op_repTG : OpR X (binaryOp .Mult) (rRepTG X.K) := by
  intro pins s σ H x y v u Q I rx ry h
  obtain ⟨l, k, xs, rfl, rfl, hT, hne, h1, h2, hz, q1, q2⟩ := h
  by_cases hk : 2 ≤ k
  · exact op_repT pins s σ H _ _ _ _ Q I rx ry ⟨l, k, xs, rfl, rfl, hT, hne, hk, h2, hz, q2 (by omega)⟩
  cases rx
  obtain ⟨t, rfl⟩ := ry
  obtain ⟨its, r, ⟨⟨cls, dd, data, sl⟩, ho, hc, n, hd⟩, hs⟩ := I.tuple hT
  simp only at hc hd
  subst hc hd
  have hle : its.length = xs.length := r.length.symm
  have hi : its.toArray.isEmpty = false := by
    cases its with
    | nil => exact absurd (List.eq_nil_of_length_eq_zero hle.symm) hne
    | cons a b => rfl
  have hk' : k = 0 ∨ k = 1 := by omega
  rcases hk' with rfl | rfl
  · refine wpAny_binaryOp_repeat_ref (T := "tuple") (U := "int") (by decide) ⟨_, ho, rfl⟩ (fun s' => typeIs_int s' 0 t) noFill_tuple_mul F.fills_int_mul F.slot_int_rmul repeat_tuple F.slot_int_index.lookup
      (call_meets F.slot_int_rmul (typeIs_int s 0 t) F.entry_int_rmul (F.args_int_rmul_2 _ _) (int_rmul_tuple 0 t l its.toArray n dd sl)
        ⟨ho, rfl, ⟨_, ho, rfl⟩, call_meets F.slot_tuple_mul ⟨_, ho, rfl⟩ F.entry_tuple_mul (F.args_tuple_mul_2 _ _) (tmul_zero l its.toArray n dd sl t hi) ⟨ho, ?_⟩⟩)
    refine ⟨.ref s.heap.objs.size, _, I.laid (t' := s.toks) (o := .tup []) (fun b ob q => Heap.get?_push_of_some _ q) (Nat.le_refl _) ?_, rfl, q2 (by decide) _ (I.hok.fresh (Nat.le_refl _))⟩
    exact ⟨Nat.zero_le _, [], .nil, IsTup.new _ _⟩
  · refine wpAny_binaryOp_repeat_ref (T := "tuple") (U := "int") (by decide) ⟨_, ho, rfl⟩ (fun s' => typeIs_int s' 1 t) noFill_tuple_mul F.fills_int_mul F.slot_int_rmul repeat_tuple F.slot_int_index.lookup
      (call_meets F.slot_int_rmul (typeIs_int s 1 t) F.entry_int_rmul (F.args_int_rmul_2 _ _) (int_rmul_tuple 1 t l its.toArray n dd sl)
        ⟨ho, rfl, ⟨_, ho, rfl⟩, call_meets F.slot_tuple_mul ⟨_, ho, rfl⟩ F.entry_tuple_mul (F.args_tuple_mul_2 _ _) (tmul_one l its.toArray n dd sl t) ⟨ho, ?_⟩⟩)
    exact ⟨.ref l, H, I, rfl, q1 rfl⟩
end
end Fm
namespace Fm
open PySem PySem.Spec PyProof.Rows L2
/-! the end: a law whose def asks for reprs -/
section
variable {P : Program} {w : World} {K : PySem.W.Frag} {mg mb : Str → Option Value} {k : Nat} {fa a : Addr} {fd : FuncData} {x : Str} {sp : Sp} {s : Shared} {vs : List Value} {ns : List Int}
/-- from a heap that knows nothing but, perhaps, the script -/
theorem from_heap (KX : K.In s.heap) (hg0 : s.heap.Ns mainGlobals mg) (hb : s.heap.Ns builtinsNs mb) (hbb : ∀ y : Str, y ≠ "__name__" → mb y = bootBuiltins y) (hlim : s.heap.NoLimit) (hg : s.gens = #[])
    (ha : s.heap.get? a = some { cls := .type "list", data := .seq vs.toArray }) (hr : Room k callerA) (F : ∀ base : Heap, K.In base → base.Ns mainGlobals mg → FnOkG P w K mg base CX0 k fa fd [x] sp)
    (hbind : ∀ (t : Shared) (u : Value), BindsTo t fd ⟨[u], []⟩ [(x, u)]) (H : Hp) (hO : Only H) (hok : HOk P w H s.heap) (hA : ∀ b, H b ≠ none → b = a) (hK : H a ≠ none → K.lookup a = none)
    (hsp : sp [.ref a] H (fun v _ => v = .bl true) fun _ _ _ => False) :
    codeAny (model P w) callerA (.call (.ref fa) ⟨[.ref a], []⟩) (fun r t => r = .ok (.ret (.bool true)) ∧ OldK s.heap t.heap ∧ t.os = s.os ∧ AllBare t.gens) s := by
  have free : ∀ {b : Addr} {o : Obj} {es : Array DictEntry} {ep : Nat}, s.heap.get? b = some o → o.data = .dict es ep → H b = none := by
    intro b o es ep e d
    cases q : H b with
    | none => rfl
    | some u =>
      have z := hA b (by rw [q]; exact Option.some_ne_none u)
      rw [z, ha] at e
      cases e
      exact nomatch d
  have ns : ∀ {b : Addr} {m : Str → Option Value}, s.heap.Ns b m → (hidT s.heap H).Ns b m := by
    rintro b m ⟨o, es, ep, e, d, r⟩
    exact ⟨o, es, ep, hidT_get e (free e d), d, r⟩
  have kin : K.In (hidT s.heap H) := by
    intro b o e
    refine hidT_get (KX b o e) ?_
    cases q : H b with
    | none => rfl
    | some u =>
      have z := hA b (by rw [q]; exact Option.some_ne_none u)
      rw [z] at q e
      rw [hK (by rw [q]; exact Option.some_ne_none u)] at e
      cases e
  have lim : (hidT s.heap H).NoLimit := by
    obtain ⟨mc, l1, l2⟩ := hlim
    exact ⟨mc, ns l1, l2⟩
  have env : Env0 P w K mg (hidT s.heap H) callerA [] s H :=
    ⟨rfl, ⟨kin, ns hg0, ⟨mb, ns hb, hbb⟩, lim⟩, fun b o e => of_hidT e, Nat.le_of_eq (hidT_size _ _), trivial, (fun b z => absurd (show b ∈ ([] : List Addr) from z) List.not_mem_nil), hok, .of_eq hg⟩
  have run := (F _ kin (ns hg0)).run callerA [] s H ⟨[.ref a], []⟩ [.ref a] [.ref a] _ _ rfl hr env (hbind s (.ref a)) (.cons rfl .nil) hsp
  refine codeAny_mono run fun r t h => ?_
  match r, h with
  | .error e, h => exact False.elim h
  | .ok (.ret u), h =>
    obtain ⟨v, H', os, bare, un, hok', r', q⟩ := h
    have q' : v = .bl true := q
    rw [q'] at r'
    obtain rfl : u = Value.bool true := r'
    refine ⟨rfl, OldK.of_keep fun b o e => ?_, os, bare⟩
    rcases hO b with z | ⟨ob, xs, z⟩
    · exact un.keep b o e z (fun y => absurd (show b ∈ ([] : List Addr) from y) List.not_mem_nil) (fun y => nomatch y)
    · obtain ⟨e1, _⟩ := hok b _ z
      obtain ⟨e2, _⟩ := hok' b _ (un.frzs b ob _ z)
      rw [e1] at e
      cases e
      exact e2
theorem law_callG (KX : K.In s.heap) (hg0 : s.heap.Ns mainGlobals mg) (hb : s.heap.Ns builtinsNs mb) (hbb : ∀ y : Str, y ≠ "__name__" → mb y = bootBuiltins y) (hlim : s.heap.NoLimit) (hg : s.gens = #[])
    (ha : s.heap.get? a = some { cls := .type "list", data := .seq vs.toArray }) (hi : IntsAre vs ns) (hl : ns.length ≤ sizeLine) (hr : Room k callerA)
    (F : ∀ base : Heap, K.In base → base.Ns mainGlobals mg → FnOkG P w K mg base CX0 k fa fd [x] sp) (hbind : ∀ (t : Shared) (u : Value), BindsTo t fd ⟨[u], []⟩ [(x, u)])
    (hsp : ∀ H : Hp, SqL K H a (ns.map V.int) → sp [.ref a] H (fun v _ => v = .bl true) fun _ _ _ => False) :
    codeAny (model P w) callerA (.call (.ref fa) ⟨[.ref a], []⟩) (fun r t => r = .ok (.ret (.bool true)) ∧ OldK s.heap t.heap ∧ t.os = s.os ∧ AllBare t.gens) s := by
  have rv := vals_ints hi
  have hlen : (ns.map V.int).length ≤ sizeLine := by
    rw [List.length_map]
    exact hl
  cases hk : K.lookup a with
  | some o =>
    have e := KX a o hk
    rw [ha] at e
    cases e
    refine from_heap KX hg0 hb hbb hlim hg ha hr F hbind (fun _ => none) (fun _ => .inl rfl) (fun b u z => nomatch z) (fun b z => absurd rfl z) (fun z => absurd rfl z) (hsp _ ?_)
    exact .inr ⟨_, vs.toArray, _, hk, rfl, rfl, rfl, by rw [List.size_toArray, hi.length]; exact hl, by simpa using rv⟩
  | none =>
    have at_ : ∀ b, (if b = a then some (HO.frz { cls := .type "list", data := .seq vs.toArray } (.lst (ns.map V.int))) else none) ≠ none → b = a := by
      intro b z
      by_cases e : b = a
      · exact e
      · rw [if_neg e] at z
        exact absurd rfl z
    refine from_heap KX hg0 hb hbb hlim hg ha hr F hbind (fun b => if b = a then some (.frz { cls := .type "list", data := .seq vs.toArray } (.lst (ns.map V.int))) else none) (fun b => ?_) (fun b u z => ?_) at_ (fun _ => hk)
      (hsp _ (.inl (.inr ⟨_, if_pos rfl⟩)))
    · by_cases e : b = a
      · exact .inr ⟨_, _, if_pos e⟩
      · exact .inl (if_neg e)
    · have e : b = a := at_ b (by
        have z' : (if b = a then some (HO.frz { cls := .type "list", data := .seq vs.toArray } (.lst (ns.map V.int))) else none) = some u := z
        rw [z']
        exact Option.some_ne_none u)
      subst e
      have z' := (if_pos rfl).symm.trans z
      cases z'
      exact ⟨ha, hlen, vs, _, rv, ha⟩
end
theorem walk_G {l : PySem.W.OpenLaw} {n k : Nat} {q : Program} {loose : List Str} {XP : (Str → Option Value) → Heap → Prop} {YP : World → Heap → Prop} {d : DefRec} {K : Params → PySem.W.Frag} {sp : PySem.W.Frag → Sp} {x : Str}
    (hn : l.most = some n) (hn2 : n ≤ sizeLine) (hdf : d.params.defaults = []) (hr : Room k callerA) (hY : ∀ (w : World) (h : Heap), YP w h → (K w.params).In h)
    (F : ∀ (w : World) (mg : Str → Option Value) (fa : Addr) (h : Heap), (K w.params).In h → h.Ns mainGlobals mg → mg d.name = some (.ref fa) →
      ∃ fd : FuncData, (∀ (t : Shared) (u : Value), BindsTo t fd ⟨[u], []⟩ [(x, u)]) ∧ ∀ base : Heap, (K w.params).In base → base.Ns mainGlobals mg → FnOkG l.prog w (K w.params) mg base CX0 k fa fd [x] (sp (K w.params)))
    (hsp : ∀ (K : PySem.W.Frag) (H : Hp) (a : Addr) (ns : List Int), ns.length ≤ n → SqL K H a (ns.map V.int) → sp K [.ref a] H (fun v _ => v = .bl true) fun _ _ _ => False) :
    PySem.W.WalkO q loose XP YP l.row.toRowW d [] (fun f vs => PySem.call f vs) := by
  refine Att.attach_call hn hdf fun w s₀ s₁ mg mb fa o pm cd doc a vs ns G Y ho hd hcd hmg hobj hints hlen hgens => ?_
  obtain ⟨fd, hb, hF⟩ := F w mg fa _ (hY w _ Y) G.T.g hmg
  exact law_callG (hY w _ Y) G.T.g G.T.b G.T.builtins G.T.nolimit hgens hobj hints (Nat.le_trans hlen hn2) hr hF hb fun H hS => hsp _ H a ns hlen hS
end Fm
namespace Fm
open PySem PySem.Spec PyProof.Rows L2
structure DefAt (K : PySem.W.Frag) (mg : Str → Option Value) (x : Str) (st : Stmt) (ps : List Str) where
  f : Addr
  fd : FuncData
  F : Fun K x x st f fd
  g : mg x = some (.ref f)
  b : Binds K fd ps []
def topS (i : Nat) : Stmt := PySem.Challenge.pw_framemoves_k11_kinds_known.main.body.getD i (.Pass ⟨0, 0, 0, 0⟩)
abbrev s_is_integer : Stmt := topS 4
abbrev N_is_integer : List Str := ["thing"]
abbrev P_is_integer : List Str := ["thing"]
theorem sc_is_integer : FnScope N_is_integer P_is_integer (defScope s_is_integer) := ⟨rfl, rfl, rfl, by decide +kernel, rfl, by decide +kernel, by decide +kernel⟩
abbrev s_is_name : Stmt := topS 5
abbrev N_is_name : List Str := ["thing", "sign"]
abbrev P_is_name : List Str := ["thing"]
theorem sc_is_name : FnScope N_is_name P_is_name (defScope s_is_name) := ⟨rfl, rfl, rfl, by decide +kernel, rfl, by decide +kernel, by decide +kernel⟩
abbrev s_is_outcome : Stmt := topS 6
abbrev N_is_outcome : List Str := ["thing"]
abbrev P_is_outcome : List Str := ["thing"]
theorem sc_is_outcome : FnScope N_is_outcome P_is_outcome (defScope s_is_outcome) := ⟨rfl, rfl, rfl, by decide +kernel, rfl, by decide +kernel, by decide +kernel⟩
abbrev s_is_term : Stmt := topS 7
abbrev N_is_term : List Str := ["thing", "waiting", "one"]
abbrev P_is_term : List Str := ["thing"]
theorem sc_is_term : FnScope N_is_term P_is_term (defScope s_is_term) := ⟨rfl, rfl, rfl, by decide +kernel, rfl, by decide +kernel, by decide +kernel⟩
abbrev s_are_values : Stmt := topS 8
abbrev N_are_values : List Str := ["many", "thing", "one"]
abbrev P_are_values : List Str := ["many", "thing"]
theorem sc_are_values : FnScope N_are_values P_are_values (defScope s_are_values) := ⟨rfl, rfl, rfl, by decide +kernel, rfl, by decide +kernel, by decide +kernel⟩
abbrev s__law_bag : Stmt := topS 10
abbrev N__law_bag : List Str := ["_law_script", "_law_cell"]
abbrev P__law_bag : List Str := ["_law_script"]
theorem sc__law_bag : FnScope N__law_bag P__law_bag (defScope s__law_bag) := ⟨rfl, rfl, rfl, by decide +kernel, rfl, by decide +kernel, by decide +kernel⟩
abbrev s__law_take : Stmt := topS 11
abbrev N__law_take : List Str := ["_law_bag_here", "_law_many", "_law_cell", "_law_mixed", "_law_value", "_law_begin", "_law_second"]
abbrev P__law_take : List Str := ["_law_bag_here", "_law_many"]
theorem sc__law_take : FnScope N__law_take P__law_take (defScope s__law_take) := ⟨rfl, rfl, rfl, by decide +kernel, rfl, by decide +kernel, by decide +kernel⟩
abbrev s__law_alike : Stmt := topS 12
abbrev N__law_alike : List Str := ["_law_found", "_law_due"]
abbrev P__law_alike : List Str := ["_law_found", "_law_due"]
theorem sc__law_alike : FnScope N__law_alike P__law_alike (defScope s__law_alike) := ⟨rfl, rfl, rfl, by decide +kernel, rfl, by decide +kernel, by decide +kernel⟩
abbrev s__law_names : Stmt := topS 13
abbrev N__law_names : List Str := ["_law_bag_here", "_law_many", "_law_letters", "_law_words", "_law_way", "_law_turn", "_law_base", "_law_at", "_law_k"]
abbrev P__law_names : List Str := ["_law_bag_here", "_law_many"]
theorem sc__law_names : FnScope N__law_names P__law_names (defScope s__law_names) := ⟨rfl, rfl, rfl, by decide +kernel, rfl, by decide +kernel, by decide +kernel⟩
abbrev s__law_term : Stmt := topS 14
abbrev N__law_term : List Str := ["_law_bag_here", "_law_names_here", "_law_many", "_law_deep_here", "_law_way", "_law_name", "_law_parts", "_law_k"]
abbrev P__law_term : List Str := ["_law_bag_here", "_law_names_here", "_law_many", "_law_deep_here"]
theorem sc__law_term : FnScope N__law_term P__law_term (defScope s__law_term) := ⟨rfl, rfl, rfl, by decide +kernel, rfl, by decide +kernel, by decide +kernel⟩
abbrev s__law_is_named : Stmt := topS 15
abbrev N__law_is_named : List Str := ["_law_thing_here", "_law_sign"]
abbrev P__law_is_named : List Str := ["_law_thing_here"]
theorem sc__law_is_named : FnScope N__law_is_named P__law_is_named (defScope s__law_is_named) := ⟨rfl, rfl, rfl, by decide +kernel, rfl, by decide +kernel, by decide +kernel⟩
abbrev s__law_is_outcome : Stmt := topS 16
abbrev N__law_is_outcome : List Str := ["_law_thing_here"]
abbrev P__law_is_outcome : List Str := ["_law_thing_here"]
theorem sc__law_is_outcome : FnScope N__law_is_outcome P__law_is_outcome (defScope s__law_is_outcome) := ⟨rfl, rfl, rfl, by decide +kernel, rfl, by decide +kernel, by decide +kernel⟩
abbrev s__law_is_whole : Stmt := topS 17
abbrev N__law_is_whole : List Str := ["_law_thing_here"]
abbrev P__law_is_whole : List Str := ["_law_thing_here"]
theorem sc__law_is_whole : FnScope N__law_is_whole P__law_is_whole (defScope s__law_is_whole) := ⟨rfl, rfl, rfl, by decide +kernel, rfl, by decide +kernel, by decide +kernel⟩
abbrev s__law_is_term : Stmt := topS 18
abbrev N__law_is_term : List Str := ["_law_thing_here", "_law_part"]
abbrev P__law_is_term : List Str := ["_law_thing_here"]
theorem sc__law_is_term : FnScope N__law_is_term P__law_is_term (defScope s__law_is_term) := ⟨rfl, rfl, rfl, by decide +kernel, rfl, by decide +kernel, by decide +kernel⟩
abbrev s__law_odd : Stmt := topS 19
abbrev N__law_odd : List Str := ["_law_bag_here", "_law_odd_here"]
abbrev P__law_odd : List Str := ["_law_bag_here"]
theorem sc__law_odd : FnScope N__law_odd P__law_odd (defScope s__law_odd) := ⟨rfl, rfl, rfl, by decide +kernel, rfl, by decide +kernel, by decide +kernel⟩
abbrev s__law_spoilt : Stmt := topS 20
abbrev N__law_spoilt : List Str := ["_law_bag_here", "_law_term_here", "_law_at"]
abbrev P__law_spoilt : List Str := ["_law_bag_here", "_law_term_here"]
theorem sc__law_spoilt : FnScope N__law_spoilt P__law_spoilt (defScope s__law_spoilt) := ⟨rfl, rfl, rfl, by decide +kernel, rfl, by decide +kernel, by decide +kernel⟩
abbrev s__law_text : Stmt := topS 21
abbrev N__law_text : List Str := ["_law_bag_here", "_law_signs", "_law_text_here", "_law_k"]
abbrev P__law_text : List Str := ["_law_bag_here"]
theorem sc__law_text : FnScope N__law_text P__law_text (defScope s__law_text) := ⟨rfl, rfl, rfl, by decide +kernel, rfl, by decide +kernel, by decide +kernel⟩
abbrev s__law_thing : Stmt := topS 22
abbrev N__law_thing : List Str := ["_law_bag_here", "_law_names_here", "_law_way", "_law_some", "_law_term_here", "_law_k"]
abbrev P__law_thing : List Str := ["_law_bag_here", "_law_names_here"]
theorem sc__law_thing : FnScope N__law_thing P__law_thing (defScope s__law_thing) := ⟨rfl, rfl, rfl, by decide +kernel, rfl, by decide +kernel, by decide +kernel⟩
abbrev s__law_deep : Stmt := topS 23
abbrev N__law_deep : List Str := ["_law_bag_here", "_law_names_here", "_law_term_here", "_law_k"]
abbrev P__law_deep : List Str := ["_law_bag_here", "_law_names_here"]
theorem sc__law_deep : FnScope N__law_deep P__law_deep (defScope s__law_deep) := ⟨rfl, rfl, rfl, by decide +kernel, rfl, by decide +kernel, by decide +kernel⟩
abbrev s__law_many_right : Stmt := topS 24
abbrev N__law_many_right : List Str := ["_law_bag_here", "_law_many", "_law_some", "_law_at", "_law_odd_here", "_law_whole", "_law_k"]
abbrev P__law_many_right : List Str := ["_law_bag_here"]
theorem sc__law_many_right : FnScope N__law_many_right P__law_many_right (defScope s__law_many_right) := ⟨rfl, rfl, rfl, by decide +kernel, rfl, by decide +kernel, by decide +kernel⟩
abbrev s_law : Stmt := topS 25
abbrev N_law : List Str := ["_law_script", "_law_bag_here", "_law_names_here", "_law_turn", "_law_thing_here", "_law_many", "_law_due", "_law_right_size", "_law_found", "_law_part"]
abbrev P_law : List Str := ["_law_script"]
theorem sc_law : FnScope N_law P_law (defScope s_law) := ⟨rfl, rfl, rfl, by decide +kernel, rfl, by decide +kernel, by decide +kernel⟩
structure TX (K : PySem.W.Frag) (mg : Str → Option Value) where
  d_is_integer : DefAt K mg "is_integer" s_is_integer P_is_integer
  d_is_name : DefAt K mg "is_name" s_is_name P_is_name
  d_is_outcome : DefAt K mg "is_outcome" s_is_outcome P_is_outcome
  d_is_term : DefAt K mg "is_term" s_is_term P_is_term
  d_are_values : DefAt K mg "are_values" s_are_values P_are_values
  d__law_bag : DefAt K mg "_law_bag" s__law_bag P__law_bag
  d__law_take : DefAt K mg "_law_take" s__law_take P__law_take
  d__law_alike : DefAt K mg "_law_alike" s__law_alike P__law_alike
  d__law_names : DefAt K mg "_law_names" s__law_names P__law_names
  d__law_term : DefAt K mg "_law_term" s__law_term P__law_term
  d__law_is_named : DefAt K mg "_law_is_named" s__law_is_named P__law_is_named
  d__law_is_outcome : DefAt K mg "_law_is_outcome" s__law_is_outcome P__law_is_outcome
  d__law_is_whole : DefAt K mg "_law_is_whole" s__law_is_whole P__law_is_whole
  d__law_is_term : DefAt K mg "_law_is_term" s__law_is_term P__law_is_term
  d__law_odd : DefAt K mg "_law_odd" s__law_odd P__law_odd
  d__law_spoilt : DefAt K mg "_law_spoilt" s__law_spoilt P__law_spoilt
  d__law_text : DefAt K mg "_law_text" s__law_text P__law_text
  d__law_thing : DefAt K mg "_law_thing" s__law_thing P__law_thing
  d__law_deep : DefAt K mg "_law_deep" s__law_deep P__law_deep
  d__law_many_right : DefAt K mg "_law_many_right" s__law_many_right P__law_many_right
  d_law : DefAt K mg "law" s_law P_law
  b_abs : mg "abs" = none
  b_all : mg "all" = none
  b_bool : mg "bool" = none
  b_int : mg "int" = none
  b_isinstance : mg "isinstance" = none
  b_len : mg "len" = none
  b_list : mg "list" = none
  b_range : mg "range" = none
  b_repr : mg "repr" = none
  b_str : mg "str" = none
  b_tuple : mg "tuple" = none
  v_LETTERS : Value
  c_LETTERS : mg "LETTERS" = some v_LETTERS
  r_LETTERS : RelV (.str "abcdefghijklmnopqrstuvwxyz") v_LETTERS
  v_MOST_LETTERS : Value
  c_MOST_LETTERS : mg "MOST_LETTERS" = some v_MOST_LETTERS
  r_MOST_LETTERS : RelV (.int 8) v_MOST_LETTERS
  v_MOST_PARTS : Value
  c_MOST_PARTS : mg "MOST_PARTS" = some v_MOST_PARTS
  r_MOST_PARTS : RelV (.int 3) v_MOST_PARTS
end Fm
namespace Fm
open PySem PySem.Spec PyProof.Rows L2
section
variable {P : Program} {w : World} {K : PySem.W.Frag} {mg : Str → Option Value} {base : Heap}
def sp_bag (K : PySem.W.Frag) : Sp := fun vs H Q _ => ∃ (a : Addr) (ns : List Int), vs = [.ref a] ∧ SqL K H a (ns.map V.int) ∧ ns.length ≤ 63 ∧ ∀ H' p, Mv [] H H' → H p = none → Bag H' p → Q (.ref p) H'
theorem cut63 (xs : List V) (h : xs.length ≤ 63) : cutV xs none (some 63) = xs := by
  unfold cutV
  rw [HT.sIx_none, show HT.sIx xs.length xs.length (some 63) = min 63 xs.length from HT.sIx_nat xs.length xs.length 63, List.drop_zero, List.take_of_length_le (by omega)]
theorem ok__law_bag (T : TX K mg) {k : Nat} : FnOk P w K mg base CX0 (k + 1) T.d__law_bag.f T.d__law_bag.fd P__law_bag (sp_bag K) := by
  refine T.d__law_bag.F.ok sc__law_bag (fun vs H Q E h => ?_) (fun cdv A outer s H vs Q E hr h => ?_)
  · obtain ⟨a, ns, rfl, _⟩ := h
    rfl
  · obtain ⟨a, ns, rfl, hS, hl, q⟩ := h
    refine ⟨_, (pss_one (ps_ret (pe_lst (pa_cons pe_int (pa_cons pe_int (pa_cons pe_int (pa_cons (pe_lc (own := [("_law_cell", 1)]) (g := gName 1) (by rfl) sc__law_bag.nd (pi_seq (pe_slice (r := rSlG K) sl_G (pv 0) po_none (po_some pe_int))) (blkOk_by (own := [("_law_cell", 1)]) (N := N__law_bag) (sc := defScope s__law_bag) (by decide +kernel)) (fun _ _ _ _ _ => pg_name (i := 1) sc__law_bag.nd rfl (Or.inl rfl)) (fun _ _ _ _ _ => pts_nil) (fun _ _ _ _ _ => (pe_callB call_abs (by rfl) T.b_abs bt_abs (pa_cons (pv 1) pa_nil)))) pa_nil))))))), ?_⟩
    refine ⟨.ref a, rfl, 63, rfl, Or.inl ⟨a, _, rfl, hS, fun c nc => ⟨c, rfl, Or.inl ⟨⟨_, .inl (.inl upd_same)⟩, fun D nD => ?_⟩⟩⟩⟩
    have hlen : (ns.map V.int).length ≤ 63 := by rw [List.length_map]; exact hl
    rw [cut63 _ hlen] at nD ⊢
    refine lc_list (K := K) (a := c) (xs := ns.map V.int) (fun i H3 => ∃ ms : List Int, H3 c = some (.lst (ns.map V.int)) ∧ H3 D = some (.lst (ms.map V.int)) ∧ ms.length = i ∧ (∀ n ∈ ms, 0 ≤ n) ∧ Mv [] H H3)
      ⟨[], ?_, upd_same, rfl, by simp, ?_⟩ (fun i H3 _ h3 => ?_) (fun i x H3 hx h3 => ?_) (fun H3 h3 => ?_)
    · rw [upd_ne (ne_of_none upd_same nD), upd_same]
    · exact (Mv.new nc).trans (.new nD)
    · obtain ⟨ms, h1, _⟩ := h3
      exact .inl (.inl h1)
    · obtain ⟨ms, h1, h2, h4, h5, h6⟩ := h3
      obtain ⟨n, hn, rfl⟩ : ∃ n ∈ ns, x = .int n := by
        have := List.mem_of_getElem? hx
        obtain ⟨n, hn, e⟩ := List.mem_map.mp this
        exact ⟨n, hn, e.symm⟩
      have hDc : c ≠ D := ne_of_none upd_same nD
      refine ⟨rfl, .int n, rfl, n, rfl, _, h2, ?_, ms ++ [if n < 0 then -n else n], ?_, ?_, ?_, ?_, ?_⟩
      · rw [List.length_map]
        have := (List.getElem?_eq_some_iff.mp hx).1
        rw [List.length_map] at this
        exact small1000 (by omega)
      · rw [upd_ne hDc]
        exact h1
      · rw [upd_same, List.map_append]
        rfl
      · simp [h4]
      · intro z hz
        rcases List.mem_append.mp hz with hz | hz
        · exact h5 z hz
        · rw [List.mem_singleton.mp hz]
          split <;> omega
      · exact h6.wr ((Mv.new nc).free nD)
    · obtain ⟨ms, h1, h2, h4, h5, h6⟩ := h3
      refine ⟨(by decide : 4 ≤ sizeLine), fun p np => q _ p (h6.trans (.new np)) (h6.free np) ⟨D, 0, 1234567891, 0, ms, upd_same, ?_, ?_, h5, by decide, by decide, by decide⟩⟩
      · rw [upd_ne (ne_of_none h2 np)]
        exact h2
      · rw [h4, List.length_map]
        exact hl

/-- a number from 0 to n - 1 is drawn -/
def sp_take : Sp := fun vs H Q _ => ∃ (b : Addr) (n : Int), vs = [.ref b, .int n] ∧ Bag H b ∧ 0 < n ∧ n ≤ 1000000 ∧ ∀ (i : Int) H', 0 ≤ i → i < n → Dr b H H' → Q (.int i) H'
theorem Bag.set {H : Hp} {b c : Addr} {ns : List Int} {s m k : Int} {xs : List V} (hb : H b = some (.lst xs)) (hc : H c = some (.lst (ns.map V.int))) (hcb : c ≠ b)
    (hl : ns.length ≤ 63) (hn : ∀ n ∈ ns, 0 ≤ n) (h1 : 0 ≤ s) (h2 : 0 ≤ k) (h3 : 0 ≤ m) : BagC (upd H b (.lst [.int s, .int m, .int k, .ref c])) b c :=
  ⟨s, m, k, ns, upd_same, by rw [upd_ne hcb]; exact hc, hl, hn, h1, h2, h3⟩
theorem rd_set {p : Addr} {xs ys : List V} {k : Int} {j : Nat} {v : V} {H : Hp} {Q : Hp → Prop} (hp : H p = some (.lst xs)) (hj : ixN xs.length k = some j) (hy : xs.set j v = ys)
    (h : ∀ H', H' p = some (.lst ys) → Mv [p] H H' → (∀ a, a ≠ p → H' a = H a) → Q H') : rSetL (.ref p) (.int k) v H Q := by
  refine ⟨p, xs, k, j, rfl, rfl, hp, hj, ?_⟩
  rw [hy]
  exact h _ upd_same (.set hp (by simp)) fun a ha => upd_ne ha
theorem ok__law_take (T : TX K mg) {k : Nat} : FnOk P w K mg base CX0 (k + 1) T.d__law_take.f T.d__law_take.fd P__law_take sp_take := by
  refine T.d__law_take.F.ok sc__law_take (fun vs H Q E h => ?_) (fun cdv A outer s H vs Q E hr h => ?_)
  · obtain ⟨a, ns, rfl, _⟩ := h
    rfl
  · obtain ⟨b, n, rfl, hB, h0, h1, q⟩ := h
    have hu64 := hr.units
    refine ⟨_, (Evl.pss_cut (ps_if (pt_cmpR (r := rEqG K) (op_eqG hu64) (pe_ix (r := rIx K) ix_seq (pv 0) pe_int (fun _ _ => rfl)) pe_int (nomark _)) (pss_cons (ps_set (i := 2) sc__law_take.nd rfl (Or.inl rfl) pe_int) (Evl.pss_cut (ps_if (pt_cmpR op_lt (pe_ix (r := rIx K) ix_seq (pv 0) pe_int (fun _ _ => rfl)) (pe_callB (r := rLenG K) call_lenG (by rfl) T.b_len bt_len (pa_cons (pe_ix (r := rIx K) ix_seq (pv 0) pe_int (fun _ _ => rfl)) pa_nil)) (nomark _)) (pss_one (ps_set (i := 2) sc__law_take.nd rfl (Or.inl rfl) (pe_ix (r := rIx K) ix_seq (pe_ix (r := rIx K) ix_seq (pv 0) pe_int (fun _ _ => rfl)) (pe_ix (r := rIx K) ix_seq (pv 0) pe_int (fun _ _ => rfl)) (fun _ _ => rfl)))) pss_nil) (pss_cons (ps_augS (pv 0) pe_int get_G pe_int ip_add set_list) (Evl.pss_cut (ps_if (pt_cmpR op_ge (pv 2) pe_int (nomark _)) (pss_one (ps_asg (pv 2) (pg_sub (pv 0) pe_int set_list))) pss_nil) (pss_cons (ps_set (i := 3) sc__law_take.nd rfl (Or.inl rfl) (pe_op (r := rAddG K) op_addG (pe_op (r := rAddG K) op_addG (pe_op op_mulG (pe_ix (r := rIx K) ix_seq (pv 0) pe_int (fun _ _ => rfl)) pe_int) (pe_op op_mod (pe_callTy call_int1 (by rfl) T.b_int bt_int (pa_cons (pv 2) pa_nil)) pe_int)) (pe_op op_mulG pe_int (pe_ix (r := rIx K) ix_seq (pv 0) pe_int (fun _ _ => rfl))))) (pss_one (ps_asg (pe_op op_mod (pe_callTy call_int1 (by rfl) T.b_int bt_int (pa_cons (pv 3) pa_nil)) pe_int) (pg_sub (pv 0) pe_int set_list)))))))) pss_nil) (pss_cons (ps_if (pt_cmpR op_gt (pe_ix (r := rIx K) ix_seq (pv 0) pe_int (fun _ _ => rfl)) pe_int (nomark _)) (pss_cons (ps_set (i := 4) sc__law_take.nd rfl (Or.inl rfl) (pe_op op_mod (pe_callTy call_int1 (by rfl) T.b_int bt_int (pa_cons (pe_ix (r := rIx K) ix_seq (pv 0) pe_int (fun _ _ => rfl)) pa_nil)) (pv 1))) (pss_cons (ps_asg (pe_op op_fdivW (pe_ix (r := rIx K) ix_seq (pv 0) pe_int (fun _ _ => rfl)) (pv 1)) (pg_sub (pv 0) pe_int set_list)) (pss_one (ps_ret (pv 4))))) pss_nil) (pss_cons (ps_set (i := 5) sc__law_take.nd rfl (Or.inl rfl) (pe_op op_mod (pe_callTy call_int1 (by rfl) T.b_int bt_int (pa_cons (pe_op op_mulG (pe_op (r := rAddG K) op_addG (pe_ix (r := rIx K) ix_seq (pv 0) pe_int (fun _ _ => rfl)) pe_int) pe_int) pa_nil)) pe_int)) (pss_cons (ps_set (i := 6) sc__law_take.nd rfl (Or.inl rfl) (pe_op op_mod (pe_callTy call_int1 (by rfl) T.b_int bt_int (pa_cons (pe_op op_mulG (pe_op op_mod (pe_callTy call_int1 (by rfl) T.b_int bt_int (pa_cons (pe_op op_mulG (pv 5) (pv 5)) pa_nil)) pe_int) pe_int) pa_nil)) pe_int)) (pss_cons (ps_if (pt_cmpR op_gt (pv 1) pe_int (nomark _)) (pss_one (ps_ret (pe_op op_mod (pe_callTy call_int1 (by rfl) T.b_int bt_int (pa_cons (pe_op (r := rAddG K) op_addG (pe_op op_mulG (pv 6) pe_int) (pv 5)) pa_nil)) (pv 1)))) pss_nil) (pss_one (ps_ret (pe_op op_mod (pe_callTy call_int1 (by rfl) T.b_int bt_int (pa_cons (pe_op op_fdivW (pv 6) pe_int) pa_nil)) (pv 1))))))))), ?_⟩
    obtain ⟨c, hB⟩ := hB
    have hBC := hB
    obtain ⟨z, m, j, ns, eb, ec, hl, hn, hz, hj, hm⟩ := hB
    have hcb : c ≠ b := Bag.ne (xs := [.int z, .int m, .int j]) eb ec
    have sq : ∀ {H : Hp} {xs : List V}, H b = some (.lst xs) → SqL K H b xs := fun h => .inl (.inl h)
    -- behind the first if
    refine ⟨fun σ H1 => ∃ y2 y3 y4 y5 y6, σ = [some (.ref b), some (.int n), y2, y3, y4, y5, y6] ∧ Dr b H H1 ∧ BagC H1 b c, ?_, fun σ H1 hM => ?_⟩
    · refine ⟨.ref b, rfl, Or.inl ⟨b, _, 0, .int z, rfl, rfl, sq eb, rfl, Or.inl ⟨rfl, _, rfl, ite2 (fun e => ?_) (fun e => ?_)⟩⟩⟩
      · -- cell = 0; the next cell
        refine ⟨fun σ H1 => ∃ x : Int, 0 ≤ x ∧ σ = [some (.ref b), some (.int n), some (.int x), none, none, none, none] ∧ H1 = H, ?_, fun σ H1 hM => ?_⟩
        · refine ⟨.ref b, rfl, Or.inl ⟨b, _, 2, .int j, rfl, rfl, sq eb, rfl, .ref b, rfl, Or.inl ⟨b, _, 3, .ref c, rfl, rfl, sq eb, rfl, Or.inl ⟨c, _, rfl, .inl (.inl (.inl ec)), j, _, rfl, rfl, _, rfl, ite2 (fun e => ?_) (fun e => ?_)⟩⟩⟩⟩
          · have e' : j < (ns.map V.int).length := of_decide_eq_true e
            obtain ⟨i, rfl⟩ := Int.eq_ofNat_of_zero_le hj
            have hi : i < ns.length := by
              rw [List.length_map] at e'
              omega
            have gi : (ns.map V.int)[i]? = some (.int ns[i]) := by
              rw [List.getElem?_map, List.getElem?_eq_getElem hi]
              rfl
            refine ⟨.ref b, rfl, Or.inl ⟨b, _, 3, .ref c, rfl, rfl, sq eb, rfl, .ref b, rfl, Or.inl ⟨b, _, 2, .int (i : Int), rfl, rfl, sq eb, rfl, Or.inl ⟨c, _, _, .int ns[i], rfl, rfl, .inl (.inl ec), atI_nat gi, ?_⟩⟩⟩⟩
            exact ⟨ns[i], hn _ (List.getElem_mem hi), rfl, rfl⟩
          · exact ⟨0, Int.le_refl _, rfl, rfl⟩
        · obtain ⟨x, hx, rfl, rfl⟩ := hM
          -- bag[2] += 1
          refine ⟨.ref b, rfl, b, _, 2, .int j, rfl, rfl, sq eb, rfl, j, 1, rfl, rfl, rd_set eb rfl rfl fun H2 eb2 m1 k1 => ?_⟩
          have ec2 : H2 c = some (.lst (ns.map V.int)) := by rw [k1 c hcb]; exact ec
          -- a great cell is kept
          refine ⟨fun σ H3 => ∃ z' : Int, 0 ≤ z' ∧ σ = [some (.ref b), some (.int n), some (.int x), none, none, none, none] ∧ H3 b = some (.lst [.int z', .int m, .int (j + 1), .ref c]) ∧ H3 c = some (.lst (ns.map V.int)) ∧ Mv [b] H2 H3, ?_, fun σ H3 hM => ?_⟩
          · refine ⟨.int x, rfl, x, _, rfl, rfl, _, rfl, ite2 (fun e => ?_) (fun e => ?_)⟩
            · refine ⟨.int x, rfl, .ref b, rfl, b, _, 0, 0, rfl, rfl, eb2, rfl, x, hx, rfl, upd_same, ?_, .set eb2 (by simp)⟩
              rw [upd_ne hcb]
              exact ec2
            · exact ⟨z, hz, rfl, eb2, ec2, .refl⟩
          · obtain ⟨z', hz', rfl, eb3, ec3, m3⟩ := hM
            refine ⟨.ref b, rfl, Or.inl ⟨b, _, 1, .int m, rfl, rfl, sq eb3, rfl, Or.inl ⟨m, 48271, rfl, rfl, .inr ⟨by decide, by decide⟩, .int x, rfl, Or.inl ⟨x, rfl, x, _, rfl, rfl, (by decide : (0 : Int) < _), ?_⟩⟩⟩⟩
            refine Or.inl ⟨_, _, rfl, rfl, .ref b, rfl, Or.inl ⟨b, _, 2, .int (j + 1), rfl, rfl, sq eb3, rfl, Or.inl ⟨7919, j + 1, rfl, rfl, .inl ⟨by decide, by decide⟩, Or.inl ⟨_, _, rfl, rfl, ?_⟩⟩⟩⟩
            refine ⟨_, rfl, Or.inl ⟨_, rfl, _, _, rfl, rfl, (by decide : (0 : Int) < _), .ref b, rfl, b, _, 1, 1, rfl, rfl, eb3, rfl, _, _, _, _, _, rfl, ?_, ?_⟩⟩
            · exact .mkc ((m1.trans m3).trans (.set eb3 (by simp))) hBC (Bag.set eb3 ec3 hcb hl hn hz' (by omega) (Int.emod_nonneg _ (by decide)))
            · exact Bag.set eb3 ec3 hcb hl hn hz' (by omega) (Int.emod_nonneg _ (by decide))
      · exact ⟨_, _, _, _, _, rfl, .refl, z, m, j, ns, eb, ec, hl, hn, hz, hj, hm⟩
    · obtain ⟨y2, y3, y4, y5, y6, rfl, hD, hB⟩ := hM
      have hBC1 := hB
      obtain ⟨z, m, j, ns, eb, ec, hl, hn, hz, hj, hm⟩ := hB
      have hcb : c ≠ b := Bag.ne (xs := [.int z, .int m, .int j]) eb ec
      refine ⟨.ref b, rfl, Or.inl ⟨b, _, 0, .int z, rfl, rfl, sq eb, rfl, z, 0, rfl, rfl, _, rfl, ite2 (fun e => ?_) (fun e => ?_)⟩⟩
      · -- value = int(bag[0]) % many; bag[0] = bag[0] // many; return value
        refine ⟨.ref b, rfl, Or.inl ⟨b, _, 0, .int z, rfl, rfl, sq eb, rfl, Or.inl ⟨z, rfl, .int n, rfl, z, n, rfl, rfl, h0, ?_⟩⟩⟩
        refine ⟨.ref b, rfl, Or.inl ⟨b, _, 0, .int z, rfl, rfl, sq eb, rfl, .int n, rfl, z, n, rfl, rfl, ?_, ?_⟩⟩
        · exact wide_div (b := 64) h0 (by omega) (by decide) (by decide)
        · refine ⟨.ref b, rfl, b, _, 0, 0, rfl, rfl, eb, rfl, ?_⟩
          refine ⟨.int (z % n), rfl, q _ _ (Int.emod_nonneg z (by omega)) (Int.emod_lt_of_pos z h0) (hD.trans (.mkc (.set eb (by simp)) hBC1 ?_))⟩
          exact Bag.set eb ec hcb hl hn (Int.ediv_nonneg hz (by omega)) hj hm
      · refine ⟨.ref b, rfl, Or.inl ⟨b, _, 1, .int m, rfl, rfl, sq eb, rfl, Or.inl ⟨m, 1, rfl, rfl, Or.inl ⟨_, _, rfl, rfl, .inr ⟨by decide, by decide⟩, Or.inl ⟨_, rfl, _, _, rfl, rfl, (by decide : (0 : Int) < _), ?_⟩⟩⟩⟩⟩
        have hx0 : 0 ≤ (m + 1) * 39373 % 1000000007 := Int.emod_nonneg _ (by decide)
        have hx1 : (m + 1) * 39373 % 1000000007 < 1000000007 := Int.emod_lt_of_pos _ (by decide)
        refine ⟨_, rfl, _, rfl, Or.inl ⟨(m + 1) * 39373 % 1000000007, (m + 1) * 39373 % 1000000007, rfl, rfl, .inl ⟨by omega, by omega⟩, Or.inl ⟨_, rfl, _, _, rfl, rfl, (by decide : (0 : Int) < _), Or.inl ⟨_, _, rfl, rfl, .inr ⟨by decide, by decide⟩, Or.inl ⟨_, rfl, _, _, rfl, rfl, (by decide : (0 : Int) < _), ?_⟩⟩⟩⟩⟩
        refine ⟨.int n, rfl, n, _, rfl, rfl, _, rfl, ite2 (fun e => ?_) (fun e => ?_)⟩
        · exact absurd (of_decide_eq_true e) (by omega)
        · refine ⟨_, rfl, _, 7, rfl, rfl, ⟨by decide, by decide⟩, Or.inl ⟨_, rfl, .int n, rfl, _, n, rfl, rfl, h0, ?_⟩⟩
          exact q _ _ (Int.emod_nonneg _ (by omega)) (Int.emod_lt_of_pos _ h0) hD
end
end Fm
namespace Fm
open PySem PySem.Spec PyProof.Rows L2
/-- a new list of names -/
def sp_names : Sp := fun vs H Q _ => ∃ (b : Addr) (n : Nat), vs = [.ref b, .int n] ∧ Bag H b ∧ 0 < n ∧ n ≤ 12 ∧
  ∀ (p : Addr) (xs : List Str) H', xs.length = n → (∀ x ∈ xs, Nm x) → H p = none → H' p = some (.lst (xs.map V.str)) → Dr b H H' → Q (.ref p) H'
theorem rd_split {X : Cx} {a b : Str} {H : Hp} {Q : VK} (P : List Str → Bool) (hP : P (Txt.split a b) = true)
    (h : ∀ p ws H', P ws = true → H p = none → H' p = some (.lst (ws.map V.str)) → Mv [] H H' → Q (.ref p) H') : rNewStrs (Txt.split a b) H Q :=
  fun p np => h p _ _ hP np upd_same (.new np)
theorem str_len_append (x y : Str) : (x ++ y).length = x.length + y.length := by first | exact strLen_append x y | (show (x.cps ++ y.cps).size = _; simp [Str.length])
theorem str_cps_append (x y : Str) : (x ++ y).cps.toList = x.cps.toList ++ y.cps.toList := by
  show (x.cps ++ y.cps).toList = _
  simp
theorem join_chars : ∀ l : List Nat, Txt.join "" (l.map fun c => (⟨#[c]⟩ : Str)) = ⟨l.toArray⟩
  | [] => by decide +kernel
  | [c] => by
    show Builtin.Str.glued _ _ = _
    rw [StrLaws.glued_eq_join]
    rfl
  | c :: d :: l => by
    have ih := join_chars (d :: l)
    show Builtin.Str.glued _ _ = _
    have ih' : Builtin.Str.glued "" ((d :: l).map fun c => (⟨#[c]⟩ : Str)) = ⟨(d :: l).toArray⟩ := ih
    rw [StrLaws.glued_eq_join] at ih' ⊢
    show (⟨#[c]⟩ : Str) ++ "" ++ Str.join "" ((d :: l).map fun c => (⟨#[c]⟩ : Str)) = _
    rw [ih']
    show (⟨(#[c] ++ #[]) ++ (d :: l).toArray⟩ : Str) = _
    simp
theorem cutS_to (z : Str) (i : Nat) (h : i ≤ z.length) : (cutS z none (some (i : Int))).cps.toList = z.cps.toList.take i := by
  unfold cutS
  rw [HT.sIx_none, HT.sIx_nat, Nat.min_eq_left h]
  simp
theorem cutS_from (z : Str) (i : Nat) (h : i ≤ z.length) : (cutS z (some (i : Int)) none).cps.toList = z.cps.toList.drop i := by
  unfold cutS
  rw [HT.sIx_none, HT.sIx_nat, Nat.min_eq_left h]
  have e : z.cps.toList.length = z.length := by simp [Str.length]
  show ((z.cps.toList.drop i).take (z.length - i)).toArray.toList = _
  rw [List.take_of_length_le (by rw [List.length_drop, e]; exact Nat.le_refl _)]
theorem len_cps (z : Str) : z.cps.toList.length = z.length := by simp [Str.length]
theorem sum_ones : ∀ cs : List Nat, ((cs.map fun c => (⟨#[c]⟩ : Str)).map (·.length)).sum = cs.length
  | [] => rfl
  | c :: cs => by
    have := sum_ones cs
    simp only [List.map_cons, List.sum_cons, List.length_cons, this]
    show 1 + cs.length = _
    omega
theorem cutV_from {xs : List V} {i : Int} (h0 : 0 ≤ i) (h : i ≤ xs.length) : cutV xs (some i) none = xs.drop i.toNat := by
  obtain ⟨j, rfl⟩ := Int.eq_ofNat_of_zero_le h0
  unfold cutV
  rw [HT.sIx_none, HT.sIx_nat, Nat.min_eq_left (by omega), List.take_of_length_le (by rw [List.length_drop]; exact Nat.le_refl _)]
  rfl
theorem cutV_to {xs : List V} {i : Int} (h0 : 0 ≤ i) : cutV xs none (some i) = xs.take i.toNat := by
  obtain ⟨j, rfl⟩ := Int.eq_ofNat_of_zero_le h0
  unfold cutV
  rw [HT.sIx_none, HT.sIx_nat, List.drop_zero]
  show xs.take (min j xs.length - 0) = xs.take j
  rw [Nat.sub_zero]
  by_cases e : j ≤ xs.length
  · rw [Nat.min_eq_left e]
  · rw [Nat.min_eq_right (by omega), List.take_of_length_le (Nat.le_refl _), List.take_of_length_le (by omega)]
theorem rd_letter {K : PySem.W.Frag} {z : Str} {j : Int} {H : Hp} {Q : VK} (hz : (decide (z.length = 26) && z.cps.toList.all fun c => decide (97 ≤ c) && decide (c ≤ 122)) = true) (h0 : 0 ≤ j) (h1 : j < 26)
    (h : ∀ c : Nat, 97 ≤ c → c ≤ 122 → z.cps.toList[j.toNat]? = some c → Q (.str ⟨#[c]⟩) H) : rIx K (.str z) (.int j) H Q := by
  simp only [Bool.and_eq_true, decide_eq_true_eq, List.all_eq_true] at hz
  obtain ⟨hl, ha⟩ := hz
  obtain ⟨i, rfl⟩ := Int.eq_ofNat_of_zero_le h0
  have hi : i < z.cps.toList.length := by rw [len_cps, hl]; omega
  have e := List.getElem?_eq_getElem hi
  have hc := ha _ (List.getElem_mem hi)
  exact Or.inr (Or.inr ⟨z, i, _, rfl, rfl, by rw [hl]; decide, atI_nat e, h _ hc.1 hc.2 e⟩)
section
variable {P : Program} {w : World} {K : PySem.W.Frag} {mg : Str → Option Value} {base : Heap}
theorem ok__law_names (T : TX K mg) {k : Nat} : FnOk P w K mg base CX0 (k + 2) T.d__law_names.f T.d__law_names.fd P__law_names sp_names := by
  have G__law_take : FnOk P w K mg base CX0 (k + 1) T.d__law_take.f T.d__law_take.fd P__law_take sp_take := ok__law_take T
  refine T.d__law_names.F.ok sc__law_names (fun vs H Q E h => ?_) (fun cdv A outer s H vs Q E hr h => ?_)
  · obtain ⟨b, n, rfl, _⟩ := h
    rfl
  · obtain ⟨b, n, rfl, hB, h0, h1, q⟩ := h
    have hu64 := hr.units
    refine ⟨_, (pss_cons (ps_set (i := 2) sc__law_names.nd rfl (Or.inr rfl) pe_str) (pss_cons (ps_set (i := 3) sc__law_names.nd rfl (Or.inl rfl) pe_str) (pss_cons (ps_set (i := 3) sc__law_names.nd rfl (Or.inl rfl) (pe_bm PySem.F.plainAttrs_str PySem.F.slot_str_split PySem.F.type_str_split mt_split (pe_op (r := rAddG K) op_addG (pv 3) pe_str) (pa_cons pe_str pa_nil))) (pss_cons (ps_asg (pe_tup (pa_cons (pe_call G__law_take (hr.mono (by omega)) rfl T.d__law_take.g T.d__law_take.F.kp T.d__law_take.b .nil pass0 (pa_cons (pv 0) (pa_cons pe_int pa_nil))) (pa_cons (pe_call G__law_take (hr.mono (by omega)) rfl T.d__law_take.g T.d__law_take.F.kp T.d__law_take.b .nil pass0 (pa_cons (pv 0) (pa_cons pe_int pa_nil))) pa_nil))) (pg_tup rfl (pgs_cons (pg_name (i := 4) sc__law_names.nd rfl (Or.inl rfl)) (pgs_cons (pg_name (i := 5) sc__law_names.nd rfl (Or.inr rfl)) pgs_nil)))) (pss_cons (ps_set (i := 6) sc__law_names.nd rfl (Or.inr rfl) (pe_bm PySem.F.plainAttrs_str PySem.F.slot_str_join PySem.F.type_str_join mt_join pe_str (pa_cons (pe_lc (own := [("_law_k", 8)]) (g := gName 8) (by rfl) sc__law_names.nd (pi_range1 (by rfl) T.b_range (pa_cons (pe_op (r := rAddG K) op_addG pe_int (pe_call G__law_take (hr.mono (by omega)) rfl T.d__law_take.g T.d__law_take.F.kp T.d__law_take.b .nil pass0 (pa_cons (pv 0) (pa_cons pe_int pa_nil)))) pa_nil)) (blkOk_by (own := [("_law_k", 8)]) (N := N__law_names) (sc := defScope s__law_names) (by decide +kernel)) (fun _ _ _ _ _ => pg_name (i := 8) sc__law_names.nd rfl (Or.inl rfl)) (fun _ _ _ _ _ => pts_nil) (fun _ _ _ _ _ => (pe_ix (r := rIx K) ix_seq (pv 2) (pe_call G__law_take (hr.mono (by omega)) rfl T.d__law_take.g T.d__law_take.F.kp T.d__law_take.b .nil pass0 (pa_cons (pv 0) (pa_cons pe_int pa_nil))) (fun _ _ => rfl)))) pa_nil))) (pss_cons (ps_set (i := 7) sc__law_names.nd rfl (Or.inr rfl) (pe_call G__law_take (hr.mono (by omega)) rfl T.d__law_take.g T.d__law_take.F.kp T.d__law_take.b .nil pass0 (pa_cons (pv 0) (pa_cons (pe_op (r := rAddG K) op_addG (pe_callB (r := rLenG K) call_lenG (by rfl) T.b_len bt_len (pa_cons (pv 6) pa_nil)) pe_int) pa_nil)))) (pss_cons (ps_if (pt_cmpR (r := rEqG K) (op_eqG hu64) (pv 4) pe_int (nomark _)) (pss_one (ps_ret (pe_slice (r := rSlG K) sl_G (pe_op (r := rAddG K) op_addG (pe_slice (r := rSlG K) sl_G (pv 3) (po_some (pv 5)) po_none) (pe_slice (r := rSlG K) sl_G (pv 3) po_none (po_some (pv 5)))) po_none (po_some (pv 1))))) pss_nil) (pss_cons (ps_if (pt_cmpR (r := rEqG K) (op_eqG hu64) (pv 4) pe_int (nomark _)) (pss_one (ps_ret (pe_lc (own := [("_law_k", 8)]) (g := gName 8) (by rfl) sc__law_names.nd (pi_range1 (by rfl) T.b_range (pa_cons (pv 1) pa_nil)) (blkOk_by (own := [("_law_k", 8)]) (N := N__law_names) (sc := defScope s__law_names) (by decide +kernel)) (fun _ _ _ _ _ => pg_name (i := 8) sc__law_names.nd rfl (Or.inl rfl)) (fun _ _ _ _ _ => pts_nil) (fun _ _ _ _ _ => (pe_ix (r := rIx K) ix_seq (pv 2) (pe_op op_mod (pe_callTy call_int1 (by rfl) T.b_int bt_int (pa_cons (pe_op (r := rAddG K) op_addG (pv 5) (pe_op op_mulG pe_int (pv 8))) pa_nil)) pe_int) (fun _ _ => rfl)))))) pss_nil) (pss_one (ps_ret (pe_lc (own := [("_law_k", 8)]) (g := gName 8) (by rfl) sc__law_names.nd (pi_range1 (by rfl) T.b_range (pa_cons (pv 1) pa_nil)) (blkOk_by (own := [("_law_k", 8)]) (N := N__law_names) (sc := defScope s__law_names) (by decide +kernel)) (fun _ _ _ _ _ => pg_name (i := 8) sc__law_names.nd rfl (Or.inl rfl)) (fun _ _ _ _ _ => pts_nil) (fun _ _ _ _ _ => (pe_op (r := rAddG K) op_addG (pe_op (r := rAddG K) op_addG (pe_slice (r := rSlG K) sl_G (pv 6) po_none (po_some (pv 7))) (pe_ix (r := rIx K) ix_seq (pv 2) (pe_op op_mod (pe_callTy call_int1 (by rfl) T.b_int bt_int (pa_cons (pe_op (r := rAddG K) op_addG (pv 5) (pe_op op_mulG pe_int (pv 8))) pa_nil)) pe_int) (fun _ _ => rfl))) (pe_slice (r := rSlG K) sl_G (pv 6) (po_some (pv 7)) po_none)))))))))))))), ?_⟩
    refine ⟨_, rfl, Or.inr (Or.inl ⟨_, _, rfl, rfl, by decide +kernel, rfl, _, _, rfl, rfl, by decide +kernel, by decide +kernel, ?_⟩)⟩
    refine rd_split (X := (cxOf CX0 P w K mg base N__law_names "_law_names" (defScope s__law_names) T.d__law_names.f cdv A outer s H E)) (fun ws => decide (ws.length = 20) && ws.all fun x => decide (Nm x)) (by decide +kernel) fun wp ws H1 hws nwp ewp m1 => ?_
    simp only [Bool.and_eq_true, decide_eq_true_eq, List.all_eq_true] at hws
    obtain ⟨hw20, hwN⟩ := hws
    -- way, turn
    refine ⟨.ref b, rfl, b, 4, rfl, hB.mv m1, by decide, by decide, fun way H2 hw0 hw1 d2 => ⟨.ref b, rfl, b, 20, rfl, d2.bag (hB.mv m1), by decide, by decide, fun turn H3 ht0 ht1 d3 => ?_⟩⟩
    refine ⟨(by decide : 2 ≤ sizeLine), fun p np => ⟨p, _, rfl, .inl (.inl upd_same), rfl, _, _, rfl, _, _, rfl, rfl, ?_⟩⟩
    have d14 := (d2.trans d3).trans (Dr.new (o := .tup [.int way, .int turn]) np)
    have hB4 := d14.bag (hB.mv m1)
    generalize upd H3 p (.tup [.int way, .int turn]) = H4 at d14 hB4 ⊢
    have hwb : wp ≠ b := (hB.fneq nwp)
    have ew4 : H4 wp = some (.lst (ws.map V.str)) := d14.get hwb ewp
    -- base = ''.join([..])
    refine ⟨rfl, .ref b, rfl, b, 7, rfl, hB4, by decide, by decide, fun l H5 hl0 hl1 d5 => Or.inl ⟨1, l, rfl, rfl, 1 + l, rfl, by omega, by omega, fun D nD => ?_⟩⟩
    have hB5 := d5.bag hB4
    refine lc_range (lo := 0) (n := (1 + l).toNat) (fun i H6 => ∃ cs : List Nat, H6 D = some (.lst (cs.map fun c => V.str ⟨#[c]⟩)) ∧ cs.length = i ∧ (∀ c ∈ cs, 97 ≤ c ∧ c ≤ 122) ∧ Dr b H5 H6)
      ⟨[], upd_same, rfl, by simp, Dr.new nD⟩ (fun i H6 hi h6 => ?_) (fun H6 h6 => ?_)
    · obtain ⟨cs, e6, l6, c6, d6⟩ := h6
      refine ⟨rfl, _, rfl, .ref b, rfl, b, 26, rfl, d6.bag hB5, by decide, by decide, fun j H7 hj0 hj1 d7 => rd_letter (by decide +kernel) hj0 hj1 fun c hc0 hc1 _ => ?_⟩
      refine ⟨_, d7.get (hB5.fneq nD) e6, ?_, cs ++ [c], ?_, by simp [l6], ?_, (d6.trans d7).wr nD⟩
      · rw [List.length_map, l6]
        exact small1000 (by omega)
      · rw [upd_same, List.map_append]
        rfl
      · intro z hz
        rcases List.mem_append.mp hz with hz | hz
        · exact c6 z hz
        · rw [List.mem_singleton.mp hz]
          exact ⟨hc0, hc1⟩
    · obtain ⟨cs, e6, l6, c6, d6⟩ := h6
      have hmap : cs.map (fun c => V.str ⟨#[c]⟩) = (cs.map fun c => (⟨#[c]⟩ : Str)).map V.str := by rw [List.map_map]; rfl
      refine ⟨_, D, _, rfl, rfl, .inl (.inl (.inl (by rw [← hmap]; exact e6))), ?_, ?_⟩
      · rw [sum_ones, List.length_map, l6, show ("" : Str).length = 0 from by decide]
        omega
      · rw [join_chars]
        obtain ⟨B, hB0, hBl, hBc⟩ : ∃ B : Str, B = ⟨cs.toArray⟩ ∧ B.length = (1 + l).toNat ∧ ∀ c ∈ B.cps.toList, 97 ≤ c ∧ c ≤ 122 := ⟨_, rfl, by rw [← l6]; rfl, by simpa using c6⟩
        rw [← hB0]
        have hB6 := d6.bag hB5
        -- at
        refine ⟨.ref b, rfl, .str B, rfl, Or.inr (Or.inl ⟨B, rfl, Nat.le_of_lt (small1000 (by omega)), Or.inl ⟨_, 1, rfl, rfl, b, _, rfl, hB6, by omega, by omega, fun pl H7 hp0 hp1 d7 => ?_⟩⟩)⟩
        have d17 := (d14.trans d5).trans (d6.trans d7)
        have ew7 : H7 wp = some (.lst (ws.map V.str)) := d17.get hwb ewp
        have dH7 : Dr b H H7 := (Dr.of m1).trans d17
        have hB7 : Bag H7 b := dH7.bag hB
        have lenL : ∀ c : Nat, (⟨#[c]⟩ : Str).length = 1 := fun _ => rfl
        have fresh : ∀ {p H'}, Mv [] H7 H' → H' p = none → H p = none := fun m e => dH7.free hB (m.free e)
        refine ⟨.int way, rfl, Or.inl ⟨rfl, _, rfl, ite2 (fun e => ?_) (fun e => ?_)⟩⟩
        · -- the words, turned
          refine ⟨.ref wp, rfl, .int turn, rfl, turn, rfl, Or.inl ⟨wp, _, rfl, .inl (.inl ew7), fun p1 np1 => ?_⟩⟩
          have n1 : wp ≠ p1 := ne_of_none ew7 np1
          refine ⟨.ref wp, rfl, .int turn, rfl, turn, rfl, Or.inl ⟨wp, _, rfl, .inl (.inl (by rw [upd_ne n1]; exact ew7)), fun p2 np2 => ?_⟩⟩
          have n2 : p1 ≠ p2 := ne_of_none upd_same np2
          rw [cutV_from ht0 (by rw [List.length_map]; omega), cutV_to ht0] at *
          refine Or.inr (Or.inr (Or.inr ⟨p1, p2, _, _, rfl, rfl, by rw [upd_ne n2, upd_same], upd_same, ?_, fun p3 np3 => ?_⟩))
          · rw [List.length_drop, List.length_take, List.length_map]
            exact Nat.le_of_lt (small1000 (by omega))
          · refine ⟨.int n, rfl, (n : Int), rfl, Or.inl ⟨p3, _, rfl, .inl (.inl upd_same), fun p4 np4 => ?_⟩⟩
            refine q p4 ((ws.drop turn.toNat ++ ws.take turn.toNat).take n) _ ?_ (fun x hx => ?_) (fresh (((Mv.new (S := []) np1).trans (Mv.new np2)).trans (Mv.new np3)) np4) ?_ (dH7.trans (Dr.of (((Mv.new np1).trans (Mv.new np2)).trans ((Mv.new np3).trans (Mv.new np4)))))
            · rw [List.length_take, List.length_append, List.length_drop, List.length_take]
              omega
            · have h := List.mem_of_mem_take hx
              rcases List.mem_append.mp h with h | h
              · exact hwN x (List.mem_of_mem_drop h)
              · exact hwN x (List.mem_of_mem_take h)
            · rw [upd_same, cutV_to (by omega), List.map_take, List.map_append, List.map_drop, List.map_take]
              rfl
        · refine ⟨.int way, rfl, Or.inl ⟨rfl, _, rfl, ite2 (fun e => ?_) (fun e => ?_)⟩⟩
          · refine ⟨.int n, rfl, (n : Int), rfl, by omega, by omega, fun D8 nD8 => ?_⟩
            refine lc_range (lo := 0) (n := (n : Int).toNat) (fun i H8 => ∃ xs : List Str, H8 D8 = some (.lst (xs.map V.str)) ∧ xs.length = i ∧ (∀ x ∈ xs, Nm x) ∧ Mv [] H7 H8)
              ⟨[], upd_same, rfl, by simp, .new nD8⟩ (fun i H8 hi h8 => ?_) (fun H8 h8 => ?_)
            · obtain ⟨xs, e8, l8, c8, m8⟩ := h8
              refine ⟨rfl, _, rfl, .int turn, rfl, _, rfl, Or.inl ⟨3, _, rfl, rfl, .inl ⟨by decide, by decide⟩, Or.inl ⟨turn, _, rfl, rfl, Or.inl ⟨_, rfl, _, _, rfl, rfl, (by decide : (0 : Int) < _), ?_⟩⟩⟩⟩
              refine rd_letter (by decide +kernel) (Int.emod_nonneg _ (by decide)) (Int.emod_lt_of_pos _ (by decide)) fun c hc0 hc1 _ => ?_
              refine ⟨_, e8, ?_, xs ++ [⟨#[c]⟩], ?_, by simp [l8], ?_, m8.wr nD8⟩
              · rw [List.length_map, l8]
                exact small1000 (by omega)
              · rw [upd_same, List.map_append]
                rfl
              · intro z hz
                rcases List.mem_append.mp hz with hz | hz
                · exact c8 z hz
                · rw [List.mem_singleton.mp hz]
                  exact ⟨by rw [lenL]; decide, by rw [lenL]; decide, by simpa using ⟨hc0, hc1⟩⟩
            · obtain ⟨xs, e8, l8, c8, m8⟩ := h8
              exact q D8 xs H8 (by omega) c8 (dH7.free hB nD8) e8 (dH7.trans (Dr.of m8))
          · refine ⟨.int n, rfl, (n : Int), rfl, by omega, by omega, fun D8 nD8 => ?_⟩
            obtain ⟨at', rfl⟩ := Int.eq_ofNat_of_zero_le hp0
            have hat : at' ≤ B.length := by omega
            refine lc_range (lo := 0) (n := (n : Int).toNat) (fun i H8 => ∃ xs : List Str, H8 D8 = some (.lst (xs.map V.str)) ∧ xs.length = i ∧ (∀ x ∈ xs, Nm x) ∧ Mv [] H7 H8)
              ⟨[], upd_same, rfl, by simp, .new nD8⟩ (fun i H8 hi h8 => ?_) (fun H8 h8 => ?_)
            · obtain ⟨xs, e8, l8, c8, m8⟩ := h8
              have hsz : B.length ≤ sizeLine := Nat.le_of_lt (small1000 (by omega))
              have l1 : (cutS B none (some (at' : Int))).length = at' := by rw [← len_cps, cutS_to B at' hat, List.length_take, len_cps]; omega
              have l2 : (cutS B (some (at' : Int)) none).length = B.length - at' := by rw [← len_cps, cutS_from B at' hat, List.length_drop, len_cps]
              refine ⟨rfl, .str B, rfl, _, rfl, _, rfl, Or.inr (Or.inr ⟨B, rfl, hsz, _, rfl, .int turn, rfl, _, rfl, Or.inl ⟨3, _, rfl, rfl, .inl ⟨by decide, by decide⟩, Or.inl ⟨turn, _, rfl, rfl, Or.inl ⟨_, rfl, _, _, rfl, rfl, (by decide : (0 : Int) < _), ?_⟩⟩⟩⟩)⟩
              refine rd_letter (by decide +kernel) (Int.emod_nonneg _ (by decide)) (Int.emod_lt_of_pos _ (by decide)) fun c hc0 hc1 _ => ?_
              refine Or.inr (Or.inl ⟨_, _, rfl, rfl, by rw [l1, lenL]; exact Nat.le_of_lt (small1000 (by omega)), .str B, rfl, _, rfl, _, rfl, Or.inr (Or.inr ⟨B, rfl, hsz, Or.inr (Or.inl ⟨_, _, rfl, rfl, ?_, ?_⟩)⟩)⟩)
              · rw [str_len_append, l1, l2, lenL]
                exact Nat.le_of_lt (small1000 (by omega))
              · refine ⟨_, e8, ?_, xs ++ [cutS B none (some (at' : Int)) ++ ⟨#[c]⟩ ++ cutS B (some (at' : Int)) none], ?_, by simp [l8], ?_, m8.wr nD8⟩
                · rw [List.length_map, l8]
                  exact small1000 (by omega)
                · rw [upd_same, List.map_append]
                  rfl
                · intro z hz
                  rcases List.mem_append.mp hz with hz | hz
                  · exact c8 z hz
                  · rw [List.mem_singleton.mp hz]
                    refine ⟨?_, ?_, fun d hd => ?_⟩
                    · rw [str_len_append, str_len_append, l1, l2, lenL]
                      omega
                    · rw [str_len_append, str_len_append, l1, l2, lenL]
                      omega
                    · rw [str_cps_append, str_cps_append, cutS_to B at' hat, cutS_from B at' hat] at hd
                      rcases List.mem_append.mp hd with hd | hd
                      · rcases List.mem_append.mp hd with hd | hd
                        · exact hBc d (List.mem_of_mem_take hd)
                        · have : d = c := by simpa using hd
                          rw [this]
                          exact ⟨hc0, hc1⟩
                      · exact hBc d (List.mem_of_mem_drop hd)
            · obtain ⟨xs, e8, l8, c8, m8⟩ := h8
              exact q D8 xs H8 (by omega) c8 (dH7.free hB nD8) e8 (dH7.trans (Dr.of m8))
end
end Fm
namespace Fm
open PySem PySem.Spec PyProof.Rows L2
def sp_term (K : PySem.W.Frag) (d : Nat) : Sp := fun vs H Q _ => ∃ (b nm : Addr) (xs : List Str) (many deep : Int), vs = [.ref b, .ref nm, .int many, .int deep] ∧ Bag H b ∧
  H nm = some (.lst (xs.map V.str)) ∧ nm ≠ b ∧ xs ≠ [] ∧ xs.length ≤ 1000 ∧ (∀ x ∈ xs, Nm x) ∧ 0 ≤ many ∧ many ≤ 1000000 ∧ deep.toNat < d ∧
  ∀ v (t : Tm) H', t.ok (fun i => 0 ≤ i ∧ i < many) → t.dep ≤ max deep.toNat 1 → (0 < many → t.dep ≤ deep.toNat) → Im K H' v t.d → Dr b H H' → Q v H'
local macro_rules | `(tactic| walk_at "nn") => `(tactic| dsimp only [tC, tNil, tCons, tCB, tCall, gName, tSeq, tAsg, tPar, tDrop, tRet])
section
variable {P : Program} {w : World} {K : PySem.W.Frag} {mg : Str → Option Value} {base : Heap}
theorem ok__law_term (T : TX K mg) : ∀ d : Nat, FnOk P w K mg base CX0 (d + 2) T.d__law_term.f T.d__law_term.fd P__law_term (sp_term K d)
  | 0 => ⟨fun vs H Q E h => by obtain ⟨_, _, _, _, _, _, _, _, _, _, _, _, _, _, h, _⟩ := h; omega, fun _ _ _ _ _ _ _ _ _ _ _ _ _ h => by obtain ⟨_, _, _, _, _, _, _, _, _, _, _, _, _, _, h, _⟩ := h; omega⟩
  | d + 1 => by
    have G__law_term := ok__law_term T d
    have G__law_take : FnOk P w K mg base CX0 1 T.d__law_take.f T.d__law_take.fd P__law_take sp_take := ok__law_take T
    refine T.d__law_term.F.ok sc__law_term (fun vs H Q E h => ?_) (fun cdv A outer s H vs Q E hr h => ?_)
    · obtain ⟨b, nm, xs, many, deep, rfl, _⟩ := h
      rfl
    · obtain ⟨b, nm, xs, many, deep, rfl, hB, hN, hnb, hx0, hx1, hxN, hm0, hm1, hd, q⟩ := h
      have hu64 := hr.units
      have hlen : 0 < xs.length := List.length_pos_iff.mpr hx0
      refine ⟨_, (pss_cons (ps_set (i := 4) sc__law_term.nd rfl (Or.inl rfl) (pe_call G__law_take (hr.mono (by omega)) rfl T.d__law_take.g T.d__law_take.F.kp T.d__law_take.b .nil pass0 (pa_cons (pv 0) (pa_cons pe_int pa_nil)))) (pss_cons (ps_if (PW.pt (pw_and (pt_cmpR op_gt (pv 2) pe_int (nomark _)) (pw_and1 (PW.pt (pw_or (pt_cmpR op_lt (pv 3) pe_int (nomark _)) (pw_or1 (pt_cmpR (r := rEqG K) (op_eqG hu64) (pv 4) pe_int (nomark _)))))))) (pss_one (ps_ret (pe_call G__law_take (hr.mono (by omega)) rfl T.d__law_take.g T.d__law_take.F.kp T.d__law_take.b .nil pass0 (pa_cons (pv 0) (pa_cons (pv 2) pa_nil))))) pss_nil) (pss_cons (ps_par (i := 5) (j := 6) rfl sc__law_term.nd rfl rfl (by decide) rfl rfl (pa_cons (pe_ix (r := rIx K) ix_seq (pv 1) (pe_call G__law_take (hr.mono (by omega)) rfl T.d__law_take.g T.d__law_take.F.kp T.d__law_take.b .nil pass0 (pa_cons (pv 0) (pa_cons (pe_callB (r := rLenG K) call_lenG (by rfl) T.b_len bt_len (pa_cons (pv 1) pa_nil)) pa_nil))) (fun _ _ => rfl)) (pa_cons (pe_call G__law_take (hr.mono (by omega)) rfl T.d__law_take.g T.d__law_take.F.kp T.d__law_take.b .nil pass0 (pa_cons (pv 0) (pa_cons pe_int pa_nil))) pa_nil)) rfl) (pss_cons (ps_if (PW.pt (pw_or (PW.pt (pw_and (pt_cmpR op_le (pv 3) pe_int (nomark _)) (pw_and1 (pt_cmpR (r := rEqG K) (op_eqG hu64) (pv 2) pe_int (nomark _))))) (pw_or1 (pt_cmpR (r := rEqG K) (op_eqG hu64) (pv 4) pe_int (nomark _))))) (pss_one (ps_ret (pe_tup (pa_cons (pv 5) pa_nil)))) pss_nil) (pss_one (ps_ret (pe_op (r := rAddG K) op_addG (pe_tup (pa_cons (pv 5) pa_nil)) (pe_callTy (r := rTupOf K) call_tupG (by rfl) T.b_tuple bt_tuple (pa_cons (pe_lc (own := [("_law_k", 7)]) (g := gName 7) (by rfl) sc__law_term.nd (pi_range1 (by rfl) T.b_range (pa_cons (pv 6) pa_nil)) (blkOk_by (own := [("_law_k", 7)]) (N := N__law_term) (sc := defScope s__law_term) (by decide +kernel)) (fun _ _ _ _ _ => pg_name (i := 7) sc__law_term.nd rfl (Or.inl rfl)) (fun _ _ _ _ _ => pts_nil) (fun _ _ _ _ _ => (pe_call G__law_term (hr.mono (by omega)) rfl T.d__law_term.g T.d__law_term.F.kp T.d__law_term.b .nil pass0 (pa_cons (pv 0) (pa_cons (pv 1) (pa_cons (pv 2) (pa_cons (pe_op op_sub (pv 3) pe_int) pa_nil))))))) pa_nil))))))))), ?_⟩
      -- way
      refine ⟨.ref b, rfl, b, 4, rfl, hB, by decide, by decide, fun way H1 hw0 hw1 d1 => ?_⟩
      have hB1 := d1.bag hB
      have hN1 := d1.get hnb hN
      dsimp only [gName, tSeq, tPar]
      refine st_if (tb_and (tb_test (tv_I (tv_var rfl) tv_c)) (tb_or (tb_test (tv_I (tv_var rfl) tv_c)) (tb_test (tv_eqI (tv_var rfl) tv_c)))) ?_ ?_
      · -- an unknown
        intro e
        simp only [Bool.and_eq_true, decide_eq_true_eq] at e
        refine ⟨.ref b, rfl, .int many, rfl, b, many, rfl, hB1, e.1, hm1, fun i H2 hi0 hi1 d2 => ?_⟩
        exact q _ (.var i) H2 ⟨hi0, hi1⟩ (by simp [Tm.dep]) (fun _ => by simp [Tm.dep]) (Im.int i) (d1.trans d2)
      · intro e
        have e1 : ¬ (0 < many ∧ deep < 1) := fun z => by simp [z.1, z.2] at e
        -- name, parts
        refine ⟨.ref nm, rfl, .ref b, rfl, .ref nm, rfl, ?_⟩
        walk_at "nn"
        refine rd_len (.inl (.inl (.inl hN1))) ?_
        refine ⟨b, _, rfl, hB1, by rw [List.length_map]; omega, by rw [List.length_map]; omega, fun ni H2 hn0 hn1 d2 => ?_⟩
        rw [List.length_map] at hn1
        have hni : ni.toNat < xs.length := by omega
        have hB2 := d2.bag hB1
        have hN2 := d2.get hnb hN1
        refine rd_ixL (.inl (.inl hN2)) hn0 (v := .str xs[ni.toNat]) (by rw [List.getElem?_map, List.getElem?_eq_getElem hni]; rfl) ?_
        obtain ⟨nx, hnx, hNm⟩ : ∃ nx, nx = xs[ni.toNat] ∧ Nm nx := ⟨_, rfl, hxN _ (List.getElem_mem hni)⟩
        rw [← hnx]
        refine ⟨.ref b, rfl, b, 4, rfl, hB2, by decide, by decide, fun parts H3 hp0 hp1 d3 => ⟨_, _, rfl, ?_⟩⟩
        have hB3 := d3.bag hB2
        have hN3 := d3.get hnb hN2
        have d13 := (d1.trans d2).trans d3
        refine st_if (tb_or (tb_and (tb_test (tv_I (tv_var rfl) tv_c)) (tb_test (tv_eqI (tv_var rfl) tv_c))) (tb_test (tv_eqI (tv_var rfl) tv_c))) ?_ ?_
        · -- a constant
          intro e
          refine ⟨_, rfl, (by decide : 1 ≤ sizeLine), fun p np => ?_⟩
          refine q _ (.op nx []) _ ⟨hNm, by simp, trivial⟩ (by simp [Tm.dep, Tm.deps]; omega) (fun z => ?_) (Im.tup (.inl (.inl upd_same)) (Ims.cons (Im.str nx) Ims.nil)) (d13.trans (Dr.new np))
          simp only [Tm.dep, Tm.deps]
          omega
        · intro e
          have e2 : ¬ (deep ≤ 1 ∧ many = 0) := fun z => by simp [z.1, z.2] at e
          have hdeep : 1 ≤ deep := by omega
          refine ⟨_, rfl, (by decide : 1 ≤ sizeLine), fun p np => ?_⟩
          have d4 := d13.trans (Dr.new (o := .tup [.str nx]) np)
          have e4 : SqT K (upd H3 p (.tup [.str nx])) p [.str nx] := .inl (.inl upd_same)
          have hB4 := d4.bag hB
          have hN4 := d4.get hnb hN
          generalize upd H3 p (.tup [.str nx]) = H4 at d4 e4 hB4 hN4 ⊢
          refine ⟨.int parts, rfl, parts, rfl, by omega, by omega, fun D nD => ?_⟩
          refine lc_range (lo := 0) (n := parts.toNat) (fun i H5 => ∃ (vs : List V) (ts : List Tm), H5 D = some (.lst vs) ∧ Ims K H5 vs (Tm.ds ts) ∧ ts.length = i ∧ Tm.oks (fun i => 0 ≤ i ∧ i < many) ts ∧ Tm.deps ts ≤ max (deep - 1).toNat 1 ∧ (0 < many → Tm.deps ts ≤ (deep - 1).toNat) ∧ Dr b H4 H5)
            ⟨[], [], upd_same, Ims.nil, rfl, trivial, by simp [Tm.deps], fun _ => by simp [Tm.deps], Dr.new nD⟩ (fun i H5 hi h5 => ?_) (fun H5 h5 => ?_)
          · obtain ⟨vs, ts, e5, i5, l5, o5, p5, r5, d5⟩ := h5
            have hB5 := d5.bag hB4
            have hN5 := d5.get hnb hN4
            refine ⟨rfl, .ref b, rfl, .ref nm, rfl, .int many, rfl, .int deep, rfl, deep, 1, rfl, rfl, b, nm, xs, many, deep - 1, rfl, hB5, hN5, hnb, hx0, hx1, hxN, hm0, hm1, by omega, fun v t H6 ho hd1 hd2 him d6 => ?_⟩
            refine ⟨_, d6.get (hB4.fneq nD) e5, ?_, vs ++ [v], ts ++ [t], upd_same, ?_, by simp [l5], ?_, ?_, fun z => ?_, (d5.trans d6).wr nD⟩
            · rw [i5.length, Tm.ds_map, List.length_map, l5]
              exact small1000 (by omega)
            · rw [show Tm.ds (ts ++ [t]) = Tm.ds ts ++ [t.d] by simp [Tm.ds_map]]
              exact ((i5.mv d6.mv).append (Ims.cons him Ims.nil)).mv (Mv.set (S := [D]) (d6.get (hB4.fneq nD) e5) (by simp))
            · rw [Tm.oks_iff] at o5 ⊢
              intro y hy
              rcases List.mem_append.mp hy with hy | hy
              · exact o5 y hy
              · rw [List.mem_singleton.mp hy]
                exact ho
            · rw [Tm.deps_le] at p5 ⊢
              intro y hy
              rcases List.mem_append.mp hy with hy | hy
              · exact p5 y hy
              · rw [List.mem_singleton.mp hy]
                exact hd1
            · have r5' := r5 z
              have hd2' := hd2 z
              rw [Tm.deps_le] at r5' ⊢
              intro y hy
              rcases List.mem_append.mp hy with hy | hy
              · exact r5' y hy
              · rw [List.mem_singleton.mp hy]
                exact hd2'
          · obtain ⟨vs, ts, e5, i5, l5, o5, p5, r5, d5⟩ := h5
            walk_at "nn"
            refine rd_tupOf (.inl (.inl e5)) fun p6 H6 m6 e6 => ?_
            refine rd_cat (m6.sqT (d5.mv.sqT e4)) e6 ?_ fun p7 H7 m7 e7 => ?_
            · rw [i5.length, Tm.ds_map, List.length_map, l5]
              exact Nat.le_of_lt (small1000 (by simp; omega))
            · refine q _ (.op nx ts) H7 ⟨hNm, by omega, o5⟩ ?_ (fun z => ?_) (Im.tup e7 ?_) (d4.trans (d5.trans (Dr.of (m6.trans m7))))
              · simp only [Tm.dep]
                omega
              · have := r5 z
                simp only [Tm.dep]
                omega
              · exact Ims.cons (Im.str nx) ((i5.mv m6).mv m7)
end
end Fm
namespace Fm
open PySem PySem.Spec PyProof.Rows L2
local macro_rules | `(tactic| walk_at "nn") => `(tactic| dsimp only [tC, tNil, tCons, tCB, tCall, gName, tSeq, tAsg, tPar, tDrop, tRet])
local macro_rules | `(tactic| walk_at "nc") => `(tactic| dsimp only [tC, tNil, tCons, tCB])
theorem hu65_of {k : Nat} {A : Around} (h : Room k A) : A.units + 65 < cLine := by
  have := h.un
  omega
/-- a test of one thing -/
def sp_kind (K : PySem.W.Frag) (f : Th → Bool) : Sp := fun vs H Q _ => ∃ (v : V) (t : Th) (b : Addr), vs = [v] ∧ Is K b H v t ∧ ∀ H', Mv [] H H' → Q (.bl (f t)) H'
section
variable {P : Program} {w : World} {K : PySem.W.Frag} {mg : Str → Option Value} {base : Heap}
theorem ok_is_integer (T : TX K mg) {k : Nat} : FnOk P w K mg base CX0 (k + 1) T.d_is_integer.f T.d_is_integer.fd P_is_integer (sp_kind K isWhole) := by
  refine T.d_is_integer.F.ok sc_is_integer (fun vs H Q E h => ?_) (fun cdv A outer s H vs Q E hr h => ?_)
  · obtain ⟨_, _, _, rfl, _⟩ := h
    rfl
  · obtain ⟨v, t, b, rfl, hv, q⟩ := h
    refine ⟨_, (pss_one (ps_ret (pe_and (pe_callB (r := rIsi K) call_isi (by rfl) T.b_isinstance bt_isinstance (pa_cons (pv 0) (pa_cons (pe_ty T.b_int bt_int) pa_nil))) (pe_one (pe_not (pe_callB (r := rIsi K) call_isi (by rfl) T.b_isinstance bt_isinstance (pa_cons (pv 0) (pa_cons (pe_ty T.b_bool bt_bool) pa_nil)))))))), ?_⟩
    refine ⟨v, rfl, ?_⟩
    walk_at "nn"
    refine rd_isi hv (kit_int t) ?_
    refine ⟨_, rfl, ?_⟩
    cases t with
    | int j =>
      refine ⟨v, rfl, ?_⟩
      walk_at "nc"
      exact rd_isi hv (kit_bool (.int j)) ⟨_, rfl, q H .refl⟩
    | bl c =>
      refine ⟨v, rfl, ?_⟩
      walk_at "nc"
      exact rd_isi hv (kit_bool (.bl c)) ⟨_, rfl, q H .refl⟩
    | non => exact q H .refl
    | str x => exact q H .refl
    | tup ts => exact q H .refl
    | lst => exact q H .refl
    | dct => exact q H .refl
theorem ok_is_name (T : TX K mg) {k : Nat} : FnOk P w K mg base CX0 (k + 1) T.d_is_name.f T.d_is_name.fd P_is_name (sp_kind K isNamed) := by
  refine T.d_is_name.F.ok sc_is_name (fun vs H Q E h => ?_) (fun cdv A outer s H vs Q E hr h => ?_)
  · obtain ⟨_, _, _, rfl, _⟩ := h
    rfl
  · obtain ⟨v, t, b, rfl, hv, q⟩ := h
    have hu65 := hu65_of hr
    refine ⟨_, (pss_cons (ps_if (PW.pt (pw_or (pt_not (pt_val (pe_callB (r := rIsi K) call_isi (by rfl) T.b_isinstance bt_isinstance (pa_cons (pv 0) (pa_cons (pe_ty T.b_str bt_str) pa_nil))))) (pw_or1 (pt_not (pt_chain op_le op_le pe_int (pe_callB (r := rLenG K) call_lenG (by rfl) T.b_len bt_len (pa_cons (pv 0) pa_nil)) (pe_glob rfl T.c_MOST_LETTERS T.r_MOST_LETTERS)))))) (pss_one (ps_ret pe_bl)) pss_nil) (pss_one (ps_ret (pe_callB (r := rAll K) (cr_all rfl) (by rfl) T.b_all bt_all (pa_cons (pe_lc (own := [("sign", 1)]) (g := gName 1) (by rfl) sc_is_name.nd (pi_str (pv 0)) (blkOk_by (own := [("sign", 1)]) (N := N_is_name) (sc := defScope s_is_name) (by decide +kernel)) (fun _ _ _ _ _ => pg_name (i := 1) sc_is_name.nd rfl (Or.inl rfl)) (fun _ _ _ _ _ => pts_nil) (fun _ _ _ _ _ => (pe_cmpR (r := rInG K) (op_inG hu65) (pv 1) (pe_glob rfl T.c_LETTERS T.r_LETTERS) rfl))) pa_nil))))), ?_⟩
    refine ⟨v, rfl, ?_⟩
    walk_at "nn"
    refine rd_isi hv (kit_str t) ?_
    refine ⟨_, rfl, ?_⟩
    cases t with
    | int j => exact q H .refl
    | bl c => exact q H .refl
    | non => exact q H .refl
    | tup ts => exact q H .refl
    | lst => exact q H .refl
    | dct => exact q H .refl
    | str x =>
      obtain ⟨rfl, hlen⟩ := hv
      refine ⟨.str x, rfl, ?_⟩
      walk_at "nc"
      refine Or.inr (Or.inl ⟨x, rfl, Nat.le_of_lt (small1000 (by omega)), 1, _, rfl, rfl, _, rfl, ite2 (fun e1 => ?_) (fun e1 => ?_)⟩)
      · refine ⟨_, 8, rfl, rfl, _, rfl, ite2 (fun e2 => ?_) (fun e2 => ?_)⟩
        · have e : isNamed (.str x) = false := by
            simp only [isNamed, nmd]
            have : ¬ x.length ≤ 8 := by simp at e2; omega
            rw [decide_eq_false this]
            simp
          rw [e] at q
          exact q H .refl
        · have h1 : 1 ≤ x.length := by simp at e1; omega
          have h2 : x.length ≤ 8 := by simp at e2; omega
          refine ⟨.str x, rfl, x, rfl, fun D nD => ?_⟩
          have hsz : x.cps.toList.length = x.cps.size := by simp
          have hsl : x.cps.size = x.length := rfl
          refine lc_it walk_str (fun i H1 => H1 D = some (.lst (((x.cps.toList.take i).map fun c => decide (c ∈ lettersS.cps.toList)).map V.bl)) ∧ Mv [] H H1) ⟨upd_same, .new nD⟩ (fun _ _ _ _ => trivial) (fun i y H1 H2 hi h1 hy => ?_) (fun H1 h1 => ?_)
          · obtain ⟨e1, m1⟩ := h1
            obtain ⟨rfl, c, hc, rfl⟩ := hy
            have hc' : x.cps.toList[i]? = some c := by simpa using hc
            refine ⟨rfl, .str ⟨#[c]⟩, rfl, Or.inr ⟨c, _, rfl, rfl, _, e1, ?_, ?_, m1.wr nD⟩⟩
            · rw [List.length_map, List.length_map, List.length_take]
              exact small1000 (by omega)
            · rw [upd_same, List.take_add_one, hc']
              simp
              rfl
          · obtain ⟨e1, m1⟩ := h1
            rw [← hsz, List.take_length] at e1
            refine ⟨D, _, rfl, .inl (.inl e1), ?_⟩
            have e : isNamed (.str x) = ((x.cps.toList.map fun c => decide (c ∈ lettersS.cps.toList)).all id) := by
              simp only [isNamed, nmd]
              rw [decide_eq_true h1, decide_eq_true h2, List.all_map]
              rfl
            rw [← e]
            exact q H1 m1
      · have e : isNamed (.str x) = false := by
          simp only [isNamed, nmd]
          have : ¬ 1 ≤ x.length := by simp at e1; omega
          rw [decide_eq_false this]
          simp
        rw [e] at q
        exact ⟨_, rfl, q H .refl⟩
end
end Fm
namespace Fm
open PySem PySem.Spec PyProof.Rows L2
local macro_rules | `(tactic| walk_at "nn") => `(tactic| dsimp only [tC, tNil, tCons, tCB, tCall, gName, tSeq, tAsg, tPar, tDrop, tRet])
local macro_rules | `(tactic| walk_at "nc") => `(tactic| dsimp only [tC, tNil, tCons, tCB])
theorem isTerms_append (ts us : List Th) : isTerms (ts ++ us) = (isTerms ts && isTerms us) := by
  rw [isTerms_all, isTerms_all, isTerms_all, List.all_append]
theorem Th.cnt_pos (t : Th) : 1 ≤ t.cnt := by cases t <;> simp [Th.cnt]
theorem Th.cnts_len : ∀ ts : List Th, ts.length ≤ Th.cnts ts
  | [] => Nat.zero_le _
  | t :: ts => by
    have := Th.cnts_len ts
    have := t.cnt_pos
    simp only [Th.cnts, List.length_cons]
    omega
def sp_isTerm (K : PySem.W.Frag) : Sp := fun vs H Q _ => ∃ (v : V) (t : Th) (b : Addr), vs = [v] ∧ Is K b H v t ∧ t.cnt ≤ 90000 ∧ ∀ H', Mv [] H H' → Q (.bl (isTerm t)) H'
section
variable {P : Program} {w : World} {K : PySem.W.Frag} {mg : Str → Option Value} {base : Heap}
theorem ok_is_term (T : TX K mg) {k : Nat} : FnOk P w K mg base CX0 (k + 2) T.d_is_term.f T.d_is_term.fd P_is_term (sp_isTerm K) := by
  have G_is_integer : FnOk P w K mg base CX0 1 T.d_is_integer.f T.d_is_integer.fd P_is_integer (sp_kind K isWhole) := ok_is_integer T
  have G_is_name : FnOk P w K mg base CX0 1 T.d_is_name.f T.d_is_name.fd P_is_name (sp_kind K isNamed) := ok_is_name T
  refine T.d_is_term.F.ok sc_is_term (fun vs H Q E h => ?_) (fun cdv A outer s H vs Q E hr h => ?_)
  · obtain ⟨_, _, _, rfl, _⟩ := h
    rfl
  · obtain ⟨v, t, b, rfl, hv, hcn, q⟩ := h
    have hu65 := hu65_of hr
    refine ⟨_, (pss_cons (ps_set (i := 1) sc_is_term.nd rfl (Or.inl rfl) (pe_lst (pa_cons (pv 0) pa_nil))) (pss_cons (ps_while PassesOwn.never (pt_cmpR (r := rNeNil K) (op_neNil (Nat.lt_of_le_of_lt (Nat.le_add_right _ 65) hu65)) (pv 1) (pe_lst pa_nil) (nomark _)) (pss_cons (ps_set (i := 2) sc_is_term.nd rfl (Or.inl rfl) (pe_bm0 PySem.F.plainAttrs_list PySem.F.slot_list_pop PySem.F.type_list_pop mt_pop (pv 1))) (pss_one (ps_if (pt_val (pe_call G_is_integer (hr.mono (by omega)) rfl T.d_is_integer.g T.d_is_integer.F.kp T.d_is_integer.b .nil pass0 (pa_cons (pv 2) pa_nil))) (pss_one (ps_if (pt_cmpR op_lt (pv 2) pe_int (nomark _)) (pss_one (ps_ret pe_bl)) pss_nil)) (pss_one (ps_if (PW.pt (pw_or (pt_not (pt_val (pe_callB (r := rIsi K) call_isi (by rfl) T.b_isinstance bt_isinstance (pa_cons (pv 2) (pa_cons (pe_ty T.b_tuple bt_tuple) pa_nil))))) (pw_or (pt_not (pt_chain op_le op_le pe_int (pe_callB (r := rLenG K) call_lenG (by rfl) T.b_len bt_len (pa_cons (pv 2) pa_nil)) (pe_op (r := rAddG K) op_addG pe_int (pe_glob rfl T.c_MOST_PARTS T.r_MOST_PARTS)))) (pw_or1 (pt_not (pt_val (pe_call G_is_name (hr.mono (by omega)) rfl T.d_is_name.g T.d_is_name.F.kp T.d_is_name.b .nil pass0 (pa_cons (pe_ix (r := rIx K) ix_seq (pv 2) pe_int (fun _ _ => rfl)) pa_nil)))))))) (pss_one (ps_ret pe_bl)) (pss_one (ps_expr (pe_bm PySem.F.plainAttrs_list PySem.F.slot_list_extend PySem.F.type_list_extend (r := rExtG K) mt_extendG (pv 1) (pa_cons (pe_slice (r := rSlG K) sl_G (pv 2) (po_some pe_int) po_none) pa_nil)))))))))) (pss_one (ps_ret pe_bl)))), ?_⟩
    refine ⟨v, rfl, (by decide : 1 ≤ sizeLine), fun l nl => ?_⟩
    refine ⟨fun m σ H2 => ∃ (ys : List V) (us : List Th) (y : Option V), σ = [some v, some (.ref l), y] ∧ H2 l = some (.lst ys) ∧ IsAll K b H ys us ∧ isTerms us = isTerm t ∧ Th.cnts us ≤ 90000 ∧ m = Th.cnts us ∧ Mv [] H H2,
      ⟨_, [v], [t], none, rfl, upd_same, IsAll.cons hv IsAll.nil, by simp [isTerms], by simp only [Th.cnts]; omega, rfl, .new nl⟩, fun m σ H2 hW => ?_⟩
    obtain ⟨ys, us, y, rfl, e2, i2, s2, b2, rfl, m2⟩ := hW
    refine ⟨.ref l, rfl, Nat.zero_le _, fun q1 n1 => ⟨l, q1, ys, rfl, rfl, .inl (.inl (same_new n1 _ _ e2)), .inl (.inl upd_same), ?_⟩⟩
    have m23 : Mv [] H (upd H2 q1 (.lst [])) := m2.trans (.new n1)
    have e3 : upd H2 q1 (.lst []) l = some (.lst ys) := same_new n1 _ _ e2
    generalize upd H2 q1 (.lst []) = H3 at m23 e3 ⊢
    refine ⟨_, rfl, ?_⟩
    rcases List.eq_nil_or_concat us with rfl | ⟨us', u, rfl⟩
    · have hy : ys = [] := i2
      subst hy
      rw [show isTerms ([] : List Th) = true from by simp [isTerms]] at s2
      rw [← s2] at q
      exact q H3 m23
    · rw [List.concat_eq_append] at *
      obtain ⟨ys', z, rfl, i4, hz⟩ := IsAll.last rfl i2
      rw [show (!(ys' ++ [z]).isEmpty) = true by simp]
      refine ⟨fun σ' H' => ∃ m', m' < Th.cnts (us' ++ [u]) ∧ _, fun _ _ h => h, ?_⟩
      -- one = waiting.pop()
      refine ⟨.ref l, rfl, .inl ⟨rfl, _, .inl (.inl e3)⟩, l, _, z, rfl, rfl, e3, by simp, ?_⟩
      have m25 : Mv [] H (upd H3 l (.lst (ys' ++ [z]).dropLast)) := m23.wr nl
      have e5 : upd H3 l (.lst (ys' ++ [z]).dropLast) l = some (.lst ys') := by rw [upd_same, List.dropLast_concat]
      generalize upd H3 l (.lst (ys' ++ [z]).dropLast) = H5 at m25 e5 ⊢
      rw [Th.cnts_append] at b2 ⊢
      rw [isTerms_append] at s2
      have e1u : isTerms [u] = isTerm u := by simp [isTerms]
      have c1u : Th.cnts [u] = u.cnt := by simp [Th.cnts]
      rw [e1u] at s2
      rw [c1u] at b2 ⊢
      have hpos := u.cnt_pos
      have hbad : isTerm u = false → isTerm t = false := fun e => by rw [← s2, e, Bool.and_false]
      -- is_integer(one)
      refine ⟨z, rfl, z, u, b, rfl, hz.mv0 m25, fun H6 m6 => ?_⟩
      have m26 := m25.trans m6
      have e6 := m6.same _ _ e5
      refine ⟨_, rfl, ?_⟩
      have bad : isTupT u = false → isWhole u = false → isTerm u = false := fun h1 h2 => by
        cases u <;> simp [isTupT, isWhole, isTerm] at *
      cases u with
      | int i =>
        cases (show z = V.int i from hz)
        refine ⟨.int i, rfl, i, 0, rfl, rfl, _, rfl, ite2 (fun e => ?_) (fun e => ?_)⟩
        · have h0 : ¬ 0 ≤ i := by simp at e; omega
          have e9 := hbad (by simp only [isTerm]; exact decide_eq_false h0)
          rw [e9] at q
          exact q H6 m26
        · have h0 : 0 ≤ i := by simp at e; omega
          refine ⟨Th.cnts us', by omega, ys', us', _, rfl, e6, i4, ?_, by omega, rfl, m26⟩
          rw [← s2]
          simp only [isTerm]
          rw [decide_eq_true h0, Bool.and_true]
      | tup ts =>
        obtain ⟨a1, zs0, rfl, ha1, hzs0⟩ := hz
        have hl0 := hzs0.length
        have ha6 := m26.sqT ha1
        refine ⟨.ref a1, rfl, ?_⟩
        walk_at "nn"
        refine rd_isi (show Is K b H6 (.ref a1) (.tup ts) from ⟨a1, zs0, rfl, ha6, hzs0.mv0 m26⟩) (kit_tup (.tup ts)) ⟨_, rfl, ?_⟩
        refine ⟨.ref a1, rfl, ?_⟩
        walk_at "nc"
        refine rd_len (.inr ha6) ⟨1, _, rfl, rfl, _, rfl, ite2 (fun e => ?_) (fun e => ?_)⟩
        · have h1 : 1 ≤ zs0.length := by simp at e; omega
          refine Or.inl ⟨1, 3, rfl, rfl, _, _, rfl, rfl, _, rfl, ite2 (fun e1 => ?_) (fun e1 => ?_)⟩
          · have h2 : ¬ zs0.length ≤ 4 := by simp at e1; omega
            have e9 := hbad (by
              cases ts with
              | nil => simp [isTerm]
              | cons t0 tr =>
                simp only [List.length_cons] at hl0
                simp only [isTerm]
                rw [decide_eq_false (show ¬ tr.length ≤ 3 by omega)]
                simp)
            rw [e9] at q
            exact q H6 m26
          · have h2 : zs0.length ≤ 4 := by simp at e1; omega
            cases ts with
            | nil =>
              simp only [List.length_nil] at hl0
              omega
            | cons t0 tr =>
              obtain ⟨z0, zs, rfl, hz0, hzs⟩ := hzs0
              simp only [List.length_cons] at hl0 h2
              refine ⟨.ref a1, rfl, rd_ixT ha6 (by decide) (v := z0) rfl ?_⟩
              refine ⟨z0, t0, b, rfl, hz0.mv0 m26, fun H7 m7 => ⟨_, rfl, ite2 (fun e2 => ?_) (fun e2 => ?_)⟩⟩
              · have e9 := hbad (by
                  simp only [isTerm]
                  rw [show isNamed t0 = false by simpa using e2]
                  simp)
                rw [e9] at q
                exact q H7 (m26.trans m7)
              · have m27 := m26.trans m7
                have e7 := m7.same _ _ e6
                refine ⟨.ref l, rfl, .inl ⟨rfl, _, .inl (.inl e7)⟩, .ref a1, rfl, 1, rfl, rd_sl1 (m27.sqT ha1) fun p8 H8 m8 e8 => ?_⟩
                have hl4 := i4.length
                have hc4 := Th.cnts_len us'
                simp only [Th.cnt, Th.cnts] at b2 ⊢
                have hpos0 := t0.cnt_pos
                have hczs := Th.cnts_len tr
                refine Or.inr ⟨l, p8, ys', zs, rfl, rfl, m8.same _ _ e7, e8, Nat.le_trans (show ys'.length + zs.length ≤ 100000 by omega) (by decide), ?_⟩
                refine ⟨Th.cnts (us' ++ tr), by rw [Th.cnts_append]; omega, ys' ++ zs, us' ++ tr, _, rfl, upd_same, i4.append hzs, ?_, by rw [Th.cnts_append]; omega, rfl, (m27.trans m8).wr nl⟩
                rw [← s2, isTerms_append]
                simp only [isTerm]
                rw [show isNamed t0 = true by simpa using e2, decide_eq_true (show tr.length ≤ 3 by omega)]
                rfl
        · have h1 : ¬ 1 ≤ zs0.length := by simp at e; omega
          have e9 := hbad (by
            cases ts with
            | nil => simp [isTerm]
            | cons t0 tr =>
              simp only [List.length_cons] at hl0
              omega)
          rw [e9] at q
          exact ⟨_, rfl, q H6 m26⟩
      | non =>
        refine ⟨z, rfl, ?_⟩
        walk_at "nn"
        refine rd_isi (hz.mv0 m26) (kit_tup .non) ⟨_, rfl, ?_⟩
        have e9 := hbad (by simp [isTerm])
        rw [e9] at q
        exact q H6 m26
      | bl c =>
        refine ⟨z, rfl, ?_⟩
        walk_at "nn"
        refine rd_isi (hz.mv0 m26) (kit_tup (.bl c)) ⟨_, rfl, ?_⟩
        have e9 := hbad (by simp [isTerm])
        rw [e9] at q
        exact q H6 m26
      | str x =>
        refine ⟨z, rfl, ?_⟩
        walk_at "nn"
        refine rd_isi (hz.mv0 m26) (kit_tup (.str x)) ⟨_, rfl, ?_⟩
        have e9 := hbad (by simp [isTerm])
        rw [e9] at q
        exact q H6 m26
      | lst =>
        refine ⟨z, rfl, ?_⟩
        walk_at "nn"
        refine rd_isi (hz.mv0 m26) (kit_tup .lst) ⟨_, rfl, ?_⟩
        have e9 := hbad (by simp [isTerm])
        rw [e9] at q
        exact q H6 m26
      | dct =>
        refine ⟨z, rfl, ?_⟩
        walk_at "nn"
        refine rd_isi (hz.mv0 m26) (kit_tup .dct) ⟨_, rfl, ?_⟩
        have e9 := hbad (by simp [isTerm])
        rw [e9] at q
        exact q H6 m26
end
end Fm
namespace Fm
open PySem PySem.Spec PyProof.Rows L2
local macro_rules | `(tactic| walk_at "nn") => `(tactic| dsimp only [tC, tNil, tCons, tCB, tCall, gName, tSeq, tAsg, tPar, tDrop, tRet])
local macro_rules | `(tactic| walk_at "nc") => `(tactic| dsimp only [tC, tNil, tCons, tCB])
def initS (x : Str) : Str := ⟨(x.cps.toList.take (x.length - 1)).toArray⟩
def dashed (x : Str) : Bool := decide (x.cps.toList.drop (x.length - 1) = [45])
def isOutc : Th → Bool
  | .str x => if dashed x = true then nmd (initS x) else nmd x
  | _ => false
theorem toList_len (x : Str) : x.cps.toList.length = x.length := by simp; rfl
theorem sIx_m1 (n d : Nat) : HT.sIx n d (some (-1)) = n - 1 := by
  show (if (-1 : Int) < 0 then ((-1 : Int) + (n : Int)).toNat else min (-1 : Int).toNat n) = n - 1
  rw [if_pos (by decide)]
  omega
theorem cut_last (x : Str) : cutS x (some (-1)) none = ⟨(x.cps.toList.drop (x.length - 1)).toArray⟩ := by
  unfold cutS
  rw [sIx_m1, HT.sIx_none, List.take_of_length_le]
  rw [List.length_drop, toList_len]
  omega
theorem cut_init (x : Str) : cutS x none (some (-1)) = initS x := by
  unfold cutS initS
  rw [sIx_m1, HT.sIx_none, List.drop_zero, Nat.sub_zero]
theorem dash_eq (x : Str) : decide (V.str (cutS x (some (-1)) none) = V.str "-") = dashed x := by
  rw [cut_last]
  unfold dashed
  rw [Bool.eq_iff_iff, decide_eq_true_iff, decide_eq_true_iff]
  constructor
  · intro h
    injection h with h
    have h2 := congrArg (fun s : Str => s.cps.toList) h
    have e45 : (Str.ofString "-").cps.toList = [45] := by decide +kernel
    rw [← e45]
    simpa using h2
  · intro h
    rw [h]
    rfl
theorem initS_len (x : Str) : (initS x).length = x.length - 1 := by
  show (x.cps.toList.take (x.length - 1)).toArray.size = _
  rw [List.size_toArray, List.length_take, toList_len]
  omega
def sp_vals (K : PySem.W.Frag) : Sp := fun vs H Q _ => ∃ (n : Int) (v : V) (t : Th) (b : Addr), vs = [.int n, v] ∧ Is K b H v t ∧ t.cnt ≤ 90000 ∧ ∀ H', Mv [] H H' → Q (.bl (match t with | .tup ts => decide ((ts.length : Int) = n) && isTerms ts | _ => false)) H'
section
variable {P : Program} {w : World} {K : PySem.W.Frag} {mg : Str → Option Value} {base : Heap}
theorem ok_is_outcome (T : TX K mg) {k : Nat} : FnOk P w K mg base CX0 (k + 2) T.d_is_outcome.f T.d_is_outcome.fd P_is_outcome (sp_kind K isOutc) := by
  have G_is_name : FnOk P w K mg base CX0 1 T.d_is_name.f T.d_is_name.fd P_is_name (sp_kind K isNamed) := ok_is_name T
  refine T.d_is_outcome.F.ok sc_is_outcome (fun vs H Q E h => ?_) (fun cdv A outer s H vs Q E hr h => ?_)
  · obtain ⟨_, _, _, rfl, _⟩ := h
    rfl
  · obtain ⟨v, t, b, rfl, hv, q⟩ := h
    have hu64 := hr.units
    refine ⟨_, (pss_cons (ps_if (PW.pt (pw_and (pt_val (pe_callB (r := rIsi K) call_isi (by rfl) T.b_isinstance bt_isinstance (pa_cons (pv 0) (pa_cons (pe_ty T.b_str bt_str) pa_nil)))) (pw_and1 (pt_cmpR (r := rEqG K) (op_eqG hu64) (pe_slice (r := rSlG K) sl_G (pv 0) (po_some (pe_un un_neg pe_int)) po_none) pe_str (nomark _))))) (pss_one (ps_ret (pe_call G_is_name (hr.mono (by omega)) rfl T.d_is_name.g T.d_is_name.F.kp T.d_is_name.b .nil pass0 (pa_cons (pe_slice (r := rSlG K) sl_G (pv 0) po_none (po_some (pe_un un_neg pe_int))) pa_nil)))) pss_nil) (pss_one (ps_ret (pe_call G_is_name (hr.mono (by omega)) rfl T.d_is_name.g T.d_is_name.F.kp T.d_is_name.b .nil pass0 (pa_cons (pv 0) pa_nil))))), ?_⟩
    refine ⟨v, rfl, ?_⟩
    walk_at "nn"
    refine rd_isi hv (kit_str t) ⟨_, rfl, ?_⟩
    cases t with
    | int j => exact ⟨v, rfl, v, .int j, b, rfl, hv, q⟩
    | bl c => exact ⟨v, rfl, v, .bl c, b, rfl, hv, q⟩
    | non => exact ⟨v, rfl, v, .non, b, rfl, hv, q⟩
    | tup ts => exact ⟨v, rfl, v, .tup ts, b, rfl, hv, q⟩
    | lst => exact ⟨v, rfl, v, .lst, b, rfl, hv, q⟩
    | dct => exact ⟨v, rfl, v, .dct, b, rfl, hv, q⟩
    | str x =>
      obtain ⟨rfl, hlen⟩ := hv
      have hsz : x.length ≤ sizeLine := Nat.le_of_lt (small1000 (by omega))
      refine ⟨.str x, rfl, 1, rfl, -1, rfl, Or.inr (Or.inr ⟨x, rfl, hsz, Or.inl ⟨rfl, ?_⟩⟩)⟩
      have ed := dash_eq x
      rw [show (("-" : String) : Str) = Str.ofString "-" from rfl] at ed
      rw [ed]
      refine ⟨_, rfl, ite2 (fun e => ?_) (fun e => ?_)⟩
      · refine ⟨.str x, rfl, 1, rfl, -1, rfl, Or.inr (Or.inr ⟨x, rfl, hsz, ?_⟩)⟩
        rw [cut_init]
        refine ⟨_, .str (initS x), b, rfl, ⟨rfl, by rw [initS_len]; omega⟩, fun H' m => ?_⟩
        have := q H' m
        simp only [isOutc] at this
        rw [if_pos e] at this
        exact this
      · refine ⟨.str x, rfl, _, .str x, b, rfl, ⟨rfl, hlen⟩, fun H' m => ?_⟩
        have := q H' m
        simp only [isOutc] at this
        rw [if_neg e] at this
        exact this
theorem ok_are_values (T : TX K mg) {k : Nat} : FnOk P w K mg base CX0 (k + 3) T.d_are_values.f T.d_are_values.fd P_are_values (sp_vals K) := by
  have G_is_term : FnOk P w K mg base CX0 2 T.d_is_term.f T.d_is_term.fd P_is_term (sp_isTerm K) := ok_is_term T
  refine T.d_are_values.F.ok sc_are_values (fun vs H Q E h => ?_) (fun cdv A outer s H vs Q E hr h => ?_)
  · obtain ⟨_, _, _, _, rfl, _⟩ := h
    rfl
  · obtain ⟨n, v, t, b, rfl, hv, hcn, q⟩ := h
    have hu64 := hr.units
    refine ⟨_, (pss_one (ps_ret (pe_and (pe_callB (r := rIsi K) call_isi (by rfl) T.b_isinstance bt_isinstance (pa_cons (pv 1) (pa_cons (pe_ty T.b_tuple bt_tuple) pa_nil))) (pe_and (pe_cmpR (r := rEqG K) (op_eqG hu64) (pe_callB (r := rLenG K) call_lenG (by rfl) T.b_len bt_len (pa_cons (pv 1) pa_nil)) (pv 0) (nomark _)) (pe_one (pe_callB (r := rAll K) (cr_all rfl) (by rfl) T.b_all bt_all (pa_cons (pe_lc (own := [("one", 2)]) (g := gName 2) (by rfl) sc_are_values.nd (pi_seq (pv 1)) (blkOk_by (own := [("one", 2)]) (N := N_are_values) (sc := defScope s_are_values) (by decide +kernel)) (fun _ _ _ _ _ => pg_name (i := 2) sc_are_values.nd rfl (Or.inl rfl)) (fun _ _ _ _ _ => pts_nil) (fun _ _ _ _ _ => (pe_call G_is_term (hr.mono (by omega)) rfl T.d_is_term.g T.d_is_term.F.kp T.d_is_term.b .nil pass0 (pa_cons (pv 2) pa_nil)))) pa_nil))))))), ?_⟩
    refine ⟨v, rfl, ?_⟩
    walk_at "nn"
    refine rd_isi hv (kit_tup t) ⟨_, rfl, ?_⟩
    cases t with
    | int j => exact q H .refl
    | bl c => exact q H .refl
    | non => exact q H .refl
    | str x => exact q H .refl
    | lst => exact q H .refl
    | dct => exact q H .refl
    | tup ts =>
      obtain ⟨a, xs, rfl, ha, hxs⟩ := hv
      have hl := hxs.length
      refine ⟨.ref a, rfl, ?_⟩
      walk_at "nc"
      refine rd_len (.inr ha) ⟨.int n, rfl, Or.inl ⟨rfl, _, rfl, ?_⟩⟩
      rw [vint_eq, hl]
      refine ite2 (fun e => ?_) (fun e => ?_)
      · simp only [Th.cnt] at hcn
        have hcl := Th.cnts_len ts
        refine ⟨.ref a, rfl, a, rfl, ?_⟩
        refine lc_seq (xs := xs) (.inr ha) (fun i D H1 => H1 D = some (.lst (((ts.take i).map isTerm).map V.bl)) ∧ Mv [] H H1)
          (fun D nD => ⟨upd_same, .new nD⟩) (fun i D H1 nD h1 => h1.2) (fun D nD i x H1 hx h1 => ?_) (fun D H1 nD h1 => ?_)
        · obtain ⟨e1, m1⟩ := h1
          obtain ⟨u, hu, hi⟩ := hxs.get hx
          have hul := (List.getElem?_eq_some_iff.mp hu).1
          refine ⟨rfl, x, rfl, x, u, b, rfl, hi.mv0 m1, ?_, fun H2 m2 => ?_⟩
          · have : u.cnt ≤ Th.cnts ts := by
              have h5 : ts = ts.take i ++ u :: ts.drop (i + 1) := by
                rw [← (List.getElem?_eq_some_iff.mp hu).2, List.getElem_cons_drop, List.take_append_drop]
              rw [h5, Th.cnts_append]
              simp only [Th.cnts]
              omega
            omega
          · refine ⟨_, m2.same _ _ e1, ?_, ?_, (m1.trans m2).wr nD⟩
            · rw [List.length_map, List.length_map, List.length_take]
              exact Nat.lt_of_le_of_lt (show min i ts.length ≤ 100000 by omega) (by decide)
            · rw [upd_same, List.take_add_one, hu]
              simp
        · obtain ⟨e1, m1⟩ := h1
          rw [hl, List.take_length] at e1
          refine ⟨D, _, rfl, .inl (.inl e1), ?_⟩
          have e9 : (ts.map isTerm).all id = (decide ((ts.length : Int) = n) && isTerms ts) := by
            rw [e, isTerms_all, List.all_map]
            rfl
          rw [e9]
          exact q H1 m1
      · have := q H .refl
        simp only [show decide ((ts.length : Int) = n) = false by simpa using e, Bool.false_and] at this
        exact this
end
end Fm
namespace Fm
open PySem PySem.Spec PyProof.Rows L2
local macro_rules | `(tactic| walk_at "nn") => `(tactic| dsimp only [tC, tNil, tCons, tCB, tCall, gName, tSeq, tAsg, tPar, tDrop, tRet])
local macro_rules | `(tactic| walk_at "nc") => `(tactic| dsimp only [tC, tNil, tCons, tCB])
theorem odd_empty (l : List Nat) : (l.filter fun c => !decide (c ∈ lettersS.cps.toList)).isEmpty = l.all fun c => decide (c ∈ lettersS.cps.toList) := by
  induction l with
  | nil => rfl
  | cons c l ih =>
    rw [List.all_cons, ← ih]
    by_cases h : c ∈ lettersS.cps.toList
    · rw [List.filter_cons_of_neg (by simp [h]), decide_eq_true h, Bool.true_and]
    · rw [List.filter_cons_of_pos (by simp [h]), decide_eq_false h]
      rfl
section
variable {P : Program} {w : World} {K : PySem.W.Frag} {mg : Str → Option Value} {base : Heap}
theorem ok__law_is_named (T : TX K mg) {k : Nat} : FnOk P w K mg base CX0 (k + 1) T.d__law_is_named.f T.d__law_is_named.fd P__law_is_named (sp_kind K isNamed) := by
  refine T.d__law_is_named.F.ok sc__law_is_named (fun vs H Q E h => ?_) (fun cdv A outer s H vs Q E hr h => ?_)
  · obtain ⟨_, _, _, rfl, _⟩ := h
    rfl
  · obtain ⟨v, t, b, rfl, hv, q⟩ := h
    have hu65 := hu65_of hr
    refine ⟨_, (pss_cons (ps_if (PW.pt (pw_or (pt_not (pt_val (pe_callB (r := rIsi K) call_isi (by rfl) T.b_isinstance bt_isinstance (pa_cons (pv 0) (pa_cons (pe_ty T.b_str bt_str) pa_nil))))) (pw_or1 (pt_cmpR op_notIn_rng (pe_callB (r := rLenG K) call_lenG (by rfl) T.b_len bt_len (pa_cons (pv 0) pa_nil)) (pe_callTy cr_range2 (by rfl) T.b_range bt_range (pa_cons pe_int (pa_cons pe_int pa_nil))) rfl)))) (pss_one (ps_ret pe_bl)) pss_nil) (pss_one (ps_ret (pe_cmpR (r := rEqNil K) (op_eqNil (Nat.lt_of_le_of_lt (Nat.le_add_right _ 65) hu65)) (pe_lc (own := [("_law_sign", 1)]) (g := gName 1) (by rfl) sc__law_is_named.nd (pi_str (pv 0)) (blkOk_by (own := [("_law_sign", 1)]) (N := N__law_is_named) (sc := defScope s__law_is_named) (by decide +kernel)) (fun _ _ _ _ _ => pg_name (i := 1) sc__law_is_named.nd rfl (Or.inl rfl)) (fun _ _ _ _ _ => (pts_one (pt_cmpR (r := rNotInG K) (op_notInG hu65) (pv 1) pe_str rfl))) (fun _ _ _ _ _ => (pv 1))) (pe_lst pa_nil) (nomark _))))), ?_⟩
    refine ⟨v, rfl, ?_⟩
    walk_at "nn"
    refine rd_isi hv (kit_str t) ⟨_, rfl, ?_⟩
    cases t with
    | int j => exact q H .refl
    | bl c => exact q H .refl
    | non => exact q H .refl
    | tup ts => exact q H .refl
    | lst => exact q H .refl
    | dct => exact q H .refl
    | str x =>
      obtain ⟨rfl, hlen⟩ := hv
      refine ⟨.str x, rfl, ?_⟩
      walk_at "nc"
      refine Or.inr (Or.inl ⟨x, rfl, Nat.le_of_lt (small1000 (by omega)), 1, 9, rfl, fun p np => ⟨_, p, 1, 9, rfl, rfl, upd_same, _, rfl, ?_⟩⟩)
      have m1 : Mv [] H (upd H p (.rng 1 9)) := .new np
      generalize upd H p (.rng 1 9) = H1 at m1 ⊢
      refine ite2 (fun e => ?_) (fun e => ?_)
      · have e9 : isNamed (.str x) = false := by
          simp only [isNamed, nmd]
          have : ¬ (1 ≤ x.length ∧ x.length ≤ 8) := by simp at e; omega
          by_cases h1 : 1 ≤ x.length
          · rw [decide_eq_false (show ¬ x.length ≤ 8 from fun z => this ⟨h1, z⟩)]
            simp
          · rw [decide_eq_false h1]
            simp
        rw [e9] at q
        exact q H1 m1
      · have h12 : 1 ≤ x.length ∧ x.length ≤ 8 := by simp at e; omega
        refine ⟨.str x, rfl, x, rfl, fun D nD => ?_⟩
        have hsz := toList_len x
        refine lc_it walk_str (fun i H2 => H2 D = some (.lst (((x.cps.toList.take i).filter fun c => !decide (c ∈ lettersS.cps.toList)).map fun c => V.str ⟨#[c]⟩)) ∧ Mv [] H1 H2) ⟨upd_same, .new nD⟩ (fun _ _ _ _ => trivial) (fun i y H2 H3 hi h2 hy => ?_) (fun H2 h2 => ?_)
        · obtain ⟨e2, m2⟩ := h2
          obtain ⟨rfl, c, hc, rfl⟩ := hy
          have hc' : x.cps.toList[i]? = some c := by simpa using hc
          refine ⟨rfl, .str ⟨#[c]⟩, rfl, Or.inr ⟨c, _, rfl, rfl, _, rfl, ite2 (fun e3 => ?_) (fun e3 => ?_)⟩⟩
          · refine ⟨.str ⟨#[c]⟩, rfl, _, e2, ?_, ?_, m2.wr nD⟩
            · rw [List.length_map]
              have := List.length_filter_le (fun c => !decide (c ∈ lettersS.cps.toList)) (x.cps.toList.take i)
              rw [List.length_take] at this
              exact small1000 (by omega)
            · rw [upd_same, List.take_add_one, hc', List.filter_append, List.map_append, Option.toList_some, List.filter_cons_of_pos (by exact e3)]
              rfl
          · refine ⟨?_, m2⟩
            rw [e2, List.take_add_one, hc', List.filter_append, List.map_append, Option.toList_some, List.filter_cons_of_neg (by exact e3)]
            simp
        · obtain ⟨e2, m2⟩ := h2
          rw [show x.cps.size = x.cps.toList.length by simp, List.take_length] at e2
          refine ⟨Nat.zero_le _, fun q1 n1 => ⟨D, q1, _, rfl, rfl, .inl (.inl (same_new n1 _ _ e2)), .inl (.inl upd_same), ?_⟩⟩
          have e9 : isNamed (.str x) = (((x.cps.toList.filter fun c => !decide (c ∈ lettersS.cps.toList)).map fun c => V.str ⟨#[c]⟩).isEmpty) := by
            rw [List.isEmpty_map, odd_empty]
            simp only [isNamed, nmd]
            rw [decide_eq_true h12.1, decide_eq_true h12.2]
            rfl
          rw [← e9]
          exact q _ (m1.trans (m2.trans (.new n1)))
theorem ok__law_is_whole (T : TX K mg) {k : Nat} : FnOk P w K mg base CX0 (k + 1) T.d__law_is_whole.f T.d__law_is_whole.fd P__law_is_whole (sp_kind K isWhole) := by
  refine T.d__law_is_whole.F.ok sc__law_is_whole (fun vs H Q E h => ?_) (fun cdv A outer s H vs Q E hr h => ?_)
  · obtain ⟨_, _, _, rfl, _⟩ := h
    rfl
  · obtain ⟨v, t, b, rfl, hv, q⟩ := h
    refine ⟨_, (pss_one (ps_ret (pe_and (pe_callB (r := rIsi K) call_isi (by rfl) T.b_isinstance bt_isinstance (pa_cons (pv 0) (pa_cons (pe_ty T.b_int bt_int) pa_nil))) (pe_and (pe_cmpR (r := rNotB) op_notB (pv 0) pe_bl (nomark _)) (pe_one (pe_cmpR (r := rNotB) op_notB (pv 0) pe_bl (nomark _))))))), ?_⟩
    refine ⟨v, rfl, ?_⟩
    walk_at "nn"
    refine rd_isi hv (kit_int t) ⟨_, rfl, ?_⟩
    cases t with
    | int j =>
      cases (show v = V.int j from hv)
      exact ⟨_, rfl, true, rfl, .inr ⟨j, rfl, true, rfl, _, rfl, false, rfl, .inr ⟨j, rfl, q H .refl⟩⟩⟩
    | bl c =>
      cases (show v = V.bl c from hv)
      cases c with
      | true => exact ⟨_, rfl, true, rfl, .inl ⟨true, rfl, false, rfl, q H .refl⟩⟩
      | false => exact ⟨_, rfl, true, rfl, .inl ⟨false, rfl, true, rfl, _, rfl, false, rfl, .inl ⟨false, rfl, q H .refl⟩⟩⟩
    | non => exact q H .refl
    | str x => exact q H .refl
    | tup ts => exact q H .refl
    | lst => exact q H .refl
    | dct => exact q H .refl
end
end Fm
namespace Fm
open PySem PySem.Spec PyProof.Rows L2
local macro_rules | `(tactic| walk_at "nn") => `(tactic| dsimp only [tC, tNil, tCons, tCB, tCall, gName, tSeq, tAsg, tPar, tDrop, tRet])
local macro_rules | `(tactic| walk_at "nc") => `(tactic| dsimp only [tC, tNil, tCons, tCB])
theorem drop_last {l : List Nat} {c : Nat} (h : 1 ≤ l.length) (hc : l[l.length - 1]? = some c) : l.drop (l.length - 1) = [c] := by
  have hlt : l.length - 1 < l.length := by omega
  rw [List.drop_eq_getElem_cons hlt, List.drop_of_length_le (by omega)]
  rw [List.getElem?_eq_getElem hlt] at hc
  rw [Option.some.inj hc]
theorem nmd_dash {x : Str} (h : dashed x = true) : nmd x = false := by
  unfold dashed at h
  have h1 := of_decide_eq_true h
  have hm : 45 ∈ x.cps.toList := List.mem_of_mem_drop (by rw [h1]; simp)
  unfold nmd
  have : (x.cps.toList.all fun c => decide (c ∈ lettersS.cps.toList)) = false := by
    rw [List.all_eq_false]
    exact ⟨45, hm, by decide +kernel⟩
  rw [this, Bool.and_false]
theorem nmd_short {x : Str} (h : x.length = 0) : nmd x = false := by
  unfold nmd
  rw [decide_eq_false (show ¬ 1 ≤ x.length by omega)]
  simp
mutual
def Th.dep : Th → Nat
  | .tup ts => Th.deps ts + 1
  | _ => 0
def Th.deps : List Th → Nat
  | [] => 0
  | t :: ts => max t.dep (Th.deps ts)
end
theorem Th.deps_mem : ∀ {t : Th} {ts : List Th}, t ∈ ts → t.dep ≤ Th.deps ts
  | t, u :: ts, h => by
    simp only [Th.deps]
    rcases List.mem_cons.mp h with h | h
    · rw [h]; omega
    · have := Th.deps_mem h
      omega
def sp_isTermR (K : PySem.W.Frag) (d : Nat) : Sp := fun vs H Q _ => ∃ (v : V) (t : Th) (b : Addr), vs = [v] ∧ Is K b H v t ∧ t.dep < d ∧ ∀ H', Mv [] H H' → Q (.bl (isTerm t)) H'
theorem in_four (n : Nat) : inV (.int n) [.int 1, .int 2, .int 3, .int 4] = decide (1 ≤ n ∧ n ≤ 4) := by
  match n with
  | 0 => decide
  | 1 => decide
  | 2 => decide
  | 3 => decide
  | 4 => decide
  | n + 5 =>
    rw [decide_eq_false (by omega)]
    simp only [inV, List.any_cons, List.any_nil, eqV]
    simp
    omega
section
variable {P : Program} {w : World} {K : PySem.W.Frag} {mg : Str → Option Value} {base : Heap}
theorem ok__law_is_outcome (T : TX K mg) {k : Nat} : FnOk P w K mg base CX0 (k + 2) T.d__law_is_outcome.f T.d__law_is_outcome.fd P__law_is_outcome (sp_kind K isOutc) := by
  have G__law_is_named : FnOk P w K mg base CX0 1 T.d__law_is_named.f T.d__law_is_named.fd P__law_is_named (sp_kind K isNamed) := ok__law_is_named T
  refine T.d__law_is_outcome.F.ok sc__law_is_outcome (fun vs H Q E h => ?_) (fun cdv A outer s H vs Q E hr h => ?_)
  · obtain ⟨_, _, _, rfl, _⟩ := h
    rfl
  · obtain ⟨v, t, b, rfl, hv, q⟩ := h
    have hu64 := hr.units
    refine ⟨_, (pss_cons (ps_if (pt_val (pe_call G__law_is_named (hr.mono (by omega)) rfl T.d__law_is_named.g T.d__law_is_named.F.kp T.d__law_is_named.b .nil pass0 (pa_cons (pv 0) pa_nil))) (pss_one (ps_ret pe_bl)) pss_nil) (pss_one (ps_ret (pe_and (pe_callB (r := rIsi K) call_isi (by rfl) T.b_isinstance bt_isinstance (pa_cons (pv 0) (pa_cons (pe_ty T.b_str bt_str) pa_nil))) (pe_and (pe_cmpR op_gt (pe_callB (r := rLenG K) call_lenG (by rfl) T.b_len bt_len (pa_cons (pv 0) pa_nil)) pe_int (nomark _)) (pe_and (pe_cmpR (r := rEqG K) (op_eqG hu64) (pe_ix (r := rIx K) ix_seq (pv 0) (pe_op op_sub (pe_callB (r := rLenG K) call_lenG (by rfl) T.b_len bt_len (pa_cons (pv 0) pa_nil)) pe_int) (fun _ _ => rfl)) pe_str (nomark _)) (pe_one (pe_call G__law_is_named (hr.mono (by omega)) rfl T.d__law_is_named.g T.d__law_is_named.F.kp T.d__law_is_named.b .nil pass0 (pa_cons (pe_slice (r := rSlG K) sl_G (pv 0) po_none (po_some (pe_un un_neg pe_int))) pa_nil))))))))), ?_⟩
    refine ⟨v, rfl, v, t, b, rfl, hv, fun H1 m1 => ⟨_, rfl, ite2 (fun e => ?_) (fun e => ?_)⟩⟩
    · cases t with
      | str x =>
        have hd : dashed x = false := by
          cases hdx : dashed x with
          | false => rfl
          | true =>
            have := nmd_dash hdx
            simp only [isNamed] at e
            rw [this] at e
            cases e
        have := q H1 m1
        simp only [isOutc, hd] at this
        simp only [isNamed] at e
        rw [e] at this
        exact this
      | int j => simp [isNamed] at e
      | bl c => simp [isNamed] at e
      | non => simp [isNamed] at e
      | tup ts => simp [isNamed] at e
      | lst => simp [isNamed] at e
      | dct => simp [isNamed] at e
    · refine ⟨v, rfl, ?_⟩
      walk_at "nn"
      refine rd_isi (hv.mv0 m1) (kit_str t) ⟨_, rfl, ?_⟩
      cases t with
      | int j => exact q H1 m1
      | bl c => exact q H1 m1
      | non => exact q H1 m1
      | tup ts => exact q H1 m1
      | lst => exact q H1 m1
      | dct => exact q H1 m1
      | str x =>
        obtain ⟨rfl, hlen⟩ := hv
        have hsz : x.length ≤ sizeLine := Nat.le_of_lt (small1000 (by omega))
        have hn : nmd x = false := by simpa [isNamed] using e
        have hL := toList_len x
        refine ⟨.str x, rfl, ?_⟩
        walk_at "nc"
        refine Or.inr (Or.inl ⟨x, rfl, hsz, _, 1, rfl, rfl, _, rfl, ite2 (fun e1 => ?_) (fun e1 => ?_)⟩)
        · have h2 : 2 ≤ x.length := by simp at e1; omega
          refine ⟨.str x, rfl, .str x, rfl, ?_⟩
          walk_at "nc"
          refine Or.inr (Or.inl ⟨x, rfl, hsz, _, 1, rfl, rfl, ?_⟩)
          have hlt : x.length - 1 < x.cps.toList.length := by omega
          have hcc := List.getElem?_eq_getElem hlt
          refine Or.inr (Or.inr ⟨x, _, _, rfl, rfl, hsz, (by rw [show ((x.length : Nat) : Int) - 1 = ((x.length - 1 : Nat) : Int) by omega]; exact atI_nat hcc), Or.inl ⟨rfl, ?_⟩⟩)
          have hdl : x.cps.toList.drop (x.length - 1) = [x.cps.toList[x.length - 1]] := by
            have := drop_last (l := x.cps.toList) (c := x.cps.toList[x.length - 1]) (by omega) (by rw [hL]; exact hcc)
            rw [hL] at this
            exact this
          have hde : decide (V.str ⟨#[x.cps.toList[x.length - 1]]⟩ = V.str (Str.ofString "-")) = dashed x := by
            unfold dashed
            rw [hdl, Bool.eq_iff_iff, decide_eq_true_iff, decide_eq_true_iff]
            have e45 : (Str.ofString "-") = ⟨#[45]⟩ := by decide +kernel
            rw [e45]
            constructor
            · intro h
              injection h with h
              injection h with h
              have h3 := congrArg Array.toList h
              simpa using h3
            · intro h
              have h3 := (List.cons.inj h).1
              rw [h3]
          rw [hde]
          refine ⟨_, rfl, ite2 (fun e2 => ?_) (fun e2 => ?_)⟩
          · refine ⟨.str x, rfl, 1, rfl, -1, rfl, Or.inr (Or.inr ⟨x, rfl, hsz, ?_⟩)⟩
            rw [cut_init]
            refine ⟨_, .str (initS x), b, rfl, ⟨rfl, by rw [initS_len]; omega⟩, fun H' m => ?_⟩
            have := q H' (m1.trans m)
            simp only [isOutc] at this
            rw [if_pos e2] at this
            exact this
          · have := q H1 m1
            simp only [isOutc] at this
            rw [if_neg e2, hn] at this
            exact this
        · have h2 : x.length ≤ 1 := by simp at e1; omega
          have := q H1 m1
          simp only [isOutc] at this
          rw [hn, nmd_short (show (initS x).length = 0 by rw [initS_len]; omega)] at this
          simpa using this
theorem ok__law_is_term (T : TX K mg) : ∀ d : Nat, FnOk P w K mg base CX0 (d + 1) T.d__law_is_term.f T.d__law_is_term.fd P__law_is_term (sp_isTermR K d)
  | 0 => ⟨fun vs H Q E h => by obtain ⟨_, _, _, _, _, h, _⟩ := h; omega, fun _ _ _ _ _ _ _ _ _ _ _ _ _ h => by obtain ⟨_, _, _, _, _, h, _⟩ := h; omega⟩
  | d + 1 => by
    have G__law_is_term := ok__law_is_term T d
    have G__law_is_named : FnOk P w K mg base CX0 1 T.d__law_is_named.f T.d__law_is_named.fd P__law_is_named (sp_kind K isNamed) := ok__law_is_named T
    have G__law_is_whole : FnOk P w K mg base CX0 1 T.d__law_is_whole.f T.d__law_is_whole.fd P__law_is_whole (sp_kind K isWhole) := ok__law_is_whole T
    refine T.d__law_is_term.F.ok sc__law_is_term (fun vs H Q E h => ?_) (fun cdv A outer s H vs Q E hr h => ?_)
    · obtain ⟨_, _, _, rfl, _⟩ := h
      rfl
    · obtain ⟨v, t, b, rfl, hv, hdp, q⟩ := h
      refine ⟨_, (pss_cons (ps_if (pt_val (pe_call G__law_is_whole (hr.mono (by omega)) rfl T.d__law_is_whole.g T.d__law_is_whole.F.kp T.d__law_is_whole.b .nil pass0 (pa_cons (pv 0) pa_nil))) (pss_one (ps_ret (pe_cmpR op_ge (pv 0) pe_int (nomark _)))) pss_nil) (pss_cons (ps_if (PW.pt (pw_or (pt_not (pt_val (pe_callB (r := rIsi K) call_isi (by rfl) T.b_isinstance bt_isinstance (pa_cons (pv 0) (pa_cons (pe_ty T.b_tuple bt_tuple) pa_nil))))) (pw_or (pt_cmpR (r := rIn K true) op_notIn_seq (pe_callB (r := rLenG K) call_lenG (by rfl) T.b_len bt_len (pa_cons (pv 0) pa_nil)) (pe_tup (pa_cons pe_int (pa_cons pe_int (pa_cons pe_int (pa_cons pe_int pa_nil))))) rfl) (pw_or1 (pt_not (pt_val (pe_call G__law_is_named (hr.mono (by omega)) rfl T.d__law_is_named.g T.d__law_is_named.F.kp T.d__law_is_named.b .nil pass0 (pa_cons (pe_ix (r := rIx K) ix_seq (pv 0) pe_int (fun _ _ => rfl)) pa_nil)))))))) (pss_one (ps_ret pe_bl)) pss_nil) (pss_one (ps_ret (pe_callB (r := rAll K) (cr_all rfl) (by rfl) T.b_all bt_all (pa_cons (pe_lc (own := [("_law_part", 1)]) (g := gName 1) (by rfl) sc__law_is_term.nd (pi_seq (pe_slice (r := rSlG K) sl_G (pv 0) (po_some pe_int) po_none)) (blkOk_by (own := [("_law_part", 1)]) (N := N__law_is_term) (sc := defScope s__law_is_term) (by decide +kernel)) (fun _ _ _ _ _ => pg_name (i := 1) sc__law_is_term.nd rfl (Or.inl rfl)) (fun _ _ _ _ _ => pts_nil) (fun _ _ _ _ _ => (pe_call G__law_is_term (hr.mono (by omega)) rfl T.d__law_is_term.g T.d__law_is_term.F.kp T.d__law_is_term.b .nil pass0 (pa_cons (pv 1) pa_nil)))) pa_nil)))))), ?_⟩
      refine ⟨v, rfl, v, t, b, rfl, hv, fun H1 m1 => ⟨_, rfl, ?_⟩⟩
      cases t with
      | int j =>
        cases (show v = V.int j from hv)
        exact ⟨_, rfl, j, 0, rfl, rfl, q H1 m1⟩
      | tup ts =>
        obtain ⟨a, xs, rfl, ha, hxs⟩ := hv
        have hl := hxs.length
        have ha1 := m1.sqT ha
        refine ⟨.ref a, rfl, ?_⟩
        walk_at "nn"
        refine rd_isi (show Is K b H1 (.ref a) (.tup ts) from ⟨a, xs, rfl, ha1, hxs.mv0 m1⟩) (kit_tup (.tup ts)) ⟨_, rfl, ?_⟩
        refine ⟨.ref a, rfl, ?_⟩
        walk_at "nc"
        refine rd_len (.inr ha1) ?_
        refine ⟨(by decide : 4 ≤ sizeLine), fun p np => ⟨p, _, rfl, .inr (.inl (.inl upd_same)), rfl, rfl, _, rfl, ?_⟩⟩
        have m2 : Mv [] H (upd H1 p (.tup [.int 1, .int 2, .int 3, .int 4])) := m1.trans (.new np)
        generalize upd H1 p (.tup [.int 1, .int 2, .int 3, .int 4]) = H2 at m2 ⊢
        have e4 := in_four xs.length
        obtain ⟨bo, hbo⟩ : ∃ bo, bo = decide (1 ≤ xs.length ∧ xs.length ≤ 4) := ⟨_, rfl⟩
        rw [← hbo] at e4
        have ha2 := m2.sqT ha
        show (if (!inV (.int xs.length) [.int 1, .int 2, .int 3, .int 4]) = true then _ else _)
        rw [e4]
        refine ite2 (fun e => ?_) (fun e => ?_)
        · have hno : ¬ (1 ≤ xs.length ∧ xs.length ≤ 4) := of_decide_eq_false (hbo.symm.trans (by simpa using e))
          have e9 : isTerm (.tup ts) = false := by
            cases ts with
            | nil => simp [isTerm]
            | cons t0 tr =>
              simp only [List.length_cons] at hl
              simp only [isTerm]
              rw [decide_eq_false (show ¬ tr.length ≤ 3 by omega)]
              simp
          rw [e9] at q
          exact q H2 m2
        · have hyes : 1 ≤ xs.length ∧ xs.length ≤ 4 := of_decide_eq_true (hbo.symm.trans (by simpa using e))
          cases ts with
          | nil =>
            simp only [List.length_nil] at hl
            omega
          | cons t0 tr =>
            obtain ⟨z0, zs, rfl, hz0, hzs⟩ := hxs
            simp only [List.length_cons] at hl hyes
            simp only [Th.dep, Th.deps] at hdp
            refine ⟨.ref a, rfl, rd_ixT ha2 (by decide) (v := z0) rfl ?_⟩
            refine ⟨z0, t0, b, rfl, hz0.mv0 m2, fun H3 m3 => ⟨_, rfl, ite2 (fun e2 => ?_) (fun e2 => ?_)⟩⟩
            · have e9 : isTerm (.tup (t0 :: tr)) = false := by
                simp only [isTerm]
                rw [show isNamed t0 = false by simpa using e2]
                simp
              rw [e9] at q
              exact q H3 (m2.trans m3)
            · have m03 := m2.trans m3
              refine ⟨.ref a, rfl, 1, rfl, rd_sl1 (m03.sqT ha) fun p4 H4 m4 e4 => ⟨p4, rfl, ?_⟩⟩
              have m04 := m03.trans m4
              refine lc_seq (xs := zs) (.inr e4) (fun i D H5 => H5 D = some (.lst (((tr.take i).map isTerm).map V.bl)) ∧ Mv [] H4 H5)
                (fun D nD => ⟨upd_same, .new nD⟩) (fun i D H5 nD h5 => h5.2) (fun D nD i x H5 hx h5 => ?_) (fun D H5 nD h5 => ?_)
              · obtain ⟨e5, m5⟩ := h5
                obtain ⟨u, hu, hi⟩ := hzs.get hx
                have hdu := Th.deps_mem (List.mem_of_getElem? hu)
                refine ⟨rfl, x, rfl, x, u, b, rfl, hi.mv0 (m04.trans m5), by omega, fun H6 m6 => ?_⟩
                refine ⟨_, m6.same _ _ e5, ?_, ?_, (m5.trans m6).wr nD⟩
                · rw [List.length_map, List.length_map, List.length_take]
                  exact small1000 (by omega)
                · rw [upd_same, List.take_add_one, hu]
                  simp
              · obtain ⟨e5, m5⟩ := h5
                rw [show zs.length = tr.length by omega, List.take_length] at e5
                refine ⟨D, _, rfl, .inl (.inl e5), ?_⟩
                have e9 : (tr.map isTerm).all id = isTerm (.tup (t0 :: tr)) := by
                  simp only [isTerm]
                  rw [show isNamed t0 = true by simpa using e2, decide_eq_true (show tr.length ≤ 3 by omega), isTerms_all, List.all_map]
                  rfl
                rw [e9]
                exact q H5 (m04.trans m5)
      | non =>
        refine ⟨v, rfl, ?_⟩
        walk_at "nn"
        exact rd_isi (hv.mv0 m1) (kit_tup .non) ⟨_, rfl, q H1 m1⟩
      | bl c =>
        refine ⟨v, rfl, ?_⟩
        walk_at "nn"
        exact rd_isi (hv.mv0 m1) (kit_tup (.bl c)) ⟨_, rfl, q H1 m1⟩
      | str x =>
        refine ⟨v, rfl, ?_⟩
        walk_at "nn"
        exact rd_isi (hv.mv0 m1) (kit_tup (.str x)) ⟨_, rfl, q H1 m1⟩
      | lst =>
        refine ⟨v, rfl, ?_⟩
        walk_at "nn"
        exact rd_isi (hv.mv0 m1) (kit_tup .lst) ⟨_, rfl, q H1 m1⟩
      | dct =>
        refine ⟨v, rfl, ?_⟩
        walk_at "nn"
        exact rd_isi (hv.mv0 m1) (kit_tup .dct) ⟨_, rfl, q H1 m1⟩
end
end Fm
namespace Fm
open PySem PySem.Spec PyProof.Rows L2
local macro_rules | `(tactic| walk_at "nn") => `(tactic| dsimp only [tC, tNil, tCons, tCB, tCall, gName, tSeq, tAsg, tPar, tDrop, tRet])
/-- values by numbers: in a list, a tuple, a dict -/
def Look1 (K : PySem.W.Frag) (H : Hp) (vals : V) (P : Int → Prop) (f : Int → Tm) : Prop := ∃ a, vals = .ref a ∧
  ((∃ xs, SqL K H a xs ∧ ∀ i, P i → 0 ≤ i ∧ ∃ v, xs[i.toNat]? = some v ∧ Im K H v (f i).d) ∨
   (∃ xs, SqT K H a xs ∧ ∀ i, P i → 0 ≤ i ∧ ∃ v, xs[i.toNat]? = some v ∧ Im K H v (f i).d) ∨
   (∃ kvs, H a = some (.dK kvs) ∧ ∀ i, P i → ∃ v, valV kvs (.inl i) = some v ∧ Im K H v (f i).d))
theorem Look1.mv {K : PySem.W.Frag} {H H' : Hp} {vals : V} {P : Int → Prop} {f : Int → Tm} (h : Look1 K H vals P f) (m : Mv [] H H') : Look1 K H' vals P f := by
  obtain ⟨a, rfl, h⟩ := h
  refine ⟨a, rfl, ?_⟩
  rcases h with ⟨xs, h1, h2⟩ | ⟨xs, h1, h2⟩ | ⟨xs, h1, h2⟩
  · refine .inl ⟨xs, m.same.seq h1, fun i hi => ?_⟩
    obtain ⟨h0, v, hv, hm⟩ := h2 i hi
    exact ⟨h0, v, hv, hm.mv m⟩
  · refine .inr (.inl ⟨xs, m.sqT h1, fun i hi => ?_⟩)
    obtain ⟨h0, v, hv, hm⟩ := h2 i hi
    exact ⟨h0, v, hv, hm.mv m⟩
  · refine .inr (.inr ⟨xs, m.same _ _ h1, fun i hi => ?_⟩)
    obtain ⟨v, hv, hm⟩ := h2 i hi
    exact ⟨v, hv, hm.mv m⟩
def sp_put (K : PySem.W.Frag) (d : Nat) : Sp := fun vs H Q _ => ∃ (v vals : V) (t : Tm) (P : Int → Prop) (f : Int → Tm), vs = [v, vals] ∧ Im K H v t.d ∧ t.ok P ∧ t.dep < d ∧ Look1 K H vals P f ∧
  ∀ v' H', Mv [] H H' → Im K H' v' (t.put f).d → Q v' H'
section
variable {P : Program} {w : World} {K : PySem.W.Frag} {mg : Str → Option Value} {base : Heap}

end
end Fm
namespace Fm
open PySem PySem.Spec PyProof.Rows L2
local macro_rules | `(tactic| walk_at "nn") => `(tactic| dsimp only [tC, tNil, tCons, tCB, tCall, gName, tSeq, tAsg, tPar, tDrop, tRet])
theorem line5 {n : Nat} (h : n ≤ 100000) : n ≤ sizeLine := Nat.le_trans h (by decide)
theorem line5lt {n : Nat} (h : n ≤ 100000) : n < sizeLine := Nat.lt_of_le_of_lt h (by decide)
theorem Tm.mem_parts {x : Str} {us ts : List Tm} (h : Tm.op x us ∈ ts) : Tm.deps us < Tm.deps ts := by
  have := Tm.deps_le.mp (show Tm.deps ts ≤ Tm.deps ts from Nat.le_refl _) _ h
  simp only [Tm.dep] at this
  omega
theorem Tm.lv_mem : ∀ {t : Tm} {ts : List Tm}, t ∈ ts → t.lv ≤ Tm.lvs ts
  | t, u :: ts, h => by
    rcases List.mem_cons.mp h with rfl | h
    · simp only [Tm.lvs]; omega
    · have := Tm.lv_mem h
      simp only [Tm.lvs]; omega
theorem Tm.lvs_take : ∀ (i : Nat) (ts : List Tm), Tm.lvs (ts.take i) ≤ Tm.lvs ts
  | 0, ts => by simp [Tm.lvs]
  | i + 1, [] => by simp [Tm.lvs]
  | i + 1, t :: ts => by
    have := Tm.lvs_take i ts
    simp only [List.take_succ_cons, Tm.lvs]
    omega
def sp_leavesR (K : PySem.W.Frag) (d : Nat) : Sp := fun vs H Q _ => ∃ (a : Addr) (xs : List V) (ts : List Tm), vs = [.ref a] ∧ (SqL K H a xs ∨ SqT K H a xs) ∧ Ims K H xs (Tm.ds ts) ∧ Tm.deps ts < d ∧ Tm.lvs ts ≤ 100000 ∧
  ∀ p H', H p = none → Mv [] H H' → H' p = some (.lst ((Tm.leavesL ts).map V.int)) → Q (.ref p) H'
def sp_sizeR (K : PySem.W.Frag) (d : Nat) : Sp := fun vs H Q _ => ∃ (a : Addr) (xs : List V) (ts : List Tm), vs = [.ref a] ∧ (SqL K H a xs ∨ SqT K H a xs) ∧ Ims K H xs (Tm.ds ts) ∧ Tm.deps ts < d ∧ ts.length ≤ 100000 ∧ Tm.oks (fun _ => True) ts ∧
  ∀ H', Mv [] H H' → Q (.int (Tm.sizes ts)) H'
section
variable {P : Program} {w : World} {K : PySem.W.Frag} {mg : Str → Option Value} {base : Heap}
end
end Fm
namespace Fm
open PySem PySem.Spec PyProof.Rows L2
local macro_rules | `(tactic| walk_at "nn") => `(tactic| dsimp only [tC, tNil, tCons, tCB, tCall, gName, tSeq, tAsg, tPar, tDrop, tRet])
local macro_rules | `(tactic| walk_at "nc") => `(tactic| dsimp only [tC, tNil, tCons, tCB])
/-- names at hand -/
structure Nms (H : Hp) (b nm : Addr) (xs : List Str) : Prop where
  at_ : H nm = some (.lst (xs.map V.str))
  ne : nm ≠ b
  some_ : xs ≠ []
  few : xs.length ≤ 1000
  ok : ∀ x ∈ xs, Nm x
theorem Nms.dr {H H' : Hp} {b nm : Addr} {xs : List Str} (h : Nms H b nm xs) (d : Dr b H H') : Nms H' b nm xs := ⟨d.get h.ne h.at_, h.ne, h.some_, h.few, h.ok⟩
def sp_alike (K : PySem.W.Frag) : Sp := fun vs H Q _ => ∃ (x y : V) (d : PyData), vs = [x, y] ∧ Dp K H x d ∧ Dp K H y d ∧ Shw d ∧ Q (.bl true) H
section
variable {P : Program} {w : World} {K : PySem.W.Frag} {mg : Str → Option Value} {base : Heap}
theorem ok__law_alike (T : TX K mg) {k : Nat} : FnOkG P w K mg base CX0 (k + 1) T.d__law_alike.f T.d__law_alike.fd P__law_alike (sp_alike K) := by
  refine okG T.d__law_alike.F sc__law_alike (fun vs H Q E h => ?_) (fun cdv A outer s H vs Q E hgd hr h => ?_)
  · obtain ⟨_, _, _, rfl, _⟩ := h
    rfl
  · obtain ⟨x, y, d, rfl, hx, hy, hs, q⟩ := h
    have hu64 := hr.units
    refine ⟨_, (pss_one (ps_ret (pe_and (pe_cmpR (r := rEqG K) (op_eqG hu64) (pv 0) (pv 1) (nomark _)) (pe_one (pe_cmpR (r := rEqG K) (op_eqG hu64) (pe_callB (r := rReprG K) (call_reprG hgd hu64) (by rfl) T.b_repr bt_repr (pa_cons (pv 0) pa_nil)) (pe_callB (r := rReprG K) (call_reprG hgd hu64) (by rfl) T.b_repr bt_repr (pa_cons (pv 1) pa_nil)) (nomark _)))))), ?_⟩
    have hf := fine_lay d hs.fi
    refine ⟨x, rfl, y, rfl, Or.inr ⟨d, d, hx, hy, hs.shaped, hs.shaped, _, rfl, ?_⟩⟩
    rw [hs.eqv]
    refine ⟨x, rfl, ?_⟩
    walk_at "nc"
    refine ⟨x, d, rfl, hx, hf.2.1, hf.2.2, hs.dp, hs.len, y, rfl, ?_⟩
    refine ⟨y, d, rfl, hy, hf.2.1, hf.2.2, hs.dp, hs.len, Or.inl ⟨rfl, ?_⟩⟩
    rw [decide_eq_true rfl]
    exact q
theorem ints_shaped : ∀ o : List Int, SeqAt.shaped (.list (o.map PyData.int)) = true := fun o => by
  have h1 : ∀ o : List Int, PyData.canLayAll0 (o.map PyData.int) = true := fun o => by
    induction o with
    | nil => rfl
    | cons x o ih => simp [PyData.canLayAll0, PyData.canLay0, ih]
  have h2 : ∀ o : List Int, PyData.depthAll (o.map PyData.int) = 0 := fun o => by
    induction o with
    | nil => rfl
    | cons x o ih => simp [PyData.depthAll, PyData.depth, ih]
  show (PyData.canLay0 (.list (o.map PyData.int)) && decide (PyData.depth (.list (o.map PyData.int)) ≤ 64)) = true
  simp only [PyData.canLay0, PyData.depth, h1, h2]
  rfl
theorem dp_ints {H : Hp} : ∀ o : List Int, DpAll K H (o.map V.int) (o.map PyData.int)
  | [] => .nil
  | x :: o => .cons (.int x) (dp_ints o)
theorem ints_any (o : List Int) (u : Int) : ((o.map PyData.int).any fun z => PyData.eqv z (.int u)) = decide (u ∈ o) := by
  rw [List.any_map]
  have e : ((fun z => PyData.eqv z (.int u)) ∘ PyData.int) = fun z => z == u := by
    funext z
    simp [PyData.eqv]
  rw [e, Bool.eq_iff_iff]
  simp
end
end Fm
namespace Fm
open PySem PySem.Spec PyProof.Rows L2
local macro_rules | `(tactic| walk_at "nn") => `(tactic| dsimp only [tC, tNil, tCons, tCB, tCall, gName, tSeq, tAsg, tPar, tDrop, tRet])
local macro_rules | `(tactic| walk_at "nc") => `(tactic| dsimp only [tC, tNil, tCons, tCB])
/-! what is written down makes things -/
def Mk (K : PySem.W.Frag) (b : Addr) (σ : L2.St) (te : TE) (t : Th) : Prop := ∀ (H : Hp) (Q : VK), H b ≠ none → (∀ v H', Mv [] H H' → Is K b H' v t → Q v H') → te σ H Q
def MkA (K : PySem.W.Frag) (b : Addr) (σ : L2.St) (ta : TA) (ts : List Th) : Prop := ∀ (H : Hp) (Q : List V → Hp → Prop), H b ≠ none → (∀ xs H', Mv [] H H' → IsAll K b H' xs ts → Q xs H') → ta σ H Q
theorem Mv.there {H H' : Hp} {b : Addr} (m : Mv [] H H') (h : H b ≠ none) : H' b ≠ none := by
  cases e : H b with
  | none => exact absurd e h
  | some o =>
    rw [m.same _ _ e]
    exact Option.some_ne_none o
section
variable {K : PySem.W.Frag} {b : Addr} {σ : L2.St} {te : TE} {ta : TA} {t : Th} {ts : List Th}
theorem mk_non : Mk K b σ (tC .non) .non := fun H Q _ q => q _ H .refl rfl
theorem mk_bl (c : Bool) : Mk K b σ (tC (.bl c)) (.bl c) := fun H Q _ q => q _ H .refl rfl
theorem mk_int (i : Int) : Mk K b σ (tC (.int i)) (.int i) := fun H Q _ q => q _ H .refl rfl
theorem mk_neg (i : Int) : Mk K b σ (tUn (rU fun i => .int (-i)) (tC (.int i))) (.int (-i)) := fun H Q _ q => ⟨i, rfl, q _ H .refl rfl⟩
theorem mk_str (x : Str) (h : x.length ≤ 1000) : Mk K b σ (tC (.str x)) (.str x) := fun H Q _ q => q _ H .refl ⟨rfl, h⟩
theorem mka_nil : MkA K b σ tNil [] := fun H Q _ q => q _ H .refl rfl
theorem mka_cons (h : Mk K b σ te t) (k : MkA K b σ ta ts) : MkA K b σ (tCons te ta) (t :: ts) := fun H Q hb q =>
  h H _ hb fun v H1 m1 i1 => k H1 _ (m1.there hb) fun xs H2 m2 i2 => q _ H2 (m1.trans m2) (IsAll.cons (i1.mv0 m2) i2)
theorem mk_tup (hl : ts.length ≤ 1000) (h : MkA K b σ ta ts) : Mk K b σ (tTup ta) (.tup ts) := fun H Q hb q =>
  h H _ hb fun xs H1 m1 i1 => ⟨Nat.le_of_lt (small1000 (by rw [i1.length]; omega)), fun p np => q _ _ (m1.trans (.new np)) ⟨p, xs, rfl, .inl (.inl upd_same), i1.mv0 (.new np)⟩⟩
theorem mk_lst1 (h : Mk K b σ te t) : Mk K b σ (tLst (tCons te tNil)) .lst := fun H Q hb q =>
  h H _ hb fun v H1 m1 i1 => ⟨(by decide : 1 ≤ sizeLine), fun p np => q _ _ (m1.trans (.new np)) ⟨p, [v], rfl, (fun e => m1.there hb (e ▸ np)), upd_same⟩⟩
theorem mk_lstI (i : Int) : Mk K b σ (tLst (tCons (tC (.int i)) tNil)) .lst := mk_lst1 (mk_int i)
theorem mk_lstS (x : Str) (h : x.length ≤ 1000) : Mk K b σ (tLst (tCons (tC (.str x)) tNil)) .lst := mk_lst1 (mk_str x h)
/-- a list of things, written down -/
theorem rd_lstA {H : Hp} {Q : VK} (hl : ts.length ≤ 1000) (hb : H b ≠ none) (h : MkA K b σ ta ts) (q : ∀ p xs H', H p = none → Mv [] H H' → H' p = some (.lst xs) → IsAll K b H' xs ts → Q (.ref p) H') : tLst ta σ H Q :=
  h H _ hb fun xs H1 m1 i1 => ⟨Nat.le_of_lt (small1000 (by rw [i1.length]; omega)), fun p np => q p xs _ (m1.free np) (m1.trans (.new np)) upd_same (i1.mv0 (.new np))⟩
/-- y = [..]; the rest -/
theorem sq_lstA {H : Hp} {i : Nat} {tb : TS} {D : Ends} (ts : List Th) (hl : ts.length ≤ 1000) (hb : H b ≠ none) (h : MkA K b σ ta ts) (q : ∀ p xs H', H p = none → Mv [] H H' → H' p = some (.lst xs) → IsAll K b H' xs ts → tb D (σ.set i (some (.ref p))) H') : tSeq (tAsg (tLst ta) (gName i)) tb D σ H := by
  show tLst ta σ H (fun x H1 => gName i x σ H1 (tb D))
  exact rd_lstA hl hb h q
/-- y = x + [..]; the rest -/
theorem sq_addA {H : Hp} {i j : Nat} {tb : TS} {D : Ends} {p1 : Addr} {xs1 : List V} (ts : List Th) (hl : ts.length ≤ 1000) (hb : H b ≠ none) (hj : σ[j]? = some (some (.ref p1))) (e1 : H p1 = some (.lst xs1)) (h1 : xs1.length ≤ 1000) (h : MkA K b σ ta ts)
    (q : ∀ p xs H', H p = none → Mv [] H H' → H' p = some (.lst (xs1 ++ xs)) → IsAll K b H' xs ts → tb D (σ.set i (some (.ref p))) H') : tSeq (tAsg (tOp (rAddG K) (tVar j) (tLst ta)) (gName i)) tb D σ H :=
  ⟨.ref p1, hj, rd_lstA hl hb h fun p2 xs2 H2 n2 m2 e2 i2 => rd_catL (m2.same _ _ e1) e2 (line5 (by rw [i2.length]; omega)) fun p3 H3 n3 m3 e3 => q p3 xs2 H3 (m2.free n3) (m2.trans m3) e3 (i2.mv0 m3)⟩
theorem mk_dct : Mk K b σ tDNewK .dct := fun H Q hb q p np => q _ _ (.new np) ⟨p, [], rfl, (fun e => hb (e ▸ np)), upd_same⟩
end
/-- something odd, small -/
def sp_odd (K : PySem.W.Frag) : Sp := fun vs H Q _ => ∃ (b : Addr), vs = [.ref b] ∧ Bag H b ∧ ∀ v (t : Th) H', Is K b H' v t → t.dep ≤ 2 → t.cnt ≤ 20 → Dr b H H' → Q v H'
def odd1 : List Th := [.non, .bl true, .bl false, .int (-1), .str "a", .str "", .tup [.str ""], .tup [], .tup [.str "a", .str "b"], .tup [.str "a", .non], .tup [.str "A"], .tup [.str "abcdefghi"], .tup [.str "a", .int (-1)], .lst]
def odd2 : List Th := [.lst, .tup [.str "a", .int 0, .int 0, .int 0, .int 0], .tup [.int 0], .tup [.non, .int 0], .tup [.str "a", .bl true], .dct, .tup [.str "a-"], .tup [.str "a", .lst], .tup [.str "a b"], .tup [.str "a", .tup []]]
theorem odd_small : ∀ t ∈ odd1 ++ odd2, t.dep ≤ 2 ∧ t.cnt ≤ 20 := by
  intro t ht
  simp only [odd1, odd2, List.cons_append, List.nil_append, List.mem_cons, List.not_mem_nil, or_false] at ht
  rcases ht with rfl | rfl | rfl | rfl | rfl | rfl | rfl | rfl | rfl | rfl | rfl | rfl | rfl | rfl | rfl | rfl | rfl | rfl | rfl | rfl | rfl | rfl | rfl | rfl <;> simp [Th.dep, Th.deps, Th.cnt, Th.cnts]
section
variable {P : Program} {w : World} {K : PySem.W.Frag} {mg : Str → Option Value} {base : Heap}
theorem ok__law_odd (T : TX K mg) {k : Nat} : FnOk P w K mg base CX0 (k + 2) T.d__law_odd.f T.d__law_odd.fd P__law_odd (sp_odd K) := by
  have G__law_take : FnOk P w K mg base CX0 1 T.d__law_take.f T.d__law_take.fd P__law_take sp_take := ok__law_take T
  refine T.d__law_odd.F.ok sc__law_odd (fun vs H Q E h => ?_) (fun cdv A outer s H vs Q E hr h => ?_)
  · obtain ⟨_, rfl, _⟩ := h
    rfl
  · obtain ⟨b, rfl, hB, q⟩ := h
    refine ⟨_, (pss_cons (ps_set (i := 1) sc__law_odd.nd rfl (Or.inl rfl) (pe_lst (pa_cons pe_non (pa_cons pe_bl (pa_cons pe_bl (pa_cons (pe_un un_neg pe_int) (pa_cons pe_str (pa_cons pe_str (pa_cons (pe_tup (pa_cons pe_str pa_nil)) (pa_cons (pe_tup pa_nil) (pa_cons (pe_tup (pa_cons pe_str (pa_cons pe_str pa_nil))) (pa_cons (pe_tup (pa_cons pe_str (pa_cons pe_non pa_nil))) (pa_cons (pe_tup (pa_cons pe_str pa_nil)) (pa_cons (pe_tup (pa_cons pe_str pa_nil)) (pa_cons (pe_tup (pa_cons pe_str (pa_cons (pe_un un_neg pe_int) pa_nil))) (pa_cons (pe_lst (pa_cons pe_int pa_nil)) pa_nil)))))))))))))))) (pss_cons (ps_set (i := 1) sc__law_odd.nd rfl (Or.inl rfl) (pe_op (r := rAddG K) op_addG (pv 1) (pe_lst (pa_cons (pe_lst (pa_cons pe_str pa_nil)) (pa_cons (pe_tup (pa_cons pe_str (pa_cons pe_int (pa_cons pe_int (pa_cons pe_int (pa_cons pe_int pa_nil)))))) (pa_cons (pe_tup (pa_cons pe_int pa_nil)) (pa_cons (pe_tup (pa_cons pe_non (pa_cons pe_int pa_nil))) (pa_cons (pe_tup (pa_cons pe_str (pa_cons pe_bl pa_nil))) (pa_cons pe_dnewK (pa_cons (pe_tup (pa_cons pe_str pa_nil)) (pa_cons (pe_tup (pa_cons pe_str (pa_cons (pe_lst (pa_cons pe_str pa_nil)) pa_nil))) (pa_cons (pe_tup (pa_cons pe_str pa_nil)) (pa_cons (pe_tup (pa_cons pe_str (pa_cons (pe_tup pa_nil) pa_nil))) pa_nil))))))))))))) (pss_one (ps_ret (pe_ix (r := rIx K) ix_seq (pv 1) (pe_call G__law_take (hr.mono (by omega)) rfl T.d__law_take.g T.d__law_take.F.kp T.d__law_take.b .nil pass0 (pa_cons (pv 0) (pa_cons pe_int pa_nil))) (fun _ _ => rfl)))))), ?_⟩
    have hb : H b ≠ none := by
      obtain ⟨xs, e⟩ := hB.lst
      rw [e]
      exact Option.some_ne_none _
    refine sq_lstA (K := K) odd1 (by decide) hb ?_ fun p1 xs1 H1 n1 m1 e1 i1 => ?_
    · unfold odd1
      repeat' first | exact mka_nil | refine mka_cons ?_ ?_ | exact mk_non | exact mk_bl _ | exact mk_int _ | exact mk_neg _ | exact mk_str _ (by decide) | refine mk_tup (by decide) ?_ | exact mk_lstI _ | exact mk_lstS _ (by decide) | exact mk_dct
    · have l1 := i1.length
      have c1 : odd1.length = 14 := by decide
      refine sq_addA (K := K) (b := b) odd2 (by decide) (m1.there hb) rfl e1 (by omega) ?_ fun p3 xs2 H3 n3 m3 e3 i3 => ?_
      · unfold odd2
        repeat' first | exact mka_nil | refine mka_cons ?_ ?_ | exact mk_non | exact mk_bl _ | exact mk_int _ | exact mk_neg _ | exact mk_str _ (by decide) | refine mk_tup (by decide) ?_ | exact mk_lstI _ | exact mk_lstS _ (by decide) | exact mk_dct
      · have l2 := i3.length
        have c2 : odd2.length = 10 := by decide
        have m13 := m1.trans m3
        have hB3 := hB.mv m13
        refine ⟨.ref p3, rfl, .ref b, rfl, b, 24, rfl, hB3, by decide, by decide, fun j H4 hj0 hj1 d4 => ?_⟩
        have hlt : j.toNat < (xs1 ++ xs2).length := by
          rw [List.length_append]
          omega
        have hp3 : p3 ≠ b := (hB.mv m1).fneq n3
        have i4 : IsAll K b H4 (xs1 ++ xs2) (odd1 ++ odd2) := ((i1.mv0 m3).append i3).dr d4
        obtain ⟨u, hu, hi⟩ := i4.get (List.getElem?_eq_getElem hlt)
        obtain ⟨s1, s2⟩ := odd_small u (List.mem_of_getElem? hu)
        exact rd_ixL (.inl (.inl (d4.get hp3 e3))) hj0 (List.getElem?_eq_getElem hlt) (q _ u H4 hi s1 s2 ((Dr.of m13).trans d4))
end
end Fm
namespace Fm
open PySem PySem.Spec PyProof.Rows L2
local macro_rules | `(tactic| walk_at "nn") => `(tactic| dsimp only [tC, tNil, tCons, tCB, tCall, gName, tSeq, tAsg, tPar, tDrop, tRet])
local macro_rules | `(tactic| walk_at "nc") => `(tactic| dsimp only [tC, tNil, tCons, tCB])
/-- a term with something odd in it -/
def sp_spoilt (K : PySem.W.Frag) (d : Nat) : Sp := fun vs H Q _ => ∃ (b : Addr) (v : V) (t : Tm) (R : Int → Prop), vs = [.ref b, v] ∧ Bag H b ∧ Im K H v t.d ∧ t.ok R ∧ t.dep < d ∧
  ∀ v' (u : Th) H', Is K b H' v' u → u.dep ≤ t.dep + 2 → u.cnt ≤ t.th.cnt + 20 → Dr b H H' → Q v' H'
mutual
theorem Tm.th_dep : ∀ t : Tm, t.th.dep = t.dep
  | .var _ => by simp [Tm.th, Th.dep, Tm.dep]
  | .op _ ts => by simp [Tm.th, Th.dep, Th.deps, Tm.dep, Tm.ths_dep ts]
theorem Tm.ths_dep : ∀ ts : List Tm, Th.deps (Tm.ths ts) = Tm.deps ts
  | [] => by simp [Tm.ths, Th.deps, Tm.deps]
  | t :: ts => by simp [Tm.ths, Th.deps, Tm.deps, Tm.th_dep t, Tm.ths_dep ts]
end
theorem Tm.ths_map : ∀ ts : List Tm, Tm.ths ts = ts.map Tm.th
  | [] => by simp [Tm.ths]
  | t :: ts => by simp [Tm.ths, Tm.ths_map ts]
theorem Th.deps_le {n : Nat} : ∀ {ts : List Th}, Th.deps ts ≤ n ↔ ∀ t ∈ ts, t.dep ≤ n
  | [] => by simp [Th.deps]
  | t :: ts => by
    have := Th.deps_le (n := n) (ts := ts)
    simp only [Th.deps, List.mem_cons, forall_eq_or_imp, ← this]
    omega
section
variable {K : PySem.W.Frag} {H : Hp} {Q : VK}
/-- t[lo:hi] of a tuple, any cut -/
theorem rd_slT {a : Addr} {xs : List V} {lo hi : Option Int} (ha : SqT K H a xs) (h : ∀ p H', Mv [] H H' → SqT K H' p (cutV xs lo hi) → Q (.ref p) H') : rSlG K (.ref a) lo hi H Q := by
  refine Or.inr (Or.inl ⟨a, xs, rfl, ha, fun z => h a H .refl ?_, fun _ p np => h p _ (.new np) (.inl (.inl upd_same))⟩)
  have e : cutV xs lo hi = xs := by
    unfold cutV
    rw [z.1, z.2, List.drop_zero, Nat.sub_zero, List.take_length]
  rw [e]
  exact ha
theorem cut_hi (xs : List V) (k : Nat) : cutV xs none (some (k : Int)) = xs.take k := by
  unfold cutV
  rw [HT.sIx_none, HT.sIx_nat, List.drop_zero, Nat.sub_zero, List.take_eq_take_iff]
  omega
theorem cut_lo (xs : List V) (k : Nat) : cutV xs (some (k : Int)) none = xs.drop k := by
  unfold cutV
  rw [HT.sIx_none, HT.sIx_nat]
  by_cases h : k ≤ xs.length
  · rw [Nat.min_eq_left h, List.take_of_length_le (by rw [List.length_drop]; omega)]
  · rw [Nat.min_eq_right (by omega), List.drop_of_length_le (Nat.le_refl _), List.drop_of_length_le (by omega)]
    simp
end
theorem Th.deps_append : ∀ ts us : List Th, Th.deps (ts ++ us) = max (Th.deps ts) (Th.deps us)
  | [], us => by simp [Th.deps]
  | t :: ts, us => by simp only [List.cons_append, Th.deps, Th.deps_append ts us]; omega
theorem Th.deps_take (n : Nat) (ts : List Th) : Th.deps (ts.take n) ≤ Th.deps ts := Th.deps_le.mpr fun t h => Th.deps_mem (List.mem_of_mem_take h)
theorem Th.deps_drop (n : Nat) (ts : List Th) : Th.deps (ts.drop n) ≤ Th.deps ts := Th.deps_le.mpr fun t h => Th.deps_mem (List.mem_of_mem_drop h)
theorem Th.cnts_split : ∀ (n : Nat) (ts : List Th) (t : Th), ts[n]? = some t → Th.cnts (ts.take n) + t.cnt + Th.cnts (ts.drop (n + 1)) = Th.cnts ts
  | 0, [], t, h => by simp at h
  | 0, u :: ts, t, h => by
    simp at h
    subst h
    simp [Th.cnts]
  | n + 1, [], t, h => by simp at h
  | n + 1, u :: ts, t, h => by
    have := Th.cnts_split n ts t (by simpa using h)
    simp only [List.take_succ_cons, List.drop_succ_cons, Th.cnts]
    omega
section
variable {P : Program} {w : World} {K : PySem.W.Frag} {mg : Str → Option Value} {base : Heap}
theorem ok__law_spoilt (T : TX K mg) : ∀ d : Nat, FnOk P w K mg base CX0 (d + 2) T.d__law_spoilt.f T.d__law_spoilt.fd P__law_spoilt (sp_spoilt K d)
  | 0 => ⟨fun vs H Q E h => by obtain ⟨_, _, _, _, _, _, _, _, h, _⟩ := h; omega, fun _ _ _ _ _ _ _ _ _ _ _ _ _ h => by obtain ⟨_, _, _, _, _, _, _, _, h, _⟩ := h; omega⟩
  | d + 1 => by
    have G__law_spoilt := ok__law_spoilt T d
    have G__law_odd : FnOk P w K mg base CX0 (d + 2) T.d__law_odd.f T.d__law_odd.fd P__law_odd (sp_odd K) := ok__law_odd T
    have G__law_take : FnOk P w K mg base CX0 1 T.d__law_take.f T.d__law_take.fd P__law_take sp_take := ok__law_take T
    refine T.d__law_spoilt.F.ok sc__law_spoilt (fun vs H Q E h => ?_) (fun cdv A outer s H vs Q E hr h => ?_)
    · obtain ⟨_, _, _, _, rfl, _⟩ := h
      rfl
    · obtain ⟨b, v, t, R, rfl, hB, hv, hok, hdp, q⟩ := h
      have hu64 := hr.units
      refine ⟨_, (pss_cons (ps_if (PW.pt (pw_or (pt_val (pe_callB (r := rIsi K) call_isi (by rfl) T.b_isinstance bt_isinstance (pa_cons (pv 1) (pa_cons (pe_ty T.b_int bt_int) pa_nil)))) (pw_or (pt_cmpR (r := rEqG K) (op_eqG hu64) (pe_callB (r := rLenG K) call_lenG (by rfl) T.b_len bt_len (pa_cons (pv 1) pa_nil)) pe_int (nomark _)) (pw_or1 (pt_cmpR (r := rEqG K) (op_eqG hu64) (pe_call G__law_take (hr.mono (by omega)) rfl T.d__law_take.g T.d__law_take.F.kp T.d__law_take.b .nil pass0 (pa_cons (pv 0) (pa_cons pe_int pa_nil))) pe_int (nomark _)))))) (pss_one (ps_ret (pe_call G__law_odd (hr.mono (by omega)) rfl T.d__law_odd.g T.d__law_odd.F.kp T.d__law_odd.b .nil pass0 (pa_cons (pv 0) pa_nil)))) pss_nil) (pss_cons (ps_set (i := 2) sc__law_spoilt.nd rfl (Or.inl rfl) (pe_op (r := rAddG K) op_addG pe_int (pe_call G__law_take (hr.mono (by omega)) rfl T.d__law_take.g T.d__law_take.F.kp T.d__law_take.b .nil pass0 (pa_cons (pv 0) (pa_cons (pe_op op_sub (pe_callB (r := rLenG K) call_lenG (by rfl) T.b_len bt_len (pa_cons (pv 1) pa_nil)) pe_int) pa_nil))))) (pss_one (ps_ret (pe_op (r := rAddG K) op_addG (pe_op (r := rAddG K) op_addG (pe_slice (r := rSlG K) sl_G (pv 1) po_none (po_some (pv 2))) (pe_tup (pa_cons (pe_call G__law_spoilt (hr.mono (by omega)) rfl T.d__law_spoilt.g T.d__law_spoilt.F.kp T.d__law_spoilt.b .nil pass0 (pa_cons (pv 0) (pa_cons (pe_ix (r := rIx K) ix_seq (pv 1) (pv 2) (fun _ _ => rfl)) pa_nil))) pa_nil))) (pe_slice (r := rSlG K) sl_G (pv 1) (po_some (pe_op (r := rAddG K) op_addG (pv 2) pe_int)) po_none)))))), ?_⟩
      refine ⟨v, rfl, ?_⟩
      walk_at "nn"
      refine rd_isInt hv ⟨_, rfl, ?_⟩
      cases t with
      | var j =>
        refine ⟨.ref b, rfl, b, rfl, hB, fun v' u H' hi hd hc dr => q v' u H' hi (by simpa [Tm.dep] using hd) (by omega) dr⟩
      | op x ts =>
        obtain ⟨a, xs0, rfl, ha, hxs⟩ := hv.tupI
        obtain ⟨x', xs, rfl, hx', hys⟩ := hxs.invD
        have hl : xs.length = ts.length := by rw [hys.length, Tm.ds_map, List.length_map]
        refine ⟨.ref a, rfl, ?_⟩
        walk_at "nc"
        refine rd_len (.inr ha) (Or.inl ⟨rfl, ?_⟩)
        rw [vint_eq]
        refine ⟨_, rfl, ite2 (fun e => ?_) (fun e => ?_)⟩
        · refine ⟨.ref b, rfl, b, rfl, hB, fun v' u H' hi hd hc dr => q v' u H' hi (by omega) (by omega) dr⟩
        · have hne : ts.length ≠ 0 := by
            intro z
            simp [hl, z] at e
          refine ⟨.ref b, rfl, b, 3, rfl, hB, by decide, by decide, fun way H1 hw0 hw1 d1 => Or.inl ⟨rfl, _, rfl, ite2 (fun e2 => ?_) (fun e2 => ?_)⟩⟩
          · exact ⟨.ref b, rfl, b, rfl, d1.bag hB, fun v' u H' hi hd hc dr => q v' u H' hi (by omega) (by omega) (d1.trans dr)⟩
          · have hB1 := d1.bag hB
            have ha1 := d1.mv.sqT ha
            refine ⟨.ref b, rfl, .ref a, rfl, ?_⟩
            walk_at "nn"
            refine rd_len (.inr ha1) ⟨_, 1, rfl, rfl, ?_⟩
            refine ⟨b, _, rfl, hB1, by simp only [List.length_cons]; omega, by have := hok.2.1; simp only [List.length_cons]; omega, fun i H2 hi0 hi1 d2 => Or.inl ⟨1, i, rfl, rfl, ?_⟩⟩
            simp only [List.length_cons] at hi1
            have hB2 := d2.bag hB1
            have d12 := d1.trans d2
            have ha2 := d12.mv.sqT ha
            obtain ⟨n, rfl⟩ := Int.eq_ofNat_of_zero_le hi0
            have hn : n < ts.length := by omega
            have hnx : n < xs.length := by omega
            refine ⟨.ref a, rfl, _, rfl, ?_⟩
            walk_at "nn"
            refine ⟨_, rfl, rd_slT ha2 fun p3 H3 m3 e3 => ?_⟩
            rw [show ((1 : Int) + (n : Int)) = ((n + 1 : Nat) : Int) by omega, cut_hi] at e3
            have hB3 := hB2.mv m3
            have hys3 := (hys.mv d12.mv).mv m3
            obtain ⟨td, htd, him⟩ := hys3.get (List.getElem?_eq_getElem hnx)
            rw [Tm.ds_map, List.getElem?_map] at htd
            obtain ⟨t, ht, rfl⟩ := Option.map_eq_some_iff.mp htd
            have htm := List.mem_of_getElem? ht
            refine ⟨.ref b, rfl, .ref a, rfl, _, rfl, ?_⟩
            refine rd_ixT (m3.sqT ha2) (by omega) (v := xs[n]) (by rw [show ((1 : Int) + (n : Int)).toNat = n + 1 by omega]; simpa using List.getElem?_eq_getElem hnx) ?_
            have htd : t.dep ≤ Tm.deps ts := Tm.deps_le.mp (Nat.le_refl _) t htm
            refine ⟨b, xs[n], t, R, rfl, hB3, him, Tm.oks_iff.mp hok.2.2 t htm, by simp only [Tm.dep] at hdp; omega, fun v' u H4 hu hud huc d4 => ?_⟩
            refine ⟨(by decide : 1 ≤ sizeLine), fun p5 n5 => ?_⟩
            refine rd_cat ((Mv.new (S := []) n5).sqT (d4.mv.sqT e3)) (.inl (.inl upd_same)) (line5 (by have := hok.2.1; simp; omega)) fun p6 H6 m6 e6 => ?_
            refine ⟨.ref a, rfl, _, rfl, Or.inl ⟨_, 1, rfl, rfl, _, rfl, ?_⟩⟩
            have d36 : Dr b H3 H6 := d4.trans (Dr.of ((Mv.new n5).trans m6))
            have ha6 := d36.mv.sqT (m3.sqT ha2)
            refine rd_slT ha6 fun p7 H7 m7 e7 => ?_
            rw [show ((1 : Int) + (n : Int) + 1) = ((n + 2 : Nat) : Int) by omega, cut_lo] at e7
            have l6 : ((List.take (n + 1) (x' :: xs)) ++ [v'] ++ (List.drop (n + 2) (x' :: xs))).length ≤ 100000 := by
              have := hok.2.1
              simp
              omega
            refine rd_cat (m7.sqT e6) e7 (line5 (by rw [← List.length_append]; exact l6)) fun p8 H8 m8 e8 => ?_
            have m68 := m7.trans m8
            have hall : IsAll K b H (x' :: xs) (.str x :: Tm.ths ts) := IsAll.cons ⟨hx'.strI, by have := hok.1.2.1; omega⟩ (IsAll.of_ims ts xs hok.2.2 hys)
            have d08 : Dr b H H8 := (d12.trans (Dr.of m3)).trans (d36.trans (Dr.of m68))
            have hall8 := hall.dr d08
            have hu8 : Is K b H8 v' u := (hu.mv0 ((Mv.new n5).trans m6)).mv0 m68
            have hn1 : (Th.str x :: Tm.ths ts)[n + 1]? = some t.th := by
              rw [List.getElem?_cons_succ, Tm.ths_map, List.getElem?_map, ht]
              rfl
            have hc : Th.cnts ((Th.str x :: Tm.ths ts).take (n + 1)) + t.th.cnt + Th.cnts ((Th.str x :: Tm.ths ts).drop (n + 2)) = Th.cnts (Th.str x :: Tm.ths ts) := Th.cnts_split (n + 1) (.str x :: Tm.ths ts) t.th hn1
            have hd1 := Th.deps_take (n + 1) (.str x :: Tm.ths ts)
            have hd2 := Th.deps_drop (n + 2) (.str x :: Tm.ths ts)
            have hd3 : Th.deps (.str x :: Tm.ths ts) = Tm.deps ts := by simp [Th.deps, Th.dep, Tm.ths_dep]
            refine q _ (.tup ((Th.str x :: Tm.ths ts).take (n + 1) ++ [u] ++ (Th.str x :: Tm.ths ts).drop (n + 2))) H8 ⟨p8, _, rfl, e8, ?_⟩ ?_ ?_ d08
            · exact ((hall8.take (n + 1)).append (IsAll.cons hu8 IsAll.nil)).append (hall8.drop (n + 2))
            · simp only [Th.dep, Th.deps_append, Tm.dep, Th.deps]
              omega
            · show Th.cnt (.tup _) ≤ Th.cnt (.tup (Th.str x :: Tm.ths ts)) + 20
              generalize Th.str x :: Tm.ths ts = L at hc ⊢
              have h1 : Th.cnts [u] = u.cnt := by simp [Th.cnts]
              have h2 : 1 ≤ t.th.cnt := by
                cases t <;> simp [Tm.th, Th.cnt]
              simp only [Th.cnt, Th.cnts_append, h1]
              omega
end
end Fm
namespace Fm
open PySem PySem.Spec PyProof.Rows L2
local macro_rules | `(tactic| walk_at "nn") => `(tactic| dsimp only [tC, tNil, tCons, tCB, tCall, gName, tSeq, tAsg, tPar, tDrop, tRet])
local macro_rules | `(tactic| walk_at "nc") => `(tactic| dsimp only [tC, tNil, tCons, tCB])
mutual
theorem Tm.th_cnt {R : Int → Prop} : ∀ (n : Nat) (t : Tm), t.ok R → t.dep ≤ n → t.th.cnt + 1 ≤ 2 * 3 ^ n
  | 0, .var i, _, _ => by simp [Tm.th, Th.cnt]
  | 0, .op x ts, _, h => by simp [Tm.dep] at h
  | n + 1, .var i, _, _ => by
    have := Nat.one_le_pow (n + 1) 3 (by decide)
    simp only [Tm.th, Th.cnt]
    omega
  | n + 1, .op x ts, k, h => by
    have h1 := Tm.ths_cnt n ts k.2.2 (by simp only [Tm.dep] at h; omega)
    have h2 := Nat.one_le_pow n 3 (by decide)
    have h3 := k.2.1
    rw [Nat.pow_succ]
    simp only [Tm.th, Th.cnt, Th.cnts]
    have h4 : ts.length = 0 ∨ ts.length = 1 ∨ ts.length = 2 ∨ ts.length = 3 := by omega
    rcases h4 with e | e | e | e <;> (rw [e] at h1; omega)
theorem Tm.ths_cnt {R : Int → Prop} : ∀ (n : Nat) (ts : List Tm), Tm.oks R ts → Tm.deps ts ≤ n → Th.cnts (Tm.ths ts) + ts.length ≤ ts.length * (2 * 3 ^ n)
  | _, [], _, _ => by simp [Tm.ths, Th.cnts]
  | n, t :: ts, k, h => by
    simp only [Tm.deps] at h
    have h1 := Tm.th_cnt n t k.1 (by omega)
    have h2 := Tm.ths_cnt n ts k.2 (by omega)
    simp only [Tm.ths, Th.cnts, List.length_cons, Nat.add_mul]
    omega
end
section
variable {K : PySem.W.Frag} {b p : Addr} {H : Hp} {xs ys : List V}
mutual
theorem Is.setL0 (hp : H p = some (.lst xs)) : ∀ (t : Th) (v : V), Is K b H v t → Is K b (upd H p (.lst ys)) v t
  | .non, v, h => h
  | .bl _, v, h => h
  | .int _, v, h => h
  | .str _, v, h => h
  | .tup ts, v, h => by
    obtain ⟨a, zs, e, hs, ha⟩ := h
    exact ⟨a, zs, e, (Mv.set (S := [p]) hp (by simp)).sqT hs, IsAll.setL0 hp ts zs ha⟩
  | .lst, v, h => by
    obtain ⟨a, zs, e, hn, ha⟩ := h
    by_cases q : a = p
    · exact ⟨a, ys, e, hn, by rw [q, upd_same]⟩
    · exact ⟨a, zs, e, hn, by rw [upd_ne q]; exact ha⟩
  | .dct, v, h => by
    obtain ⟨a, zs, e, hn, ha⟩ := h
    refine ⟨a, zs, e, hn, ?_⟩
    rw [upd_ne (by rintro rfl; rw [hp] at ha; cases ha)]
    exact ha
theorem IsAll.setL0 (hp : H p = some (.lst xs)) : ∀ (ts : List Th) (vs : List V), IsAll K b H vs ts → IsAll K b (upd H p (.lst ys)) vs ts
  | [], vs, h => h
  | t :: ts, vs, h => by
    obtain ⟨y, zs, e, h1, h2⟩ := h
    exact ⟨y, zs, e, Is.setL0 hp t y h1, IsAll.setL0 hp ts zs h2⟩
end
theorem Is.setL (hp : H p = some (.lst xs)) {t : Th} {v : V} (h : Is K b H v t) : Is K b (upd H p (.lst ys)) v t := Is.setL0 hp t v h
theorem IsAll.setL (hp : H p = some (.lst xs)) {ts : List Th} {vs : List V} (h : IsAll K b H vs ts) : IsAll K b (upd H p (.lst ys)) vs ts := IsAll.setL0 hp ts vs h
end
theorem IsAll.set {K : PySem.W.Frag} {b : Addr} {H : Hp} {v : V} {t : Th} : ∀ {ts : List Th} {vs : List V} (j : Nat), IsAll K b H vs ts → Is K b H v t → IsAll K b H (vs.set j v) (ts.set j t)
  | [], vs, j, h, k => by
    have h' : vs = [] := h
    rw [h']
    exact IsAll.nil
  | u :: ts, vs, 0, h, k => by
    obtain ⟨y, zs, rfl, h1, h2⟩ := h
    exact IsAll.cons k h2
  | u :: ts, vs, j + 1, h, k => by
    obtain ⟨y, zs, rfl, h1, h2⟩ := h
    exact IsAll.cons h1 (IsAll.set j h2 k)
/-- a text -/
def sp_text : Sp := fun vs H Q _ => ∃ (b : Addr), vs = [.ref b] ∧ Bag H b ∧ ∀ x H', x.length ≤ 12 → Dr b H H' → Q (.str x) H'
theorem rd_sign {K : PySem.W.Frag} {z : Str} {j : Int} {n : Nat} {H : Hp} {Q : VK} (hz : z.length = n) (hn : n ≤ 1000) (h0 : 0 ≤ j) (h1 : j < n) (h : ∀ c : Nat, Q (.str ⟨#[c]⟩) H) : rIx K (.str z) (.int j) H Q := by
  obtain ⟨i, rfl⟩ := Int.eq_ofNat_of_zero_le h0
  have hi : i < z.cps.toList.length := by rw [len_cps, hz]; omega
  have e := List.getElem?_eq_getElem hi
  exact Or.inr (Or.inr ⟨z, i, _, rfl, rfl, by rw [hz]; exact Nat.le_of_lt (small1000 (by omega)), atI_nat e, h _⟩)
section
variable {P : Program} {w : World} {K : PySem.W.Frag} {mg : Str → Option Value} {base : Heap}
theorem ok__law_text (T : TX K mg) {k : Nat} : FnOk P w K mg base CX0 (k + 2) T.d__law_text.f T.d__law_text.fd P__law_text sp_text := by
  have G__law_take : FnOk P w K mg base CX0 1 T.d__law_take.f T.d__law_take.fd P__law_take sp_take := ok__law_take T
  refine T.d__law_text.F.ok sc__law_text (fun vs H Q E h => ?_) (fun cdv A outer s H vs Q E hr h => ?_)
  · obtain ⟨_, rfl, _⟩ := h
    rfl
  · obtain ⟨b, rfl, hB, q⟩ := h
    refine ⟨_, (pss_cons (ps_set (i := 1) sc__law_text.nd rfl (Or.inr rfl) pe_str) (pss_cons (ps_set (i := 2) sc__law_text.nd rfl (Or.inl rfl) (pe_bm PySem.F.plainAttrs_str PySem.F.slot_str_join PySem.F.type_str_join mt_join pe_str (pa_cons (pe_lc (own := [("_law_k", 3)]) (g := gName 3) (by rfl) sc__law_text.nd (pi_range1 (by rfl) T.b_range (pa_cons (pe_call G__law_take (hr.mono (by omega)) rfl T.d__law_take.g T.d__law_take.F.kp T.d__law_take.b .nil pass0 (pa_cons (pv 0) (pa_cons pe_int pa_nil))) pa_nil)) (blkOk_by (own := [("_law_k", 3)]) (N := N__law_text) (sc := defScope s__law_text) (by decide +kernel)) (fun _ _ _ _ _ => pg_name (i := 3) sc__law_text.nd rfl (Or.inl rfl)) (fun _ _ _ _ _ => pts_nil) (fun _ _ _ _ _ => (pe_ix (r := rIx K) ix_seq (pv 1) (pe_call G__law_take (hr.mono (by omega)) rfl T.d__law_take.g T.d__law_take.F.kp T.d__law_take.b .nil pass0 (pa_cons (pv 0) (pa_cons pe_int pa_nil))) (fun _ _ => rfl)))) pa_nil))) (pss_one (ps_ret (pe_op (r := rAddG K) op_addG (pv 2) (pe_ix (r := rIx K) ix_seq (pe_lst (pa_cons pe_str (pa_cons pe_str (pa_cons pe_str (pa_cons pe_str pa_nil))))) (pe_call G__law_take (hr.mono (by omega)) rfl T.d__law_take.g T.d__law_take.F.kp T.d__law_take.b .nil pass0 (pa_cons (pv 0) (pa_cons pe_int pa_nil))) (fun _ _ => rfl))))))), ?_⟩
    refine ⟨rfl, .ref b, rfl, b, 11, rfl, hB, by decide, by decide, fun l H5 hl0 hl1 d5 => ⟨l, rfl, by omega, by omega, fun D nD => ?_⟩⟩
    have hB5 := d5.bag hB
    refine lc_range (lo := 0) (n := l.toNat) (fun i H6 => ∃ cs : List Nat, H6 D = some (.lst (cs.map fun c => V.str ⟨#[c]⟩)) ∧ cs.length = i ∧ Dr b H5 H6)
      ⟨[], upd_same, rfl, Dr.new nD⟩ (fun i H6 hi h6 => ?_) (fun H6 h6 => ?_)
    · obtain ⟨cs, e6, l6, d6⟩ := h6
      refine ⟨rfl, _, rfl, .ref b, rfl, b, 59, rfl, d6.bag hB5, by decide, by decide, fun j H7 hj0 hj1 d7 => rd_sign (n := 59) (by decide +kernel) (by decide) hj0 hj1 fun c => ?_⟩
      refine ⟨_, d7.get (hB5.fneq nD) e6, ?_, cs ++ [c], ?_, by simp [l6], (d6.trans d7).wr nD⟩
      · rw [List.length_map, l6]
        exact small1000 (by omega)
      · rw [upd_same, List.map_append]
        rfl
    · obtain ⟨cs, e6, l6, d6⟩ := h6
      have hmap : cs.map (fun c => V.str ⟨#[c]⟩) = (cs.map fun c => (⟨#[c]⟩ : Str)).map V.str := by rw [List.map_map]; rfl
      refine ⟨_, D, _, rfl, rfl, .inl (.inl (.inl (by rw [← hmap]; exact e6))), ?_, ?_⟩
      · rw [sum_ones, List.length_map, l6, show ("" : Str).length = 0 from by decide]
        omega
      · rw [join_chars]
        obtain ⟨B, hB0, hBl⟩ : ∃ B : Str, B = ⟨cs.toArray⟩ ∧ B.length = l.toNat := ⟨_, rfl, by rw [← l6]; rfl⟩
        rw [← hB0]
        have hB6 := d6.bag hB5
        refine ⟨.str B, rfl, (by decide : 4 ≤ sizeLine), fun p7 n7 => ?_⟩
        have d7 : Dr b H (upd H6 p7 (.lst [.str "", .str "", .str "-", .str "--"])) := (d5.trans d6).trans (Dr.new n7)
        have e7 : (upd H6 p7 (.lst [.str "", .str "", .str "-", .str "--"])) p7 = some (.lst [.str "", .str "", .str "-", .str "--"]) := upd_same
        have hp7 : p7 ≠ b := hB6.fneq n7
        generalize upd H6 p7 (.lst [.str "", .str "", .str "-", .str "--"]) = H7 at d7 e7 ⊢
        refine ⟨.ref b, rfl, b, 4, rfl, d7.bag hB, by decide, by decide, fun j H8 hj0 hj1 d8 => ?_⟩
        have e8 := d8.get hp7 e7
        have hj : j = 0 ∨ j = 1 ∨ j = 2 ∨ j = 3 := by omega
        have fin : ∀ y : Str, y.length ≤ 2 → rAddG K (.str B) (.str y) H8 Q := fun y hy => Or.inr (Or.inl ⟨B, y, rfl, rfl, line5 (by omega), q _ H8 (by rw [str_len_append]; omega) (d7.trans d8)⟩)
        rcases hj with rfl | rfl | rfl | rfl
        · exact rd_ixL (.inl (.inl e8)) (by decide) rfl (fin _ (by decide))
        · exact rd_ixL (.inl (.inl e8)) (by decide) rfl (fin _ (by decide))
        · exact rd_ixL (.inl (.inl e8)) (by decide) rfl (fin _ (by decide))
        · exact rd_ixL (.inl (.inl e8)) (by decide) rfl (fin _ (by decide))
end
end Fm
namespace Fm
open PySem PySem.Spec PyProof.Rows L2
local macro_rules | `(tactic| walk_at "nn") => `(tactic| dsimp only [tC, tNil, tCons, tCB, tCall, gName, tSeq, tAsg, tPar, tDrop, tRet])
local macro_rules | `(tactic| walk_at "nc") => `(tactic| dsimp only [tC, tNil, tCons, tCB])
/-- something, not too great -/
def sp_thing (K : PySem.W.Frag) : Sp := fun vs H Q _ => ∃ (b nm : Addr) (xs : List Str), vs = [.ref b, .ref nm] ∧ Bag H b ∧ Nms H b nm xs ∧
  ∀ v (t : Th) H', Is K b H' v t → t.dep ≤ 30 → t.cnt ≤ 5000 → Dr b H H' → Q v H'
def some1 : List Th := [.int 0, .int 1, .int (-1), .int (10 ^ 39), .bl true, .bl false, .non, .str "z", .str "zzzzzzzz", .str "zzzzzzzzz", .str "z-", .str "-", .str "zzzzzzzz-"]
theorem some_small : ∀ t ∈ some1, t.dep ≤ 2 ∧ t.cnt ≤ 20 := by
  intro t ht
  simp only [some1, List.mem_cons, List.not_mem_nil, or_false] at ht
  rcases ht with rfl | rfl | rfl | rfl | rfl | rfl | rfl | rfl | rfl | rfl | rfl | rfl | rfl <;> simp [Th.dep, Th.cnt]
theorem mk_pow {K : PySem.W.Frag} {b : Addr} {σ : L2.St} : Mk K b σ (tOp (rI CPow fun i j => .int (i ^ j.toNat)) (tC (.int 10)) (tC (.int 39))) (.int (10 ^ 39)) := fun H Q _ q => ⟨10, 39, rfl, rfl, ⟨by decide, by decide, by decide⟩, q _ H .refl rfl⟩
/-- a few things -/
structure Few (K : PySem.W.Frag) (b : Addr) (H : Hp) (p : Addr) (ys : List V) (us : List Th) : Prop where
  at_ : H p = some (.lst ys)
  is : IsAll K b H ys us
  dep : ∀ u ∈ us, u.dep ≤ 3
  cnt : ∀ u ∈ us, u.cnt ≤ 50
  few : us.length ≤ 3
theorem cnts_le {n : Nat} : ∀ {us : List Th}, (∀ u ∈ us, u.cnt ≤ n) → Th.cnts us ≤ us.length * n
  | [], _ => by simp [Th.cnts]
  | u :: us, h => by
    have h1 := h u (by simp)
    have h2 := cnts_le (us := us) (n := n) fun v hv => h v (by simp [hv])
    simp only [Th.cnts, List.length_cons, Nat.add_mul]
    omega
theorem rd_repT {K : PySem.W.Frag} {H : Hp} {l : Addr} {k : Int} {xs : List V} {Q : VK} (hT : SqT K H l xs) (hne : xs ≠ []) (h0 : 0 ≤ k) (h1 : k ≤ 1000) (hz : xs.length ≤ 1000)
    (h : ∀ p H', Mv [] H H' → SqT K H' p (List.replicate k.toNat xs).flatten → Q (.ref p) H') : rRepTG K (.ref l) (.int k) H Q :=
  ⟨l, k, xs, rfl, rfl, hT, hne, h0, h1, hz, fun e => h l H .refl (by subst e; simpa using hT), fun _ p np => h p _ (.new np) (.inl (.inl upd_same))⟩
theorem zeros_is {K : PySem.W.Frag} {b : Addr} {H : Hp} : ∀ n : Nat, IsAll K b H (List.replicate n [V.int 0]).flatten (List.replicate n (.int 0))
  | 0 => IsAll.nil
  | n + 1 => by
    rw [List.replicate_succ, List.replicate_succ, List.flatten_cons]
    exact IsAll.cons rfl (zeros_is n)
theorem zeros_cnt : ∀ n : Nat, Th.cnts (List.replicate n (.int 0)) = n
  | 0 => by simp [Th.cnts]
  | n + 1 => by
    rw [List.replicate_succ, Th.cnts, zeros_cnt n]
    simp [Th.cnt]
    omega
theorem zeros_dep : ∀ n : Nat, Th.deps (List.replicate n (.int 0)) = 0
  | 0 => by simp [Th.deps]
  | n + 1 => by
    rw [List.replicate_succ, Th.deps, zeros_dep n]
    simp [Th.dep]
section
variable {P : Program} {w : World} {K : PySem.W.Frag} {mg : Str → Option Value} {base : Heap}
theorem ok__law_thing (T : TX K mg) : FnOk P w K mg base CX0 10 T.d__law_thing.f T.d__law_thing.fd P__law_thing (sp_thing K) := by
  have G__law_take : FnOk P w K mg base CX0 1 T.d__law_take.f T.d__law_take.fd P__law_take sp_take := ok__law_take T
  have G__law_text : FnOk P w K mg base CX0 2 T.d__law_text.f T.d__law_text.fd P__law_text sp_text := ok__law_text T
  have G__law_odd : FnOk P w K mg base CX0 2 T.d__law_odd.f T.d__law_odd.fd P__law_odd (sp_odd K) := ok__law_odd T
  have G__law_spoilt : FnOk P w K mg base CX0 9 T.d__law_spoilt.f T.d__law_spoilt.fd P__law_spoilt (sp_spoilt K 7) := ok__law_spoilt T 7
  have G__law_term : FnOk P w K mg base CX0 9 T.d__law_term.f T.d__law_term.fd P__law_term (sp_term K 7) := ok__law_term T 7
  refine T.d__law_thing.F.ok sc__law_thing (fun vs H Q E h => ?_) (fun cdv A outer s H vs Q E hr h => ?_)
  · obtain ⟨_, _, _, rfl, _⟩ := h
    rfl
  · obtain ⟨b, nm, xs, rfl, hB, hN, q⟩ := h
    have hu64 := hr.units
    have hu65 := hu65_of hr
    refine ⟨_, (pss_cons (ps_set (i := 2) sc__law_thing.nd rfl (Or.inl rfl) (pe_call G__law_take (hr.mono (by omega)) rfl T.d__law_take.g T.d__law_take.F.kp T.d__law_take.b .nil pass0 (pa_cons (pv 0) (pa_cons pe_int pa_nil)))) (pss_cons (ps_if (pt_cmpR (r := rEqG K) (op_eqG hu64) (pv 2) pe_int (nomark _)) (pss_one (ps_ret (pe_call G__law_text (hr.mono (by omega)) rfl T.d__law_text.g T.d__law_text.F.kp T.d__law_text.b .nil pass0 (pa_cons (pv 0) pa_nil)))) pss_nil) (pss_cons (ps_if (pt_cmpR (r := rEqG K) (op_eqG hu64) (pv 2) pe_int (nomark _)) (pss_cons (ps_set (i := 3) sc__law_thing.nd rfl (Or.inl rfl) (pe_lst (pa_cons pe_int (pa_cons pe_int (pa_cons (pe_un un_neg pe_int) (pa_cons (pe_op op_pow pe_int pe_int) (pa_cons pe_bl (pa_cons pe_bl (pa_cons pe_non (pa_cons pe_str (pa_cons pe_str (pa_cons pe_str (pa_cons pe_str (pa_cons pe_str (pa_cons pe_str pa_nil))))))))))))))) (pss_one (ps_ret (pe_ix (r := rIx K) ix_seq (pv 3) (pe_call G__law_take (hr.mono (by omega)) rfl T.d__law_take.g T.d__law_take.F.kp T.d__law_take.b .nil pass0 (pa_cons (pv 0) (pa_cons pe_int pa_nil))) (fun _ _ => rfl))))) pss_nil) (pss_cons (ps_set (i := 4) sc__law_thing.nd rfl (Or.inl rfl) (pe_call G__law_term (hr.mono (by omega)) rfl T.d__law_term.g T.d__law_term.F.kp T.d__law_term.b .nil pass0 (pa_cons (pv 0) (pa_cons (pv 1) (pa_cons pe_int (pa_cons (pe_call G__law_take (hr.mono (by omega)) rfl T.d__law_take.g T.d__law_take.F.kp T.d__law_take.b .nil pass0 (pa_cons (pv 0) (pa_cons pe_int pa_nil))) pa_nil)))))) (pss_cons (ps_if (pt_cmpR (r := rEqG K) (op_eqG hu64) (pv 2) pe_int (nomark _)) (pss_one (ps_ret (pe_call G__law_spoilt (hr.mono (by omega)) rfl T.d__law_spoilt.g T.d__law_spoilt.F.kp T.d__law_spoilt.b .nil pass0 (pa_cons (pv 0) (pa_cons (pv 4) pa_nil))))) pss_nil) (pss_cons (ps_if (pt_cmpR op_lt (pv 2) pe_int (nomark _)) (pss_one (ps_ret (pv 4))) pss_nil) (pss_cons (ps_setLc (i := 3) (own := [("_law_k", 5)]) (g := gName 5) (by rfl) sc__law_thing.nd rfl rfl (sw_true rfl rfl rfl (by decide +kernel)) (pi_range1 (by rfl) T.b_range (pa_cons (pe_call G__law_take (hr.mono (by omega)) rfl T.d__law_take.g T.d__law_take.F.kp T.d__law_take.b .nil pass0 (pa_cons (pv 0) (pa_cons pe_int pa_nil))) pa_nil)) (blkOk_by (own := [("_law_k", 5)]) (N := N__law_thing) (sc := defScope s__law_thing) (by decide +kernel)) (fun _ _ _ _ _ => pg_name (i := 5) sc__law_thing.nd rfl (Or.inl rfl)) (fun _ _ _ _ _ => pts_nil) (fun _ _ _ _ _ => (pe_call G__law_term (hr.mono (by omega)) rfl T.d__law_term.g T.d__law_term.F.kp T.d__law_term.b .nil pass0 (pa_cons (pv 0) (pa_cons (pv 1) (pa_cons pe_int (pa_cons pe_int pa_nil))))))) (Evl.pss_cut (ps_if (PW.pt (pw_and (pt_cmpR (r := rEqG K) (op_eqG hu64) (pv 2) pe_int (nomark _)) (pw_and1 (pt_cmpR (r := rNeNil K) (op_neNil (Nat.lt_of_le_of_lt (Nat.le_add_right _ 65) hu65)) (pv 3) (pe_lst pa_nil) (nomark _))))) (pss_one (ps_asg (pe_call G__law_odd (hr.mono (by omega)) rfl T.d__law_odd.g T.d__law_odd.F.kp T.d__law_odd.b .nil pass0 (pa_cons (pv 0) pa_nil)) (pg_sub (pv 3) (pe_call G__law_take (hr.mono (by omega)) rfl T.d__law_take.g T.d__law_take.F.kp T.d__law_take.b .nil pass0 (pa_cons (pv 0) (pa_cons (pe_callB (r := rLenG K) call_lenG (by rfl) T.b_len bt_len (pa_cons (pv 3) pa_nil)) pa_nil))) set_list))) pss_nil) (pss_one (ps_ret (pe_ix (r := rIx K) ix_seq (pe_lst (pa_cons (pe_callTy (r := rTupOf K) call_tupG (by rfl) T.b_tuple bt_tuple (pa_cons (pv 3) pa_nil)) (pa_cons (pe_callTy (r := rTupOf K) call_tupG (by rfl) T.b_tuple bt_tuple (pa_cons (pv 3) pa_nil)) (pa_cons (pv 3) pa_nil)))) (pe_call G__law_take (hr.mono (by omega)) rfl T.d__law_take.g T.d__law_take.F.kp T.d__law_take.b .nil pass0 (pa_cons (pv 0) (pa_cons pe_int pa_nil))) (fun _ _ => rfl)))))))))))), ?_⟩
    refine ⟨.ref b, rfl, b, 7, rfl, hB, by decide, by decide, fun way H1 hw0 hw1 d1 => ?_⟩
    have hB1 := d1.bag hB
    have hN1 := hN.dr d1
    refine ⟨.int way, rfl, Or.inl ⟨rfl, _, rfl, ite2 (fun e => ?_) (fun e => ?_)⟩⟩
    · exact ⟨.ref b, rfl, b, rfl, hB1, fun x H2 hx d2 => q _ (.str x) H2 ⟨rfl, by omega⟩ (by simp [Th.dep]) (by simp [Th.cnt]) (d1.trans d2)⟩
    refine ⟨.int way, rfl, Or.inl ⟨rfl, _, rfl, ite2 (fun e2 => ?_) (fun e2 => ?_)⟩⟩
    · have hb : H1 b ≠ none := by
        obtain ⟨xs, e⟩ := hB1.lst
        rw [e]
        exact Option.some_ne_none _
      refine sq_lstA (K := K) some1 (by decide) hb ?_ fun p2 xs2 H2 n2 m2 e2 i2 => ?_
      · unfold some1
        repeat' first | exact mka_nil | refine mka_cons ?_ ?_ | exact mk_non | exact mk_bl _ | exact mk_int _ | exact mk_neg _ | exact mk_str _ (by decide) | exact mk_pow
      · have l2 := i2.length
        have c2 : some1.length = 13 := by decide
        have hB2 := hB1.mv m2
        refine ⟨.ref p2, rfl, .ref b, rfl, b, 13, rfl, hB2, by decide, by decide, fun j H4 hj0 hj1 d4 => ?_⟩
        have hlt : j.toNat < xs2.length := by omega
        have hp2 : p2 ≠ b := hB1.fneq n2
        obtain ⟨u, hu, hi⟩ := (i2.dr d4).get (List.getElem?_eq_getElem hlt)
        obtain ⟨s1, s2⟩ := some_small u (List.mem_of_getElem? hu)
        exact rd_ixL (.inl (.inl (d4.get hp2 e2))) hj0 (List.getElem?_eq_getElem hlt) (q _ u H4 hi (by omega) (by omega) ((d1.trans (Dr.of m2)).trans d4))
    · refine ⟨.ref b, rfl, .ref nm, rfl, .ref b, rfl, b, 7, rfl, hB1, by decide, by decide, fun dp H2 hd0 hd1 d2 => ?_⟩
      have hB2 := d2.bag hB1
      have hN2 := hN1.dr d2
      refine ⟨b, nm, xs, 4, dp, rfl, hB2, hN2.at_, hN2.ne, hN2.some_, hN2.few, hN2.ok, by decide, by decide, by omega, fun v t H3 ho hx1 hx2 him d3 => ?_⟩
      have hx3 : t.dep ≤ 6 := by have := hx2 (by decide); omega
      have hcn := Tm.th_cnt 6 t ho hx3
      have e36 : 2 * 3 ^ 6 = 1458 := by decide
      have d13 := (d1.trans d2).trans d3
      have hB3 := d13.bag hB
      have hN3 := hN.dr d13
      have hIs : Is K b H3 v t.th := Is.of_im t v ho him
      have hdt := Tm.th_dep t
      refine ⟨.int way, rfl, Or.inl ⟨rfl, _, rfl, ite2 (fun e3 => ?_) (fun e3 => ?_)⟩⟩
      · exact ⟨.ref b, rfl, v, rfl, b, v, t, _, rfl, hB3, him, ho, by omega, fun v' u H4 hu hud huc d4 => q v' u H4 hu (by omega) (by omega) (d13.trans d4)⟩
      refine ⟨.int way, rfl, _, _, rfl, rfl, _, rfl, ite2 (fun e4 => ?_) (fun e4 => ?_)⟩
      · exact ⟨v, rfl, q v t.th H3 hIs (by omega) (by omega) d13⟩
      · refine ⟨.ref b, rfl, b, 4, rfl, hB3, by decide, by decide, fun l H4 hl0 hl1 d4 => ⟨l, rfl, by omega, by omega, fun D nD => ?_⟩⟩
        have hB4 := d4.bag hB3
        have hDb : D ≠ b := hB4.fneq nD
        have hN4 := hN3.dr d4
        refine lc_range (lo := 0) (n := l.toNat) (fun i H5 => ∃ ys us, Few K b H5 D ys us ∧ us.length = i ∧ Dr b H4 H5)
          ⟨[], [], ⟨upd_same, IsAll.nil, by simp, by simp, by simp⟩, rfl, Dr.new nD⟩ (fun i H5 hi h5 => ?_) (fun H5 h5 => ?_)
        · obtain ⟨ys, us, f5, l5, d5⟩ := h5
          have hB5 := d5.bag hB4
          have hN5 := hN4.dr d5
          refine ⟨rfl, .ref b, rfl, .ref nm, rfl, b, nm, xs, 3, 2, rfl, hB5, hN5.at_, hN5.ne, hN5.some_, hN5.few, hN5.ok, by decide, by decide, by decide, fun v6 t6 H6 ho6 hx61 hx62 him6 d6 => ?_⟩
          have e6 := d6.get hDb f5.at_
          have hx6 : t6.dep ≤ 2 := by have := hx62 (by decide); exact this
          have hc6 := Tm.th_cnt 2 t6 ho6 hx6
          have hd6 := Tm.th_dep t6
          refine ⟨_, e6, ?_, ys ++ [v6], us ++ [t6.th], ⟨upd_same, ?_, ?_, ?_, ?_⟩, by simp [l5], (d5.trans d6).wr nD⟩
          · rw [f5.is.length, l5]
            exact small1000 (by omega)
          · exact IsAll.setL e6 ((f5.is.dr d6).append (IsAll.cons (Is.of_im t6 v6 ho6 him6) IsAll.nil))
          · intro u hu
            rcases List.mem_append.mp hu with hu | hu
            · exact f5.dep u hu
            · rw [List.mem_singleton.mp hu]
              omega
          · intro u hu
            rcases List.mem_append.mp hu with hu | hu
            · exact f5.cnt u hu
            · rw [List.mem_singleton.mp hu]
              omega
          · rw [List.length_append, l5]
            simp
            omega
        · obtain ⟨ys, us, f5, l5, d5⟩ := h5
          have d05 := d13.trans (d4.trans d5)
          refine ⟨fun σ H6 => σ = [some (.ref b), some (.ref nm), some (.int way), some (.ref D), some v, none] ∧ ∃ ys us, Few K b H6 D ys us ∧ Dr b H H6, ?_, ?_⟩
          · refine ⟨.int way, rfl, Or.inl ⟨rfl, _, rfl, ite2 (fun e6 => ?_) (fun e6 => ?_)⟩⟩
            · refine ⟨.ref D, rfl, Nat.zero_le _, fun p6 n6 => ?_⟩
              refine ⟨D, p6, ys, rfl, rfl, .inl (.inl (by rw [upd_ne (ne_of_none f5.at_ n6)]; exact f5.at_)), .inl (.inl upd_same), _, rfl, ite2 (fun e7 => ?_) (fun e7 => ?_)⟩
              · have d6 : Dr b H (upd H5 p6 (.lst [])) := d05.trans (Dr.new n6)
                have f6 : Few K b (upd H5 p6 (.lst [])) D ys us := ⟨by rw [upd_ne (ne_of_none f5.at_ n6)]; exact f5.at_, f5.is.mv0 (.new n6), f5.dep, f5.cnt, f5.few⟩
                generalize upd H5 p6 (.lst []) = H6 at d6 f6 ⊢
                refine ⟨.ref b, rfl, b, rfl, d6.bag hB, fun v7 u7 H7 hi7 hd7 hc7 d7 => ?_⟩
                have e7' := d7.get hDb f6.at_
                have hB7 := (d6.trans d7).bag hB
                have hl6 := f6.is.length
                have hf6 := f6.few
                have hpos : 0 < ys.length := by
                  cases ys with
                  | nil => simp at e7
                  | cons y ys => simp
                refine ⟨.ref D, rfl, .ref b, rfl, .ref D, rfl, ?_⟩
                walk_at "nn"
                refine rd_len (.inl (.inl (.inl e7'))) ⟨b, _, rfl, hB7, by omega, by omega, fun j H8 hj0 hj1 d8 => ?_⟩
                have e8 := d8.get hDb e7'
                obtain ⟨jn, rfl⟩ := Int.eq_ofNat_of_zero_le hj0
                refine ⟨D, _, _, jn, rfl, rfl, e8, ?_, rfl, _, us.set jn u7, ⟨upd_same, IsAll.setL e8 (IsAll.set jn ((f6.is.dr d7).dr d8) (hi7.dr d8)), ?_, ?_, by rw [List.length_set]; exact f6.few⟩, ?_⟩
                · exact Evl.ixN_nat (by omega)
                · intro u hu
                  rcases List.mem_or_eq_of_mem_set hu with hu | rfl
                  · exact f6.dep u hu
                  · omega
                · intro u hu
                  rcases List.mem_or_eq_of_mem_set hu with hu | rfl
                  · exact f6.cnt u hu
                  · omega
                · exact ((d6.trans d7).trans d8).wr (d13.trans d4 |>.free hB nD)
              · refine ⟨rfl, ys, us, ⟨by rw [upd_ne (ne_of_none f5.at_ n6)]; exact f5.at_, f5.is.mv0 (.new n6), f5.dep, f5.cnt, f5.few⟩, d05.trans (Dr.new n6)⟩
            · exact ⟨rfl, ys, us, f5, d05⟩
          · rintro σ H6 ⟨rfl, ys, us, f6, d6⟩
            have hl6 := f6.is.length
            have hf6 := f6.few
            have hc6 := cnts_le f6.cnt
            have hd6 : Th.deps us ≤ 3 := Th.deps_le.mpr f6.dep
            have hc3 : us.length * 50 ≤ 150 := by omega
            refine ⟨.ref D, rfl, ?_⟩
            walk_at "nn"
            refine rd_tupOf (.inl (.inl f6.at_)) fun p7 H7 m7 e7 => ?_
            refine ⟨.ref D, rfl, ?_⟩
            walk_at "nn"
            refine rd_tupOf (.inl (.inl (m7.same _ _ f6.at_))) fun p8 H8 m8 e8 => ?_
            have e8' := m8.sqT e7
            refine ⟨.ref D, rfl, (by decide : 3 ≤ sizeLine), fun p9 n9 => ?_⟩
            have m69 : Mv [] H6 (upd H8 p9 (.lst [.ref p7, .ref p8, .ref D])) := (m7.trans m8).trans (.new n9)
            have d9 : Dr b H (upd H8 p9 (.lst [.ref p7, .ref p8, .ref D])) := d6.trans (Dr.of m69)
            have e9 : (upd H8 p9 (.lst [.ref p7, .ref p8, .ref D])) p9 = some (.lst [.ref p7, .ref p8, .ref D]) := upd_same
            have f7 := (Mv.new (S := []) (o := .lst [.ref p7, .ref p8, .ref D]) n9).sqT e8'
            have f8 := (Mv.new (S := []) (o := .lst [.ref p7, .ref p8, .ref D]) n9).sqT e8
            have fD := m69.same _ _ f6.at_
            have fI := f6.is.mv0 m69
            have hp9 : p9 ≠ b := ((d6.trans (Dr.of (m7.trans m8))).bag hB).fneq n9
            generalize upd H8 p9 (.lst [.ref p7, .ref p8, .ref D]) = H9 at d9 e9 f7 f8 fD fI ⊢
            refine ⟨.ref b, rfl, b, 3, rfl, d9.bag hB, by decide, by decide, fun j H10 hj0 hj1 d10 => ?_⟩
            have d := d9.trans d10
            have e10 := d10.get hp9 e9
            have hj : j = 0 ∨ j = 1 ∨ j = 2 := by omega
            have hdt : (Th.tup us).dep ≤ 30 := by simp only [Th.dep]; omega
            have hct : (Th.tup us).cnt ≤ 5000 := by simp only [Th.cnt]; omega
            rcases hj with rfl | rfl | rfl
            · exact rd_ixL (.inl (.inl e10)) (by decide) rfl (q _ (.tup us) H10 ⟨p7, ys, rfl, d10.mv.sqT f7, fI.dr d10⟩ hdt hct d)
            · exact rd_ixL (.inl (.inl e10)) (by decide) rfl (q _ (.tup us) H10 ⟨p8, ys, rfl, d10.mv.sqT f8, fI.dr d10⟩ hdt hct d)
            · exact rd_ixL (.inl (.inl e10)) (by decide) rfl (q _ .lst H10 ⟨D, ys, rfl, hDb, d10.get hDb fD⟩ (by simp [Th.dep]) (by simp [Th.cnt]) d)
theorem ok__law_deep (T : TX K mg) : FnOk P w K mg base CX0 3 T.d__law_deep.f T.d__law_deep.fd P__law_deep (sp_thing K) := by
  have G__law_take : FnOk P w K mg base CX0 1 T.d__law_take.f T.d__law_take.fd P__law_take sp_take := ok__law_take T
  have G__law_odd : FnOk P w K mg base CX0 2 T.d__law_odd.f T.d__law_odd.fd P__law_odd (sp_odd K) := ok__law_odd T
  refine T.d__law_deep.F.ok sc__law_deep (fun vs H Q E h => ?_) (fun cdv A outer s H vs Q E hr h => ?_)
  · obtain ⟨_, _, _, rfl, _⟩ := h
    rfl
  · obtain ⟨b, nm, xs, rfl, hB, hN, q⟩ := h
    have hu64 := hr.units
    refine ⟨_, (pss_cons (ps_set (i := 2) sc__law_deep.nd rfl (Or.inl rfl) (pe_ix (r := rIx K) ix_seq (pe_lst (pa_cons pe_int (pa_cons (pe_tup (pa_cons pe_str pa_nil)) (pa_cons (pe_call G__law_odd (hr.mono (by omega)) rfl T.d__law_odd.g T.d__law_odd.F.kp T.d__law_odd.b .nil pass0 (pa_cons (pv 0) pa_nil)) pa_nil)))) (pe_call G__law_take (hr.mono (by omega)) rfl T.d__law_take.g T.d__law_take.F.kp T.d__law_take.b .nil pass0 (pa_cons (pv 0) (pa_cons pe_int pa_nil))) (fun _ _ => rfl))) (pss_cons (ps_for PassesOwn.never rfl (pi_range1 (by rfl) T.b_range (pa_cons (pe_call G__law_take (hr.mono (by omega)) rfl T.d__law_take.g T.d__law_take.F.kp T.d__law_take.b .nil pass0 (pa_cons (pv 0) (pa_cons pe_int pa_nil))) pa_nil)) (pg_name (i := 3) sc__law_deep.nd rfl (Or.inl rfl)) (pss_one (ps_set (i := 2) sc__law_deep.nd rfl (Or.inl rfl) (pe_op (r := rAddG K) op_addG (pe_tup (pa_cons (pe_ix (r := rIx K) ix_seq (pv 1) (pe_call G__law_take (hr.mono (by omega)) rfl T.d__law_take.g T.d__law_take.F.kp T.d__law_take.b .nil pass0 (pa_cons (pv 0) (pa_cons (pe_callB (r := rLenG K) call_lenG (by rfl) T.b_len bt_len (pa_cons (pv 1) pa_nil)) pa_nil))) (fun _ _ => rfl)) pa_nil)) (pe_op (r := rAddG K) op_addG (pe_op (r := rRepTG K) op_repTG (pe_tup (pa_cons pe_int pa_nil)) (pe_call G__law_take (hr.mono (by omega)) rfl T.d__law_take.g T.d__law_take.F.kp T.d__law_take.b .nil pass0 (pa_cons (pv 0) (pa_cons pe_int pa_nil)))) (pe_tup (pa_cons (pv 2) pa_nil))))))) (pss_one (ps_ret (pv 2))))), ?_⟩
    have hx0 : 0 < xs.length := List.length_pos_iff.mpr hN.some_
    have hx1 := hN.few
    have loop : ∀ (v : V) (t : Th) (H1 : Hp), Is K b H1 v t → t.dep ≤ 2 → t.cnt ≤ 20 → Dr b H H1 → True := fun _ _ _ _ _ _ _ => trivial
    refine ⟨(by decide : 1 ≤ sizeLine), fun p1 n1 => ⟨.ref b, rfl, b, rfl, hB.mv (.new n1), fun v2 t2 H2 hi2 hd2 hc2 d2 => ⟨(by decide : 3 ≤ sizeLine), fun p3 n3 => ?_⟩⟩⟩
    have hp1 : p1 ≠ b := hB.fneq n1
    have e1 : SqT K (upd H p1 (.tup [.str "c"])) p1 [.str "c"] := .inl (.inl upd_same)
    have d1 : Dr b H (upd H p1 (.tup [.str "c"])) := Dr.new n1
    generalize upd H p1 (.tup [.str "c"]) = H1 at d1 e1 d2
    have d02 := d1.trans d2
    have e2 := d2.mv.sqT e1
    have d3 : Dr b H (upd H2 p3 (.lst [.int 0, .ref p1, v2])) := d02.trans (Dr.new n3)
    have e3 : (upd H2 p3 (.lst [.int 0, .ref p1, v2])) p3 = some (.lst [.int 0, .ref p1, v2]) := upd_same
    have i3 := hi2.mv0 (Mv.new (o := .lst [.int 0, .ref p1, v2]) n3)
    have f3 := (Mv.new (S := []) (o := .lst [.int 0, .ref p1, v2]) n3).sqT e2
    have hp3 : p3 ≠ b := (d02.bag hB).fneq n3
    generalize upd H2 p3 (.lst [.int 0, .ref p1, v2]) = H3 at d3 e3 i3 f3 ⊢
    refine ⟨.ref b, rfl, b, 3, rfl, d3.bag hB, by decide, by decide, fun j H4 hj0 hj1 d4 => ?_⟩
    have d04 := d3.trans d4
    have e4 := d4.get hp3 e3
    have hj : j = 0 ∨ j = 1 ∨ j = 2 := by omega
    obtain ⟨v, t, ht, hIs, hdp, hct⟩ : ∃ v t, ([.int 0, .ref p1, v2] : List V)[j.toNat]? = some v ∧ Is K b H4 v t ∧ t.dep ≤ 2 ∧ t.cnt ≤ 20 := by
      rcases hj with rfl | rfl | rfl
      · exact ⟨_, .int 0, rfl, rfl, by simp [Th.dep], by simp [Th.cnt]⟩
      · exact ⟨_, .tup [.str "c"], rfl, ⟨p1, _, rfl, d4.mv.sqT f3, IsAll.cons ⟨rfl, by decide⟩ IsAll.nil⟩, by simp [Th.dep, Th.deps], by simp [Th.cnt, Th.cnts]⟩
      · exact ⟨_, t2, rfl, i3.dr d4, hd2, hc2⟩
    refine rd_ixL (.inl (.inl e4)) hj0 ht ?_
    have hB4 := d04.bag hB
    refine ⟨.ref b, rfl, b, 29, rfl, hB4, by decide, by decide, fun n H5 hn0 hn1 d5 => ⟨n, rfl, by omega, by omega, ?_⟩⟩
    have d05 := d04.trans d5
    refine for_range (lo := 0) (n := n.toNat) (fun i σ H6 => ∃ v t y, σ = [some (.ref b), some (.ref nm), some v, y] ∧ Is K b H6 v t ∧ t.dep ≤ 2 + i ∧ t.cnt ≤ 20 + 5 * i ∧ Dr b H H6)
      ⟨v, t, none, rfl, hIs.dr d5, by omega, by omega, d05⟩ (fun i σ H6 hi h6 => ?_) (fun σ H6 h6 => ?_)
    · obtain ⟨v, t, y, rfl, hIs6, hdp6, hct6, d6⟩ := h6
      have hB6 := d6.bag hB
      have hN6 := hN.dr d6
      refine ⟨.ref nm, rfl, .ref b, rfl, .ref nm, rfl, ?_⟩
      walk_at "nn"
      refine rd_len (.inl (.inl (.inl hN6.at_))) ?_
      refine ⟨b, _, rfl, hB6, by rw [List.length_map]; omega, by rw [List.length_map]; omega, fun ni H7 hi0 hi1 d7 => ?_⟩
      rw [List.length_map] at hi1
      have hni : ni.toNat < xs.length := by omega
      have d07 := d6.trans d7
      have hN7 := hN.dr d07
      refine rd_ixL (.inl (.inl hN7.at_)) hi0 (v := .str xs[ni.toNat]) (by rw [List.getElem?_map, List.getElem?_eq_getElem hni]; rfl) ?_
      obtain ⟨nx, hnx, hNm⟩ : ∃ nx, nx = xs[ni.toNat] ∧ Nm nx := ⟨_, rfl, hN.ok _ (List.getElem_mem hni)⟩
      rw [← hnx]
      refine ⟨(by decide : 1 ≤ sizeLine), fun p8 n8 => ⟨(by decide : 1 ≤ sizeLine), fun p9 n9 => ?_⟩⟩
      have e8 : SqT K (upd H7 p8 (.tup [.str nx])) p8 [.str nx] := .inl (.inl upd_same)
      have m8 : Mv [] H7 (upd H7 p8 (.tup [.str nx])) := .new n8
      generalize upd H7 p8 (.tup [.str nx]) = H8 at e8 m8 n9 ⊢
      have e9 : SqT K (upd H8 p9 (.tup [.int 0])) p9 [.int 0] := .inl (.inl upd_same)
      have m9 : Mv [] H8 (upd H8 p9 (.tup [.int 0])) := .new n9
      generalize upd H8 p9 (.tup [.int 0]) = H9 at e9 m9 ⊢
      have d09 := d07.trans (Dr.of (m8.trans m9))
      refine ⟨.ref b, rfl, b, 3, rfl, d09.bag hB, by decide, by decide, fun z H10 hz0 hz1 d10 => ?_⟩
      have d010 := d09.trans d10
      have e10 := d10.mv.sqT e9
      have k10 := d10.mv.sqT (m9.sqT e8)
      refine rd_repT e10 (by simp) hz0 (by omega) (by simp) fun p11 H11 m11 e11 => ?_
      refine ⟨v, rfl, (by decide : 1 ≤ sizeLine), fun p12 n12 => ?_⟩
      have hzl : ((List.replicate z.toNat [V.int 0]).flatten).length ≤ 2 := by
        have := (zeros_is (K := K) (b := b) (H := H11) z.toNat).length
        rw [this, List.length_replicate]
        omega
      refine rd_cat ((Mv.new (S := []) n12).sqT e11) (.inl (.inl upd_same)) (line5 (by simp only [List.length_cons, List.length_nil]; omega)) fun p13 H13 m13 e13 => ?_
      have m1013 : Mv [] H10 H13 := m11.trans ((Mv.new n12).trans m13)
      refine rd_cat (m1013.sqT k10) e13 (line5 (by simp only [List.length_cons, List.length_nil, List.length_append]; omega)) fun p14 H14 m14 e14 => ?_
      have d614 : Dr b H6 H14 := (d7.trans (Dr.of (m8.trans m9))).trans (d10.trans (Dr.of (m1013.trans m14)))
      have hc := zeros_cnt z.toNat
      have hd := zeros_dep z.toNat
      refine ⟨.ref p14, .tup ([Th.str nx] ++ (List.replicate z.toNat (Th.int 0) ++ [t])), _, rfl, ⟨p14, _, rfl, e14, IsAll.append (IsAll.cons (show Is K b H14 (.str nx) (.str nx) from ⟨rfl, by have := hNm.2.1; omega⟩) IsAll.nil) ((zeros_is z.toNat).append (IsAll.cons (hIs6.dr d614) IsAll.nil))⟩, ?_, ?_, d6.trans d614⟩
      · simp only [Th.dep, Th.deps_append, hd, Th.deps]
        omega
      · simp only [Th.cnt, Th.cnts_append, hc, Th.cnts]
        omega
    · obtain ⟨v, t, y, rfl, hIs6, hdp6, hct6, d6⟩ := h6
      exact ⟨v, rfl, q v t H6 hIs6 (by omega) (by omega) d6⟩
end
end Fm
namespace Fm
open PySem PySem.Spec PyProof.Rows L2
local macro_rules | `(tactic| walk_at "nn") => `(tactic| dsimp only [tC, tNil, tCons, tCB, tCall, gName, tSeq, tAsg, tPar, tDrop, tRet])
local macro_rules | `(tactic| walk_at "nc") => `(tactic| dsimp only [tC, tNil, tCons, tCB])
def fTh (k : Nat) : Th := .tup [.str "f", .int k]
theorem fTh_term (k : Nat) : isTerm (fTh k) = true := by
  simp only [fTh, isTerm, isTerms, isNamed]
  rw [show nmd "f" = true by decide +kernel]
  simp
theorem fTh_all (n : Nat) : ((List.range n).map fTh).all isTerm = true := by
  rw [List.all_eq_true]
  intro t ht
  obtain ⟨k, _, rfl⟩ := List.mem_map.mp ht
  exact fTh_term k
theorem set_all {us : List Th} (h : us.all isTerm = true) (u : Th) : ∀ j : Nat, j < us.length → (us.set j u).all isTerm = isTerm u := by
  induction us with
  | nil => intro j hj; simp at hj
  | cons x us ih =>
    simp only [List.all_cons, Bool.and_eq_true] at h
    intro j hj
    cases j with
    | zero => simp [h.2]
    | succ j =>
      simp only [List.set_cons_succ, List.all_cons, h.1, Bool.true_and]
      exact ih h.2 j (by simpa using hj)
theorem cnts_set (u : Th) : ∀ (us : List Th) (j : Nat), Th.cnts (us.set j u) ≤ Th.cnts us + u.cnt
  | [], j => by simp [Th.cnts]
  | x :: us, 0 => by
    simp only [List.set_cons_zero, Th.cnts]
    omega
  | x :: us, j + 1 => by
    have := cnts_set u us j
    simp only [List.set_cons_succ, Th.cnts]
    omega
theorem fTh_cnts (n : Nat) : Th.cnts ((List.range n).map fTh) ≤ n * 3 := by
  have h : ∀ u ∈ (List.range n).map fTh, u.cnt ≤ 3 := by
    intro u hu
    obtain ⟨k, _, rfl⟩ := List.mem_map.mp hu
    simp [fTh, Th.cnt, Th.cnts]
  have := cnts_le h
  simpa using this
def sp_law (K : PySem.W.Frag) : Sp := fun vs H Q _ => ∃ (a : Addr) (ns : List Int), vs = [.ref a] ∧ SqL K H a (ns.map V.int) ∧ ns.length ≤ 63 ∧ ∀ H', Q (.bl true) H'
def sp_many : Sp := fun vs H Q _ => ∃ (b : Addr), vs = [.ref b] ∧ Bag H b ∧ ∀ H', Q (.bl true) H'
theorem mv_ne {H H' : Hp} {p : Addr} {o : HO} (m : Mv [] H H') (h : H p = some o) : H' p = some o := m.same _ _ h
section
variable {P : Program} {w : World} {K : PySem.W.Frag} {mg : Str → Option Value} {base : Heap}
theorem ok__law_many_right (T : TX K mg) : FnOkG P w K mg base CX0 5 T.d__law_many_right.f T.d__law_many_right.fd P__law_many_right sp_many := by
  have G__law_take : FnOk P w K mg base CX0 1 T.d__law_take.f T.d__law_take.fd P__law_take sp_take := ok__law_take T
  have G__law_odd : FnOk P w K mg base CX0 2 T.d__law_odd.f T.d__law_odd.fd P__law_odd (sp_odd K) := ok__law_odd T
  have G_are_values : FnOk P w K mg base CX0 3 T.d_are_values.f T.d_are_values.fd P_are_values (sp_vals K) := ok_are_values T
  have G__law_is_term : FnOk P w K mg base CX0 4 T.d__law_is_term.f T.d__law_is_term.fd P__law_is_term (sp_isTermR K 3) := ok__law_is_term T 3
  have G__law_alike : FnOkG P w K mg base CX0 1 T.d__law_alike.f T.d__law_alike.fd P__law_alike (sp_alike K) := ok__law_alike T
  refine okG T.d__law_many_right.F sc__law_many_right (fun vs H Q E h => ?_) (fun cdv A outer s H vs Q E hgd hr h => ?_)
  · obtain ⟨_, rfl, _⟩ := h
    rfl
  · obtain ⟨b, rfl, hB, q⟩ := h
    have hu64 := hr.units
    refine ⟨_, (pss_cons (ps_set (i := 1) sc__law_many_right.nd rfl (Or.inl rfl) (pe_op (r := rAddG K) op_addG pe_int (pe_call G__law_take (hr.mono (by omega)) rfl T.d__law_take.g T.d__law_take.F.kp T.d__law_take.b .nil pass0 (pa_cons (pv 0) (pa_cons pe_int pa_nil))))) (pss_cons (ps_setLc (i := 2) (own := [("_law_k", 6)]) (g := gName 6) (by rfl) sc__law_many_right.nd rfl rfl (sw_true rfl rfl rfl (by decide +kernel)) (pi_range1 (by rfl) T.b_range (pa_cons (pv 1) pa_nil)) (blkOk_by (own := [("_law_k", 6)]) (N := N__law_many_right) (sc := defScope s__law_many_right) (by decide +kernel)) (fun _ _ _ _ _ => pg_name (i := 6) sc__law_many_right.nd rfl (Or.inl rfl)) (fun _ _ _ _ _ => pts_nil) (fun _ _ _ _ _ => (pe_tup (pa_cons pe_str (pa_cons (pv 6) pa_nil))))) (pss_cons (ps_par (i := 3) (j := 4) rfl sc__law_many_right.nd rfl rfl (by decide) rfl rfl (pa_cons (pe_call G__law_take (hr.mono (by omega)) rfl T.d__law_take.g T.d__law_take.F.kp T.d__law_take.b .nil pass0 (pa_cons (pv 0) (pa_cons (pv 1) pa_nil))) (pa_cons (pe_call G__law_odd (hr.mono (by omega)) rfl T.d__law_odd.g T.d__law_odd.F.kp T.d__law_odd.b .nil pass0 (pa_cons (pv 0) pa_nil)) pa_nil)) rfl) (pss_cons (ps_set (i := 5) sc__law_many_right.nd rfl (Or.inl rfl) (pe_tup (pa_cons (pe_call G_are_values (hr.mono (by omega)) rfl T.d_are_values.g T.d_are_values.F.kp T.d_are_values.b .nil pass0 (pa_cons (pv 1) (pa_cons (pe_callTy (r := rTupOf K) call_tupG (by rfl) T.b_tuple bt_tuple (pa_cons (pv 2) pa_nil)) pa_nil))) (pa_cons (pe_call G_are_values (hr.mono (by omega)) rfl T.d_are_values.g T.d_are_values.F.kp T.d_are_values.b .nil pass0 (pa_cons (pe_op (r := rAddG K) op_addG (pv 1) pe_int) (pa_cons (pe_callTy (r := rTupOf K) call_tupG (by rfl) T.b_tuple bt_tuple (pa_cons (pv 2) pa_nil)) pa_nil))) (pa_cons (pe_call G_are_values (hr.mono (by omega)) rfl T.d_are_values.g T.d_are_values.F.kp T.d_are_values.b .nil pass0 (pa_cons (pv 1) (pa_cons (pv 2) pa_nil))) pa_nil))))) (pss_cons (ps_asg (pv 4) (pg_sub (pv 2) (pv 3) set_list)) (pss_one (ps_ret (pe_callG G__law_alike hgd (hr.mono (by omega)) rfl T.d__law_alike.g T.d__law_alike.F.kp T.d__law_alike.b .nil pass0 (pa_cons (pe_lst (pa_cons (pv 5) (pa_cons (pe_call G_are_values (hr.mono (by omega)) rfl T.d_are_values.g T.d_are_values.F.kp T.d_are_values.b .nil pass0 (pa_cons (pv 1) (pa_cons (pe_callTy (r := rTupOf K) call_tupG (by rfl) T.b_tuple bt_tuple (pa_cons (pv 2) pa_nil)) pa_nil))) pa_nil))) (pa_cons (pe_lst (pa_cons (pe_tup (pa_cons pe_bl (pa_cons pe_bl (pa_cons pe_bl pa_nil)))) (pa_cons (pe_call G__law_is_term (hr.mono (by omega)) rfl T.d__law_is_term.g T.d__law_is_term.F.kp T.d__law_is_term.b .nil pass0 (pa_cons (pv 4) pa_nil)) pa_nil))) pa_nil)))))))))), ?_⟩
    refine ⟨.ref b, rfl, b, 3000, rfl, hB, by decide, by decide, fun n0 H1 hn0 hn1 d1 => Or.inl ⟨1, n0, rfl, rfl, ?_⟩⟩
    obtain ⟨n, hn⟩ : ∃ n : Nat, 1 + n0 = (n : Int) := ⟨(1 + n0).toNat, by omega⟩
    dsimp only [gName]
    rw [hn]
    have hB1 := d1.bag hB
    refine ⟨.int n, rfl, (n : Int), rfl, by omega, by omega, fun D nD => ?_⟩
    have hDb : D ≠ b := hB1.fneq nD
    refine lc_range (lo := 0) (n := ((n : Int)).toNat) (fun i H2 => ∃ ys, H2 D = some (.lst ys) ∧ IsAll K b H2 ys ((List.range i).map fTh) ∧ Mv [] H1 H2)
      ⟨[], upd_same, IsAll.nil, .new nD⟩ (fun i H2 hi h2 => ?_) (fun H2 h2 => ?_)
    · obtain ⟨ys, e2, i2, m2⟩ := h2
      refine ⟨rfl, _, rfl, (by decide : 2 ≤ sizeLine), fun p3 n3 => ?_⟩
      have e3 : (upd H2 p3 (.tup [.str "f", .int (0 + (i : Int))])) D = some (.lst ys) := mv_ne (.new n3) e2
      refine ⟨_, e3, ?_, ys ++ [.ref p3], upd_same, ?_, (m2.trans (.new n3)).wr nD⟩
      · rw [i2.length, List.length_map, List.length_range]
        exact line5lt (by omega)
      · rw [List.range_succ, List.map_append]
        refine IsAll.setL e3 ((i2.mv0 (.new n3)).append (IsAll.cons ?_ IsAll.nil))
        refine ⟨p3, _, rfl, .inl (.inl upd_same), IsAll.cons ⟨rfl, by decide⟩ (IsAll.cons ?_ IsAll.nil)⟩
        show V.int (0 + (i : Int)) = V.int i
        rw [Int.zero_add]
    · obtain ⟨ys, e2, i2, m2⟩ := h2
      rw [show ((n : Int)).toNat = n by omega] at i2
      generalize hus : (List.range n).map fTh = us at i2
      have hul : us.length = n := by rw [← hus]; simp
      have hua : us.all isTerm = true := by rw [← hus]; exact fTh_all n
      have huc : Th.cnts us ≤ n * 3 := by rw [← hus]; exact fTh_cnts n
      have hB2 := hB1.mv m2
      refine ⟨.ref b, rfl, .int n, rfl, b, n, rfl, hB2, by omega, by omega, fun j H3 hj0 hj1 d3 => ⟨.ref b, rfl, b, rfl, d3.bag hB2, fun v4 u4 H4 hi4 hd4 hc4 d4 => ⟨_, _, rfl, ?_⟩⟩⟩
      obtain ⟨jn, rfl⟩ := Int.eq_ofNat_of_zero_le hj0
      have d24 := d3.trans d4
      have e4 := d24.get hDb e2
      have i4 := i2.dr d24
      have hyl := i4.length
      -- whole
      have ew : (decide ((us.length : Int) = (n : Int)) && isTerms us) = true := by rw [isTerms_all, hua, hul]; simp
      have ew2 : (decide ((us.length : Int) = (n : Int) + 1) && isTerms us) = false := by rw [hul, decide_eq_false (by omega)]; rfl
      refine ⟨.int n, rfl, .ref D, rfl, ?_⟩
      walk_at "nn"
      refine rd_tupOf (.inl (.inl e4)) fun p5 H5 m5 e5 => ⟨n, .ref p5, .tup us, b, rfl, ⟨p5, ys, rfl, e5, i4.mv0 m5⟩, by simp only [Th.cnt]; omega, fun H6 m6 => ?_⟩
      dsimp only
      rw [ew]
      have m46 := m5.trans m6
      refine ⟨.int n, rfl, Or.inl ⟨n, 1, rfl, rfl, .ref D, rfl, ?_⟩⟩
      walk_at "nn"
      refine rd_tupOf (.inl (.inl (m46.same _ _ e4))) fun p7 H7 m7 e7 => ⟨(n : Int) + 1, .ref p7, .tup us, b, rfl, ⟨p7, ys, rfl, e7, i4.mv0 (m46.trans m7)⟩, by simp only [Th.cnt]; omega, fun H8 m8 => ?_⟩
      dsimp only
      rw [ew2]
      have m48 := (m46.trans m7).trans m8
      refine ⟨.int n, rfl, .ref D, rfl, n, .ref D, .lst, b, rfl, ⟨D, ys, rfl, hDb, m48.same _ _ e4⟩, by simp [Th.cnt], fun H9 m9 => ⟨(by decide : 3 ≤ sizeLine), fun p10 n10 => ?_⟩⟩
      dsimp only
      have m410 : Mv [] H4 (upd H9 p10 (.tup [.bl true, .bl false, .bl false])) := (m48.trans m9).trans (.new n10)
      have e10 : SqT K (upd H9 p10 (.tup [.bl true, .bl false, .bl false])) p10 [.bl true, .bl false, .bl false] := .inl (.inl upd_same)
      generalize upd H9 p10 (.tup [.bl true, .bl false, .bl false]) = H10 at m410 e10 ⊢
      have eD10 := m410.same _ _ e4
      refine ⟨v4, rfl, .ref D, rfl, .int jn, rfl, D, _, _, jn, rfl, rfl, eD10, Evl.ixN_nat (by omega), ?_⟩
      have i11 : IsAll K b (upd H10 D (.lst (ys.set jn v4))) (ys.set jn v4) (us.set jn u4) := IsAll.setL eD10 (IsAll.set jn (i4.mv0 m410) (hi4.mv0 m410))
      have h411 : Is K b (upd H10 D (.lst (ys.set jn v4))) v4 u4 := Is.setL eD10 (hi4.mv0 m410)
      have e11 : SqT K (upd H10 D (.lst (ys.set jn v4))) p10 [.bl true, .bl false, .bl false] := (Mv.set (S := [D]) eD10 (by simp)).sqT e10
      have eD11 : (upd H10 D (.lst (ys.set jn v4))) D = some (.lst (ys.set jn v4)) := upd_same
      generalize upd H10 D (.lst (ys.set jn v4)) = H11 at i11 h411 e11 eD11 ⊢
      have hsl : (us.set jn u4).length = n := by rw [List.length_set, hul]
      have hsc := cnts_set u4 us jn
      have ew3 : (decide (((us.set jn u4).length : Int) = (n : Int)) && isTerms (us.set jn u4)) = isTerm u4 := by
        rw [isTerms_all, set_all hua u4 jn (by omega), hsl]
        simp
      refine ⟨.ref p10, rfl, .int n, rfl, .ref D, rfl, ?_⟩
      walk_at "nn"
      refine rd_tupOf (.inl (.inl eD11)) fun p12 H12 m12 e12 => ⟨n, .ref p12, .tup (us.set jn u4), b, rfl, ⟨p12, _, rfl, e12, i11.mv0 m12⟩, by simp only [Th.cnt]; omega, fun H13 m13 => ?_⟩
      dsimp only
      rw [ew3]
      refine ⟨(by decide : 2 ≤ sizeLine), fun p14 n14 => ?_⟩
      have m14 : Mv [] H11 (upd H13 p14 (.lst [.ref p10, .bl (isTerm u4)])) := (m12.trans m13).trans (.new n14)
      have e14 : (upd H13 p14 (.lst [.ref p10, .bl (isTerm u4)])) p14 = some (.lst [.ref p10, .bl (isTerm u4)]) := upd_same
      generalize upd H13 p14 (.lst [.ref p10, .bl (isTerm u4)]) = H14 at m14 e14 ⊢
      refine ⟨(by decide : 3 ≤ sizeLine), fun p15 n15 => ?_⟩
      have m15 : Mv [] H14 (upd H14 p15 (.tup [.bl true, .bl false, .bl false])) := .new n15
      have e15 : SqT K (upd H14 p15 (.tup [.bl true, .bl false, .bl false])) p15 [.bl true, .bl false, .bl false] := .inl (.inl upd_same)
      generalize upd H14 p15 (.tup [.bl true, .bl false, .bl false]) = H15 at m15 e15 ⊢
      refine ⟨v4, rfl, v4, u4, b, rfl, h411.mv0 (m14.trans m15), by omega, fun H16 m16 => ⟨(by decide : 2 ≤ sizeLine), fun p17 n17 => ?_⟩⟩
      have m1117 : Mv [] H11 (upd H16 p17 (.lst [.ref p15, .bl (isTerm u4)])) := ((m14.trans m15).trans m16).trans (.new n17)
      have three : ∀ {H' : Hp} {p : Addr}, SqT K H' p [.bl true, .bl false, .bl false] → Dp K H' (.ref p) (.tuple [.bool true, .bool false, .bool false]) := fun h => .tup h (.cons (.bl _) (.cons (.bl _) (.cons (.bl _) .nil)))
      refine ⟨.ref p14, .ref p17, .list [.tuple [.bool true, .bool false, .bool false], .bool (isTerm u4)], rfl, ?_, ?_, ?_, q _⟩
      · exact .lst (.inl (.inl (((m15.trans m16).trans (.new n17)).same _ _ e14))) (.cons (three (m1117.sqT e11)) (.cons (.bl _) .nil))
      · exact .lst (.inl (.inl upd_same)) (.cons (three ((m16.trans (.new n17)).sqT e15)) (.cons (.bl _) .nil))
      · exact ⟨⟨⟨trivial, trivial, trivial, trivial⟩, trivial, trivial⟩, by simp [PyData.depth, PyData.depthAll], by simp [wl, wls]⟩
theorem rd_isTL {b : Addr} {H : Hp} {v : V} {t : Th} {tp : Addr} {Q : VK} (h : Is K b H v t) (htp : H tp = some (.tup [.ty "tuple", .ty "list"])) (q : Q (.bl (isTupT t || isLstT t)) H) : rIsiT K [v, .ref tp] H Q := by
  refine ⟨v, tp, _, _, [.type "tuple", .type "list"], _, rfl, htp, .cons (.ty "tuple") (.cons (.ty "list") .nil), tyx_is h, ?_, q⟩
  refine kitAny_cons (kit_ty (kit_tup t)) (fun e => ?_) (fun e => by rw [e]; rfl)
  rw [e, Bool.false_or]
  refine kitAny_cons (kit_ty (kit_lst t)) (fun e => ?_) (fun e => e)
  rw [e]
  rfl
theorem ite_both {c : Prop} [Decidable c] {X A B : Prop} (ha : X → A) (hb : X → B) (hx : X) : if c then A else B := by
  by_cases h : c
  · rw [if_pos h]
    exact ha hx
  · rw [if_neg h]
    exact hb hx
def isVals (t : Th) (n : Int) : Bool := match t with | .tup ts => decide ((ts.length : Int) = n) && isTerms ts | _ => false
def isSz (t : Th) (n : Int) : Bool := match t with | .tup ts => decide ((ts.length : Int) = n) | _ => false
theorem rd_size {b : Addr} {H : Hp} {σ : L2.St} {v : V} {t : Th} {n : Int} {Q : VK} (h4 : σ[4]? = some (some v)) (h5 : σ[5]? = some (some (.int n))) (h : Is K b H v t) (q : Q (.bl (isSz t n)) H) :
    tAndV (tCB (rIsi K) (tCons (tVar 4) (tCons (tC (V.ty "tuple")) tNil))) (tOp (rEqG K) (tCB (rLenG K) (tCons (tVar 4) tNil)) (tVar 5)) σ H Q := by
  refine ⟨v, h4, ?_⟩
  walk_at "nc"
  refine rd_isi h (kit_tup t) ⟨_, rfl, ?_⟩
  cases t with
  | tup ts =>
    obtain ⟨a, xs, rfl, hs, ha⟩ := h
    refine ⟨.ref a, h4, ?_⟩
    walk_at "nc"
    refine rd_len (.inr hs) ⟨.int n, h5, Or.inl ⟨rfl, ?_⟩⟩
    rw [vint_eq, ha.length]
    exact q
  | non => exact q
  | bl c => exact q
  | int c => exact q
  | str c => exact q
  | lst => exact q
  | dct => exact q
theorem rd_allT {X : Cx} {b : Addr} {H : Hp} {σ : L2.St} {v : V} {t : Th} {n : Int} {Q : VK} (hX : X.K = K) (hσ : σ.length = 10) (h4 : σ[4]? = some (some v)) (h7 : σ[7]? = some (some (.bl (isSz t n)))) (h : Is K b H v t) (hd : t.dep ≤ 30) (hc : t.cnt ≤ 5000)
    (q : ∀ H', Mv [] H H' → Q (.bl (isVals t n)) H') :
    tAndV (tVar 7) (tCB (rAll K) (tCons (tLc (iSeq X.K (tVar 4)) (gName 9) tYes (tCall (sp_isTermR K 31) [] E0 (tCons (tVar 9) tNil)) [9]) tNil)) σ H Q := by
  subst hX
  refine ⟨_, h7, _, rfl, ?_⟩
  cases t with
  | tup ts =>
    obtain ⟨a, xs, rfl, hs, ha⟩ := h
    have hl := ha.length
    have hq := fun H' m => q H' m
    dsimp only [isSz, isVals] at hq ⊢
    refine ite2 (fun e => ?_) (fun e => ?_)
    · refine ⟨.ref a, h4, a, rfl, ?_⟩
      simp only [Th.dep] at hd
      refine lc_seq (xs := xs) (.inr hs) (fun i D H5 => H5 D = some (.lst (((ts.take i).map isTerm).map V.bl)) ∧ Mv [] H H5)
        (fun D nD => ⟨upd_same, .new nD⟩) (fun i D H5 nD h5 => h5.2) (fun D nD i x H5 hx h5 => ?_) (fun D H5 nD h5 => ?_)
      · obtain ⟨e5, m5⟩ := h5
        obtain ⟨u, hu, hi⟩ := ha.get hx
        have hdu := Th.deps_mem (List.mem_of_getElem? hu)
        have h9 : (List.set (wipe σ [9]) 9 (some x))[9]? = some (some x) := by
          rw [List.getElem?_set_self (by simp [wipe, hσ])]
        refine ⟨?_, x, h9, x, u, b, rfl, hi.mv0 m5, by omega, fun H6 m6 => ?_⟩
        · simp [wipe]
        · refine ⟨_, m6.same _ _ e5, ?_, ?_, (m5.trans m6).wr nD⟩
          · rw [List.length_map, List.length_map, List.length_take]
            refine line5lt ?_
            have : ts.length ≤ 5000 := by
              have h1 : ∀ us : List Th, us.length ≤ Th.cnts us := fun us => by
                induction us with
                | nil => simp
                | cons u us ih =>
                  have : 1 ≤ u.cnt := by cases u <;> simp [Th.cnt]
                  simp only [Th.cnts, List.length_cons]
                  omega
              have := h1 ts
              simp only [Th.cnt] at hc
              omega
            omega
          · rw [upd_same, List.take_add_one, hu]
            simp
      · obtain ⟨e5, m5⟩ := h5
        rw [hl, List.take_length] at e5
        refine ⟨D, _, rfl, .inl (.inl e5), ?_⟩
        have := hq H5 m5
        rw [e, Bool.true_and, isTerms_all] at this
        rw [List.all_map]
        exact this
    · have := hq H .refl
      rw [show decide ((ts.length : Int) = n) = false by simpa using e] at this
      exact this
  | non => exact q H .refl
  | bl c => exact q H .refl
  | int c => exact q H .refl
  | str c => exact q H .refl
  | lst => exact q H .refl
  | dct => exact q H .refl
theorem mk_vals {b : Addr} {H : Hp} {v : V} {t : Th} {n : Int} {Q : VK} {E : XK} (h : Is K b H v t) (hc : t.cnt ≤ 90000) (q : ∀ H', Mv [] H H' → Q (.bl (isVals t n)) H') : sp_vals K [.int n, v] H Q E :=
  ⟨n, v, t, b, rfl, h, hc, fun H' m => by have := q H' m; cases t <;> exact this⟩
/-- five answers -/
def ans (t : Th) (n : Int) : List Bool := [isWhole t, isNamed t, isOutc t, isTerm t, isVals t n]
theorem dp_bools {H : Hp} : ∀ bs : List Bool, DpAll K H (bs.map V.bl) (bs.map PyData.bool)
  | [] => .nil
  | x :: o => .cons (.bl x) (dp_bools o)
theorem ok_law (T : TX K mg) : FnOkG P w K mg base CX0 40 T.d_law.f T.d_law.fd P_law (sp_law K) := by
  have G__law_bag : FnOk P w K mg base CX0 1 T.d__law_bag.f T.d__law_bag.fd P__law_bag (sp_bag K) := ok__law_bag T
  have G__law_names : FnOk P w K mg base CX0 2 T.d__law_names.f T.d__law_names.fd P__law_names sp_names := ok__law_names T
  have G__law_take : FnOk P w K mg base CX0 1 T.d__law_take.f T.d__law_take.fd P__law_take sp_take := ok__law_take T
  have G__law_thing : FnOk P w K mg base CX0 10 T.d__law_thing.f T.d__law_thing.fd P__law_thing (sp_thing K) := ok__law_thing T
  have G__law_deep : FnOk P w K mg base CX0 3 T.d__law_deep.f T.d__law_deep.fd P__law_deep (sp_thing K) := ok__law_deep T
  have G__law_is_whole : FnOk P w K mg base CX0 1 T.d__law_is_whole.f T.d__law_is_whole.fd P__law_is_whole (sp_kind K isWhole) := ok__law_is_whole T
  have G__law_is_named : FnOk P w K mg base CX0 1 T.d__law_is_named.f T.d__law_is_named.fd P__law_is_named (sp_kind K isNamed) := ok__law_is_named T
  have G__law_is_outcome : FnOk P w K mg base CX0 2 T.d__law_is_outcome.f T.d__law_is_outcome.fd P__law_is_outcome (sp_kind K isOutc) := ok__law_is_outcome T
  have G__law_is_term : FnOk P w K mg base CX0 32 T.d__law_is_term.f T.d__law_is_term.fd P__law_is_term (sp_isTermR K 31) := ok__law_is_term T 31
  have G_is_integer : FnOk P w K mg base CX0 1 T.d_is_integer.f T.d_is_integer.fd P_is_integer (sp_kind K isWhole) := ok_is_integer T
  have G_is_name : FnOk P w K mg base CX0 1 T.d_is_name.f T.d_is_name.fd P_is_name (sp_kind K isNamed) := ok_is_name T
  have G_is_outcome : FnOk P w K mg base CX0 2 T.d_is_outcome.f T.d_is_outcome.fd P_is_outcome (sp_kind K isOutc) := ok_is_outcome T
  have G_is_term : FnOk P w K mg base CX0 2 T.d_is_term.f T.d_is_term.fd P_is_term (sp_isTerm K) := ok_is_term T
  have G_are_values : FnOk P w K mg base CX0 3 T.d_are_values.f T.d_are_values.fd P_are_values (sp_vals K) := ok_are_values T
  have G__law_alike : FnOkG P w K mg base CX0 1 T.d__law_alike.f T.d__law_alike.fd P__law_alike (sp_alike K) := ok__law_alike T
  have G__law_many_right : FnOkG P w K mg base CX0 5 T.d__law_many_right.f T.d__law_many_right.fd P__law_many_right sp_many := ok__law_many_right T
  refine okG T.d_law.F sc_law (fun vs H Q E h => ?_) (fun cdv A outer s H vs Q E hgd hr h => ?_)
  · obtain ⟨_, _, rfl, _⟩ := h
    rfl
  · obtain ⟨a, sns, rfl, hS, hl63, q⟩ := h
    have hu64 := hr.units
    refine ⟨_, (pss_cons (ps_set (i := 1) sc_law.nd rfl (Or.inl rfl) (pe_call G__law_bag (hr.mono (by omega)) rfl T.d__law_bag.g T.d__law_bag.F.kp T.d__law_bag.b .nil pass0 (pa_cons (pv 0) pa_nil))) (pss_cons (ps_set (i := 2) sc_law.nd rfl (Or.inl rfl) (pe_call G__law_names (hr.mono (by omega)) rfl T.d__law_names.g T.d__law_names.F.kp T.d__law_names.b .nil pass0 (pa_cons (pv 1) (pa_cons pe_int pa_nil)))) (pss_cons (ps_for PassesOwn.never rfl (pi_range1 (by rfl) T.b_range (pa_cons pe_int pa_nil)) (pg_name (i := 3) sc_law.nd rfl (Or.inl rfl)) (pss_cons (ps_set (i := 4) sc_law.nd rfl (Or.inl rfl) (pe_ifExp (pt_cmpR op_gt (pv 3) pe_int (nomark _)) (pe_call G__law_thing (hr.mono (by omega)) rfl T.d__law_thing.g T.d__law_thing.F.kp T.d__law_thing.b .nil pass0 (pa_cons (pv 1) (pa_cons (pv 2) pa_nil))) (pe_call G__law_deep (hr.mono (by omega)) rfl T.d__law_deep.g T.d__law_deep.F.kp T.d__law_deep.b .nil pass0 (pa_cons (pv 1) (pa_cons (pv 2) pa_nil))))) (pss_cons (ps_set (i := 5) sc_law.nd rfl (Or.inl rfl) (pe_call G__law_take (hr.mono (by omega)) rfl T.d__law_take.g T.d__law_take.F.kp T.d__law_take.b .nil pass0 (pa_cons (pv 1) (pa_cons pe_int pa_nil)))) (Evl.pss_cut (ps_if (pt_val (pe_callB (r := rIsiT K) call_isiT (by rfl) T.b_isinstance bt_isinstance (pa_cons (pv 4) (pa_cons (pe_tup (pa_cons (pe_ty T.b_tuple bt_tuple) (pa_cons (pe_ty T.b_list bt_list) pa_nil))) pa_nil)))) (pss_one (ps_set (i := 5) sc_law.nd rfl (Or.inl rfl) (pe_op (r := rAddG K) op_addG (pe_callB (r := rLenG K) call_lenG (by rfl) T.b_len bt_len (pa_cons (pv 4) pa_nil)) (pe_callTy call_int1 (by rfl) T.b_int bt_int (pa_cons (pe_cmpR (r := rEqG K) (op_eqG hu64) (pv 5) pe_int (nomark _)) pa_nil))))) pss_nil) (pss_cons (ps_set (i := 6) sc_law.nd rfl (Or.inl rfl) (pe_lst (pa_cons (pe_call G__law_is_whole (hr.mono (by omega)) rfl T.d__law_is_whole.g T.d__law_is_whole.F.kp T.d__law_is_whole.b .nil pass0 (pa_cons (pv 4) pa_nil)) (pa_cons (pe_call G__law_is_named (hr.mono (by omega)) rfl T.d__law_is_named.g T.d__law_is_named.F.kp T.d__law_is_named.b .nil pass0 (pa_cons (pv 4) pa_nil)) (pa_cons (pe_call G__law_is_outcome (hr.mono (by omega)) rfl T.d__law_is_outcome.g T.d__law_is_outcome.F.kp T.d__law_is_outcome.b .nil pass0 (pa_cons (pv 4) pa_nil)) (pa_cons (pe_call G__law_is_term (hr.mono (by omega)) rfl T.d__law_is_term.g T.d__law_is_term.F.kp T.d__law_is_term.b .nil pass0 (pa_cons (pv 4) pa_nil)) pa_nil)))))) (pss_cons (ps_set (i := 7) sc_law.nd rfl (Or.inl rfl) (pe_and (pe_callB (r := rIsi K) call_isi (by rfl) T.b_isinstance bt_isinstance (pa_cons (pv 4) (pa_cons (pe_ty T.b_tuple bt_tuple) pa_nil))) (pe_one (pe_cmpR (r := rEqG K) (op_eqG hu64) (pe_callB (r := rLenG K) call_lenG (by rfl) T.b_len bt_len (pa_cons (pv 4) pa_nil)) (pv 5) (nomark _))))) (pss_cons (ps_expr (pe_bm PySem.F.plainAttrs_list PySem.F.slot_list_append PySem.F.type_list_append mt_append (pv 6) (pa_cons (pe_and (pv 7) (pe_one (pe_callB (r := rAll K) (cr_all rfl) (by rfl) T.b_all bt_all (pa_cons (pe_lc (own := [("_law_part", 9)]) (g := gName 9) (by rfl) sc_law.nd (pi_seq (pv 4)) (blkOk_by (own := [("_law_part", 9)]) (N := N_law) (sc := defScope s_law) (by decide +kernel)) (fun _ _ _ _ _ => pg_name (i := 9) sc_law.nd rfl (Or.inl rfl)) (fun _ _ _ _ _ => pts_nil) (fun _ _ _ _ _ => (pe_call G__law_is_term (hr.mono (by omega)) rfl T.d__law_is_term.g T.d__law_is_term.F.kp T.d__law_is_term.b .nil pass0 (pa_cons (pv 9) pa_nil)))) pa_nil)))) pa_nil))) (pss_cons (ps_set (i := 8) sc_law.nd rfl (Or.inl rfl) (pe_lst (pa_cons (pe_call G_is_integer (hr.mono (by omega)) rfl T.d_is_integer.g T.d_is_integer.F.kp T.d_is_integer.b .nil pass0 (pa_cons (pv 4) pa_nil)) (pa_cons (pe_call G_is_name (hr.mono (by omega)) rfl T.d_is_name.g T.d_is_name.F.kp T.d_is_name.b .nil pass0 (pa_cons (pv 4) pa_nil)) (pa_cons (pe_call G_is_outcome (hr.mono (by omega)) rfl T.d_is_outcome.g T.d_is_outcome.F.kp T.d_is_outcome.b .nil pass0 (pa_cons (pv 4) pa_nil)) (pa_cons (pe_call G_is_term (hr.mono (by omega)) rfl T.d_is_term.g T.d_is_term.F.kp T.d_is_term.b .nil pass0 (pa_cons (pv 4) pa_nil)) (pa_cons (pe_call G_are_values (hr.mono (by omega)) rfl T.d_are_values.g T.d_are_values.F.kp T.d_are_values.b .nil pass0 (pa_cons (pv 5) (pa_cons (pv 4) pa_nil))) pa_nil))))))) (pss_one (ps_if (pt_not (pt_val (pe_callG G__law_alike hgd (hr.mono (by omega)) rfl T.d__law_alike.g T.d__law_alike.F.kp T.d__law_alike.b .nil pass0 (pa_cons (pv 8) (pa_cons (pv 6) pa_nil))))) (pss_one (ps_ret pe_bl)) pss_nil)))))))))) (pss_one (ps_ret (pe_callG G__law_many_right hgd (hr.mono (by omega)) rfl T.d__law_many_right.g T.d__law_many_right.F.kp T.d__law_many_right.b .nil pass0 (pa_cons (pv 1) pa_nil))))))), ?_⟩
    refine ⟨.ref a, rfl, a, sns, rfl, hS, hl63, fun H1 b m1 nb hB1 => ?_⟩
    refine ⟨.ref b, rfl, b, 4, rfl, hB1, by decide, by decide, fun nm xs H2 hxl hxN nn en d2 => ?_⟩
    have hN2 : Nms H2 b nm xs := ⟨en, hB1.fneq nn, by rintro rfl; simp at hxl, by omega, hxN⟩
    have hB2 := d2.bag hB1
    refine ⟨24, rfl, by decide, by decide, ?_⟩
    refine for_range (lo := 0) (n := (24 : Int).toNat) (fun i σ H3 => ∃ (y3 y4 y5 y6 y7 y8 : Option V), σ = [some (.ref a), some (.ref b), some (.ref nm), y3, y4, y5, y6, y7, y8, none] ∧ Bag H3 b ∧ Nms H3 b nm xs)
      ⟨_, _, _, _, _, _, rfl, hB2, hN2⟩ (fun i σ H3 hi h3 => ?_) (fun σ H3 h3 => ?_)
    · obtain ⟨y3, y4, y5, y6, y7, y8, rfl, hB3, hN3⟩ := h3
      refine ⟨_, rfl, _, _, rfl, rfl, _, rfl, ?_⟩
      refine ite_both (fun r => ⟨.ref b, rfl, .ref nm, rfl, b, nm, xs, rfl, hB3, hN3, r⟩) (fun r => ⟨.ref b, rfl, .ref nm, rfl, b, nm, xs, rfl, hB3, hN3, r⟩) fun v t H4 hi4 hd4 hc4 d4 => ?_
      have hB4 := d4.bag hB3
      refine ⟨.ref b, rfl, b, 3, rfl, hB4, by decide, by decide, fun n5 H5 hn0 hn1 d5 => ?_⟩
      have d35 := d4.trans d5
      have hi5 := hi4.dr d5
      refine ⟨fun σ H6 => ∃ n : Int, σ = [some (.ref a), some (.ref b), some (.ref nm), some (.int (0 + (i : Int))), some v, some (.int n), y6, y7, y8, none] ∧ Dr b H3 H6 ∧ Is K b H6 v t, ?_, ?_⟩
      · refine ⟨v, rfl, (by decide : 2 ≤ sizeLine), fun p6 n6 => ?_⟩
        have hi6 := hi5.mv0 (Mv.new (o := .tup [.ty "tuple", .ty "list"]) n6)
        have d6 : Dr b H3 (upd H5 p6 (.tup [.ty "tuple", .ty "list"])) := d35.trans (Dr.new n6)
        walk_at "nn"
        refine rd_isTL hi6 upd_same ?_
        refine ⟨_, rfl, ?_⟩
        generalize upd H5 p6 (.tup [.ty "tuple", .ty "list"]) = H6 at d6 hi6 ⊢
        refine ite2 (fun e => ?_) (fun e => ⟨n5, rfl, d6, hi6⟩)
        have hlen : ∃ p ys, v = .ref p ∧ (SqL K H6 p ys ∨ SqT K H6 p ys) := by
          cases t with
          | tup ts =>
            obtain ⟨p, ys, rfl, h1, _⟩ := hi6
            exact ⟨p, ys, rfl, .inr h1⟩
          | lst =>
            obtain ⟨p, ys, rfl, _, h1⟩ := hi6
            exact ⟨p, ys, rfl, .inl (.inl (.inl h1))⟩
          | non => simp [isTupT, isLstT] at e
          | bl c => simp [isTupT, isLstT] at e
          | int c => simp [isTupT, isLstT] at e
          | str c => simp [isTupT, isLstT] at e
          | dct => simp [isTupT, isLstT] at e
        obtain ⟨p, ys, rfl, hp⟩ := hlen
        refine ⟨.ref p, rfl, ?_⟩
        walk_at "nn"
        refine rd_len hp ?_
        refine ⟨.int n5, rfl, Or.inl ⟨rfl, ?_⟩⟩
        refine Or.inr ⟨_, rfl, Or.inl ⟨_, _, rfl, rfl, ?_⟩⟩
        exact ⟨_, rfl, d6, hi6⟩
      · rintro σ H6 ⟨n, rfl, d6, hi6⟩
        refine ⟨v, rfl, v, t, b, rfl, hi6, fun H7 m7 => ⟨v, rfl, v, t, b, rfl, hi6.mv0 m7, fun H8 m8 => ⟨v, rfl, v, t, b, rfl, hi6.mv0 (m7.trans m8), fun H9 m9 => ⟨v, rfl, v, t, b, rfl, hi6.mv0 ((m7.trans m8).trans m9), by omega, fun H10 m10 => ⟨(by decide : 4 ≤ sizeLine), fun p11 n11 => ?_⟩⟩⟩⟩⟩
        have m610 := ((m7.trans m8).trans m9).trans m10
        have hi10 := hi6.mv0 m610
        have hi11 := hi10.mv0 (Mv.new (o := .lst [.bl (isWhole t), .bl (isNamed t), .bl (isOutc t), .bl (isTerm t)]) n11)
        have d11 : Dr b H3 (upd H10 p11 (.lst [.bl (isWhole t), .bl (isNamed t), .bl (isOutc t), .bl (isTerm t)])) := d6.trans (Dr.of (m610.trans (.new n11)))
        have e11 : (upd H10 p11 (.lst [.bl (isWhole t), .bl (isNamed t), .bl (isOutc t), .bl (isTerm t)])) p11 = some (.lst [.bl (isWhole t), .bl (isNamed t), .bl (isOutc t), .bl (isTerm t)]) := upd_same
        generalize upd H10 p11 (.lst [.bl (isWhole t), .bl (isNamed t), .bl (isOutc t), .bl (isTerm t)]) = H11 at hi11 d11 e11 ⊢
        have hp3 : H3 p11 = none := (d6.trans (Dr.of m610)).free hB3 n11
        refine rd_size (n := n) (t := t) rfl rfl hi11 ?_
        refine ⟨.ref p11, rfl, .inl ⟨rfl, _, .inl (.inl e11)⟩, ?_⟩
        refine rd_allT (n := n) (t := t) rfl rfl rfl rfl hi11 hd4 hc4 fun H12 m12 => ?_
        have e12 := m12.same _ _ e11
        refine ⟨p11, _, _, rfl, rfl, e12, by show 4 < sizeLine; decide, ?_⟩
        have hi13 : Is K b (upd H12 p11 (.lst ((ans t n).map V.bl))) v t := Is.setL e12 (hi11.mv0 m12)
        have e13 : (upd H12 p11 (.lst ((ans t n).map V.bl))) p11 = some (.lst ((ans t n).map V.bl)) := upd_same
        have d13 : Dr b H3 (upd H12 p11 (.lst ((ans t n).map V.bl))) := (d11.trans (Dr.of m12)).wr hp3
        change tSeq _ _ _ _ (upd H12 p11 (.lst ((ans t n).map V.bl)))
        generalize upd H12 p11 (.lst ((ans t n).map V.bl)) = H13 at hi13 e13 d13 ⊢
        refine ⟨v, rfl, v, t, b, rfl, hi13, fun H14 m14 => ⟨v, rfl, v, t, b, rfl, hi13.mv0 m14, fun H15 m15 => ⟨v, rfl, v, t, b, rfl, hi13.mv0 (m14.trans m15), fun H16 m16 => ⟨v, rfl, v, t, b, rfl, hi13.mv0 ((m14.trans m15).trans m16), by omega, fun H17 m17 => ⟨.int n, rfl, v, rfl, ?_⟩⟩⟩⟩⟩
        walk_at "nn"
        refine mk_vals (t := t) (hi13.mv0 (((m14.trans m15).trans m16).trans m17)) (by omega) fun H18 m18 => ⟨(by decide : 5 ≤ sizeLine), fun p19 n19 => ?_⟩
        have m1318 := (((m14.trans m15).trans m16).trans m17).trans m18
        have m19 : Mv [] H13 (upd H18 p19 (.lst ((ans t n).map V.bl))) := m1318.trans (.new n19)
        have e19 : (upd H18 p19 (.lst ((ans t n).map V.bl))) p19 = some (.lst ((ans t n).map V.bl)) := upd_same
        change tIfS _ _ _ _ _ (upd H18 p19 (.lst ((ans t n).map V.bl)))
        generalize upd H18 p19 (.lst ((ans t n).map V.bl)) = H19 at m19 e19 ⊢
        refine ⟨.ref p19, rfl, .ref p11, rfl, .ref p19, .ref p11, .list ((ans t n).map .bool), rfl, .lst (.inl (.inl e19)) (dp_bools _), .lst (.inl (.inl (m19.same _ _ e13))) (dp_bools _), ?_, ?_⟩
        · exact ⟨⟨trivial, trivial, trivial, trivial, trivial, trivial⟩, by simp [ans, PyData.depth, PyData.depthAll], by simp [ans, wl, wls]⟩
        · have d19 := d13.trans (Dr.of m19)
          exact ⟨_, rfl, _, _, _, _, _, _, rfl, d19.bag hB3, hN3.dr d19⟩
    · obtain ⟨y3, y4, y5, y6, y7, y8, rfl, hB3, hN3⟩ := h3
      exact ⟨.ref b, rfl, b, rfl, hB3, q⟩
end
end Fm
namespace Fm
open PySem PySem.Spec PyProof.Rows L2
section
variable {l : PySem.W.OpenLaw} {w : World} {K : PySem.W.Frag} {mg : Str → Option Value} {fa : Addr}
theorem all_mk {h : Heap} (X : K.In h) (G : h.Ns mainGlobals mg) (hfa : mg "law" = some (.ref fa))
    {f0 : Addr} {od0 an0 : Option Addr} {sl0 : Array (Option Value)} {oc0 kV0 dc0 pm0 cd0 ct0 : Value}
    (a0 : PySem.W.nsIn K mainGlobals "is_integer" = some (some (.ref f0))) (l0 : K.lookup f0 = some ⟨oc0, od0, .func (PySem.W.fnOf "is_integer" "is_integer" (defArgs s_is_integer) (defBody s_is_integer) (defScope s_is_integer) .none kV0 dc0 pm0 an0 cd0 ct0), sl0⟩) (c0 : PySem.W.codeIn K cd0 "is_integer" = true) (k0 : PySem.W.keepIn K (.ref f0) = true)
    {f1 : Addr} {od1 an1 : Option Addr} {sl1 : Array (Option Value)} {oc1 kV1 dc1 pm1 cd1 ct1 : Value}
    (a1 : PySem.W.nsIn K mainGlobals "is_name" = some (some (.ref f1))) (l1 : K.lookup f1 = some ⟨oc1, od1, .func (PySem.W.fnOf "is_name" "is_name" (defArgs s_is_name) (defBody s_is_name) (defScope s_is_name) .none kV1 dc1 pm1 an1 cd1 ct1), sl1⟩) (c1 : PySem.W.codeIn K cd1 "is_name" = true) (k1 : PySem.W.keepIn K (.ref f1) = true)
    {f2 : Addr} {od2 an2 : Option Addr} {sl2 : Array (Option Value)} {oc2 kV2 dc2 pm2 cd2 ct2 : Value}
    (a2 : PySem.W.nsIn K mainGlobals "is_outcome" = some (some (.ref f2))) (l2 : K.lookup f2 = some ⟨oc2, od2, .func (PySem.W.fnOf "is_outcome" "is_outcome" (defArgs s_is_outcome) (defBody s_is_outcome) (defScope s_is_outcome) .none kV2 dc2 pm2 an2 cd2 ct2), sl2⟩) (c2 : PySem.W.codeIn K cd2 "is_outcome" = true) (k2 : PySem.W.keepIn K (.ref f2) = true)
    {f3 : Addr} {od3 an3 : Option Addr} {sl3 : Array (Option Value)} {oc3 kV3 dc3 pm3 cd3 ct3 : Value}
    (a3 : PySem.W.nsIn K mainGlobals "is_term" = some (some (.ref f3))) (l3 : K.lookup f3 = some ⟨oc3, od3, .func (PySem.W.fnOf "is_term" "is_term" (defArgs s_is_term) (defBody s_is_term) (defScope s_is_term) .none kV3 dc3 pm3 an3 cd3 ct3), sl3⟩) (c3 : PySem.W.codeIn K cd3 "is_term" = true) (k3 : PySem.W.keepIn K (.ref f3) = true)
    {f4 : Addr} {od4 an4 : Option Addr} {sl4 : Array (Option Value)} {oc4 kV4 dc4 pm4 cd4 ct4 : Value}
    (a4 : PySem.W.nsIn K mainGlobals "are_values" = some (some (.ref f4))) (l4 : K.lookup f4 = some ⟨oc4, od4, .func (PySem.W.fnOf "are_values" "are_values" (defArgs s_are_values) (defBody s_are_values) (defScope s_are_values) .none kV4 dc4 pm4 an4 cd4 ct4), sl4⟩) (c4 : PySem.W.codeIn K cd4 "are_values" = true) (k4 : PySem.W.keepIn K (.ref f4) = true)
    {f5 : Addr} {od5 an5 : Option Addr} {sl5 : Array (Option Value)} {oc5 kV5 dc5 pm5 cd5 ct5 : Value}
    (a5 : PySem.W.nsIn K mainGlobals "_law_bag" = some (some (.ref f5))) (l5 : K.lookup f5 = some ⟨oc5, od5, .func (PySem.W.fnOf "_law_bag" "_law_bag" (defArgs s__law_bag) (defBody s__law_bag) (defScope s__law_bag) .none kV5 dc5 pm5 an5 cd5 ct5), sl5⟩) (c5 : PySem.W.codeIn K cd5 "_law_bag" = true) (k5 : PySem.W.keepIn K (.ref f5) = true)
    {f6 : Addr} {od6 an6 : Option Addr} {sl6 : Array (Option Value)} {oc6 kV6 dc6 pm6 cd6 ct6 : Value}
    (a6 : PySem.W.nsIn K mainGlobals "_law_take" = some (some (.ref f6))) (l6 : K.lookup f6 = some ⟨oc6, od6, .func (PySem.W.fnOf "_law_take" "_law_take" (defArgs s__law_take) (defBody s__law_take) (defScope s__law_take) .none kV6 dc6 pm6 an6 cd6 ct6), sl6⟩) (c6 : PySem.W.codeIn K cd6 "_law_take" = true) (k6 : PySem.W.keepIn K (.ref f6) = true)
    {f7 : Addr} {od7 an7 : Option Addr} {sl7 : Array (Option Value)} {oc7 kV7 dc7 pm7 cd7 ct7 : Value}
    (a7 : PySem.W.nsIn K mainGlobals "_law_alike" = some (some (.ref f7))) (l7 : K.lookup f7 = some ⟨oc7, od7, .func (PySem.W.fnOf "_law_alike" "_law_alike" (defArgs s__law_alike) (defBody s__law_alike) (defScope s__law_alike) .none kV7 dc7 pm7 an7 cd7 ct7), sl7⟩) (c7 : PySem.W.codeIn K cd7 "_law_alike" = true) (k7 : PySem.W.keepIn K (.ref f7) = true)
    {f8 : Addr} {od8 an8 : Option Addr} {sl8 : Array (Option Value)} {oc8 kV8 dc8 pm8 cd8 ct8 : Value}
    (a8 : PySem.W.nsIn K mainGlobals "_law_names" = some (some (.ref f8))) (l8 : K.lookup f8 = some ⟨oc8, od8, .func (PySem.W.fnOf "_law_names" "_law_names" (defArgs s__law_names) (defBody s__law_names) (defScope s__law_names) .none kV8 dc8 pm8 an8 cd8 ct8), sl8⟩) (c8 : PySem.W.codeIn K cd8 "_law_names" = true) (k8 : PySem.W.keepIn K (.ref f8) = true)
    {f9 : Addr} {od9 an9 : Option Addr} {sl9 : Array (Option Value)} {oc9 kV9 dc9 pm9 cd9 ct9 : Value}
    (a9 : PySem.W.nsIn K mainGlobals "_law_term" = some (some (.ref f9))) (l9 : K.lookup f9 = some ⟨oc9, od9, .func (PySem.W.fnOf "_law_term" "_law_term" (defArgs s__law_term) (defBody s__law_term) (defScope s__law_term) .none kV9 dc9 pm9 an9 cd9 ct9), sl9⟩) (c9 : PySem.W.codeIn K cd9 "_law_term" = true) (k9 : PySem.W.keepIn K (.ref f9) = true)
    {f10 : Addr} {od10 an10 : Option Addr} {sl10 : Array (Option Value)} {oc10 kV10 dc10 pm10 cd10 ct10 : Value}
    (a10 : PySem.W.nsIn K mainGlobals "_law_is_named" = some (some (.ref f10))) (l10 : K.lookup f10 = some ⟨oc10, od10, .func (PySem.W.fnOf "_law_is_named" "_law_is_named" (defArgs s__law_is_named) (defBody s__law_is_named) (defScope s__law_is_named) .none kV10 dc10 pm10 an10 cd10 ct10), sl10⟩) (c10 : PySem.W.codeIn K cd10 "_law_is_named" = true) (k10 : PySem.W.keepIn K (.ref f10) = true)
    {f11 : Addr} {od11 an11 : Option Addr} {sl11 : Array (Option Value)} {oc11 kV11 dc11 pm11 cd11 ct11 : Value}
    (a11 : PySem.W.nsIn K mainGlobals "_law_is_outcome" = some (some (.ref f11))) (l11 : K.lookup f11 = some ⟨oc11, od11, .func (PySem.W.fnOf "_law_is_outcome" "_law_is_outcome" (defArgs s__law_is_outcome) (defBody s__law_is_outcome) (defScope s__law_is_outcome) .none kV11 dc11 pm11 an11 cd11 ct11), sl11⟩) (c11 : PySem.W.codeIn K cd11 "_law_is_outcome" = true) (k11 : PySem.W.keepIn K (.ref f11) = true)
    {f12 : Addr} {od12 an12 : Option Addr} {sl12 : Array (Option Value)} {oc12 kV12 dc12 pm12 cd12 ct12 : Value}
    (a12 : PySem.W.nsIn K mainGlobals "_law_is_whole" = some (some (.ref f12))) (l12 : K.lookup f12 = some ⟨oc12, od12, .func (PySem.W.fnOf "_law_is_whole" "_law_is_whole" (defArgs s__law_is_whole) (defBody s__law_is_whole) (defScope s__law_is_whole) .none kV12 dc12 pm12 an12 cd12 ct12), sl12⟩) (c12 : PySem.W.codeIn K cd12 "_law_is_whole" = true) (k12 : PySem.W.keepIn K (.ref f12) = true)
    {f13 : Addr} {od13 an13 : Option Addr} {sl13 : Array (Option Value)} {oc13 kV13 dc13 pm13 cd13 ct13 : Value}
    (a13 : PySem.W.nsIn K mainGlobals "_law_is_term" = some (some (.ref f13))) (l13 : K.lookup f13 = some ⟨oc13, od13, .func (PySem.W.fnOf "_law_is_term" "_law_is_term" (defArgs s__law_is_term) (defBody s__law_is_term) (defScope s__law_is_term) .none kV13 dc13 pm13 an13 cd13 ct13), sl13⟩) (c13 : PySem.W.codeIn K cd13 "_law_is_term" = true) (k13 : PySem.W.keepIn K (.ref f13) = true)
    {f14 : Addr} {od14 an14 : Option Addr} {sl14 : Array (Option Value)} {oc14 kV14 dc14 pm14 cd14 ct14 : Value}
    (a14 : PySem.W.nsIn K mainGlobals "_law_odd" = some (some (.ref f14))) (l14 : K.lookup f14 = some ⟨oc14, od14, .func (PySem.W.fnOf "_law_odd" "_law_odd" (defArgs s__law_odd) (defBody s__law_odd) (defScope s__law_odd) .none kV14 dc14 pm14 an14 cd14 ct14), sl14⟩) (c14 : PySem.W.codeIn K cd14 "_law_odd" = true) (k14 : PySem.W.keepIn K (.ref f14) = true)
    {f15 : Addr} {od15 an15 : Option Addr} {sl15 : Array (Option Value)} {oc15 kV15 dc15 pm15 cd15 ct15 : Value}
    (a15 : PySem.W.nsIn K mainGlobals "_law_spoilt" = some (some (.ref f15))) (l15 : K.lookup f15 = some ⟨oc15, od15, .func (PySem.W.fnOf "_law_spoilt" "_law_spoilt" (defArgs s__law_spoilt) (defBody s__law_spoilt) (defScope s__law_spoilt) .none kV15 dc15 pm15 an15 cd15 ct15), sl15⟩) (c15 : PySem.W.codeIn K cd15 "_law_spoilt" = true) (k15 : PySem.W.keepIn K (.ref f15) = true)
    {f16 : Addr} {od16 an16 : Option Addr} {sl16 : Array (Option Value)} {oc16 kV16 dc16 pm16 cd16 ct16 : Value}
    (a16 : PySem.W.nsIn K mainGlobals "_law_text" = some (some (.ref f16))) (l16 : K.lookup f16 = some ⟨oc16, od16, .func (PySem.W.fnOf "_law_text" "_law_text" (defArgs s__law_text) (defBody s__law_text) (defScope s__law_text) .none kV16 dc16 pm16 an16 cd16 ct16), sl16⟩) (c16 : PySem.W.codeIn K cd16 "_law_text" = true) (k16 : PySem.W.keepIn K (.ref f16) = true)
    {f17 : Addr} {od17 an17 : Option Addr} {sl17 : Array (Option Value)} {oc17 kV17 dc17 pm17 cd17 ct17 : Value}
    (a17 : PySem.W.nsIn K mainGlobals "_law_thing" = some (some (.ref f17))) (l17 : K.lookup f17 = some ⟨oc17, od17, .func (PySem.W.fnOf "_law_thing" "_law_thing" (defArgs s__law_thing) (defBody s__law_thing) (defScope s__law_thing) .none kV17 dc17 pm17 an17 cd17 ct17), sl17⟩) (c17 : PySem.W.codeIn K cd17 "_law_thing" = true) (k17 : PySem.W.keepIn K (.ref f17) = true)
    {f18 : Addr} {od18 an18 : Option Addr} {sl18 : Array (Option Value)} {oc18 kV18 dc18 pm18 cd18 ct18 : Value}
    (a18 : PySem.W.nsIn K mainGlobals "_law_deep" = some (some (.ref f18))) (l18 : K.lookup f18 = some ⟨oc18, od18, .func (PySem.W.fnOf "_law_deep" "_law_deep" (defArgs s__law_deep) (defBody s__law_deep) (defScope s__law_deep) .none kV18 dc18 pm18 an18 cd18 ct18), sl18⟩) (c18 : PySem.W.codeIn K cd18 "_law_deep" = true) (k18 : PySem.W.keepIn K (.ref f18) = true)
    {f19 : Addr} {od19 an19 : Option Addr} {sl19 : Array (Option Value)} {oc19 kV19 dc19 pm19 cd19 ct19 : Value}
    (a19 : PySem.W.nsIn K mainGlobals "_law_many_right" = some (some (.ref f19))) (l19 : K.lookup f19 = some ⟨oc19, od19, .func (PySem.W.fnOf "_law_many_right" "_law_many_right" (defArgs s__law_many_right) (defBody s__law_many_right) (defScope s__law_many_right) .none kV19 dc19 pm19 an19 cd19 ct19), sl19⟩) (c19 : PySem.W.codeIn K cd19 "_law_many_right" = true) (k19 : PySem.W.keepIn K (.ref f19) = true)
    {f20 : Addr} {od20 an20 : Option Addr} {sl20 : Array (Option Value)} {oc20 kV20 dc20 pm20 cd20 ct20 : Value}
    (a20 : PySem.W.nsIn K mainGlobals "law" = some (some (.ref f20))) (l20 : K.lookup f20 = some ⟨oc20, od20, .func (PySem.W.fnOf "law" "law" (defArgs s_law) (defBody s_law) (defScope s_law) .none kV20 dc20 pm20 an20 cd20 ct20), sl20⟩) (c20 : PySem.W.codeIn K cd20 "law" = true) (k20 : PySem.W.keepIn K (.ref f20) = true)
    (z0 : PySem.W.nsIn K mainGlobals "abs" = some none)
    (z1 : PySem.W.nsIn K mainGlobals "all" = some none)
    (z2 : PySem.W.nsIn K mainGlobals "bool" = some none)
    (z3 : PySem.W.nsIn K mainGlobals "int" = some none)
    (z4 : PySem.W.nsIn K mainGlobals "isinstance" = some none)
    (z5 : PySem.W.nsIn K mainGlobals "len" = some none)
    (z6 : PySem.W.nsIn K mainGlobals "list" = some none)
    (z7 : PySem.W.nsIn K mainGlobals "range" = some none)
    (z8 : PySem.W.nsIn K mainGlobals "repr" = some none)
    (z9 : PySem.W.nsIn K mainGlobals "str" = some none)
    (z10 : PySem.W.nsIn K mainGlobals "tuple" = some none)
    {tk0 : Tok} (y0 : PySem.W.nsIn K mainGlobals "LETTERS" = some (some (.str "abcdefghijklmnopqrstuvwxyz" tk0)))
    {tk1 : Tok} (y1 : PySem.W.nsIn K mainGlobals "MOST_LETTERS" = some (some (.int 8 tk1)))
    {tk2 : Tok} (y2 : PySem.W.nsIn K mainGlobals "MOST_PARTS" = some (some (.int 3 tk2)))
    : ∃ fd : FuncData, (∀ (t : Shared) (u : Value), BindsTo t fd ⟨[u], []⟩ [("_law_script", u)]) ∧ ∀ base : Heap, K.In base → base.Ns mainGlobals mg → FnOkG l.prog w K mg base CX0 40 fa fd P_law (sp_law K) := by
  have e := hfa.symm.trans (PySem.W.mg_of X G a20)
  cases e
  exact ⟨_, fun s v => .of_eq rfl, fun base _ _ => ok_law (T := {
    d_is_integer := ⟨_, _, fun_mk l0 c0 k0, PySem.W.mg_of X G a0, (fun_mk l0 c0 k0).binds fun _ _ _ _ _ _ us hl => match us, hl with | [_], _ => rfl⟩
    d_is_name := ⟨_, _, fun_mk l1 c1 k1, PySem.W.mg_of X G a1, (fun_mk l1 c1 k1).binds fun _ _ _ _ _ _ us hl => match us, hl with | [_], _ => rfl⟩
    d_is_outcome := ⟨_, _, fun_mk l2 c2 k2, PySem.W.mg_of X G a2, (fun_mk l2 c2 k2).binds fun _ _ _ _ _ _ us hl => match us, hl with | [_], _ => rfl⟩
    d_is_term := ⟨_, _, fun_mk l3 c3 k3, PySem.W.mg_of X G a3, (fun_mk l3 c3 k3).binds fun _ _ _ _ _ _ us hl => match us, hl with | [_], _ => rfl⟩
    d_are_values := ⟨_, _, fun_mk l4 c4 k4, PySem.W.mg_of X G a4, (fun_mk l4 c4 k4).binds fun _ _ _ _ _ _ us hl => match us, hl with | [_, _], _ => rfl⟩
    d__law_bag := ⟨_, _, fun_mk l5 c5 k5, PySem.W.mg_of X G a5, (fun_mk l5 c5 k5).binds fun _ _ _ _ _ _ us hl => match us, hl with | [_], _ => rfl⟩
    d__law_take := ⟨_, _, fun_mk l6 c6 k6, PySem.W.mg_of X G a6, (fun_mk l6 c6 k6).binds fun _ _ _ _ _ _ us hl => match us, hl with | [_, _], _ => rfl⟩
    d__law_alike := ⟨_, _, fun_mk l7 c7 k7, PySem.W.mg_of X G a7, (fun_mk l7 c7 k7).binds fun _ _ _ _ _ _ us hl => match us, hl with | [_, _], _ => rfl⟩
    d__law_names := ⟨_, _, fun_mk l8 c8 k8, PySem.W.mg_of X G a8, (fun_mk l8 c8 k8).binds fun _ _ _ _ _ _ us hl => match us, hl with | [_, _], _ => rfl⟩
    d__law_term := ⟨_, _, fun_mk l9 c9 k9, PySem.W.mg_of X G a9, (fun_mk l9 c9 k9).binds fun _ _ _ _ _ _ us hl => match us, hl with | [_, _, _, _], _ => rfl⟩
    d__law_is_named := ⟨_, _, fun_mk l10 c10 k10, PySem.W.mg_of X G a10, (fun_mk l10 c10 k10).binds fun _ _ _ _ _ _ us hl => match us, hl with | [_], _ => rfl⟩
    d__law_is_outcome := ⟨_, _, fun_mk l11 c11 k11, PySem.W.mg_of X G a11, (fun_mk l11 c11 k11).binds fun _ _ _ _ _ _ us hl => match us, hl with | [_], _ => rfl⟩
    d__law_is_whole := ⟨_, _, fun_mk l12 c12 k12, PySem.W.mg_of X G a12, (fun_mk l12 c12 k12).binds fun _ _ _ _ _ _ us hl => match us, hl with | [_], _ => rfl⟩
    d__law_is_term := ⟨_, _, fun_mk l13 c13 k13, PySem.W.mg_of X G a13, (fun_mk l13 c13 k13).binds fun _ _ _ _ _ _ us hl => match us, hl with | [_], _ => rfl⟩
    d__law_odd := ⟨_, _, fun_mk l14 c14 k14, PySem.W.mg_of X G a14, (fun_mk l14 c14 k14).binds fun _ _ _ _ _ _ us hl => match us, hl with | [_], _ => rfl⟩
    d__law_spoilt := ⟨_, _, fun_mk l15 c15 k15, PySem.W.mg_of X G a15, (fun_mk l15 c15 k15).binds fun _ _ _ _ _ _ us hl => match us, hl with | [_, _], _ => rfl⟩
    d__law_text := ⟨_, _, fun_mk l16 c16 k16, PySem.W.mg_of X G a16, (fun_mk l16 c16 k16).binds fun _ _ _ _ _ _ us hl => match us, hl with | [_], _ => rfl⟩
    d__law_thing := ⟨_, _, fun_mk l17 c17 k17, PySem.W.mg_of X G a17, (fun_mk l17 c17 k17).binds fun _ _ _ _ _ _ us hl => match us, hl with | [_, _], _ => rfl⟩
    d__law_deep := ⟨_, _, fun_mk l18 c18 k18, PySem.W.mg_of X G a18, (fun_mk l18 c18 k18).binds fun _ _ _ _ _ _ us hl => match us, hl with | [_, _], _ => rfl⟩
    d__law_many_right := ⟨_, _, fun_mk l19 c19 k19, PySem.W.mg_of X G a19, (fun_mk l19 c19 k19).binds fun _ _ _ _ _ _ us hl => match us, hl with | [_], _ => rfl⟩
    d_law := ⟨_, _, fun_mk l20 c20 k20, PySem.W.mg_of X G a20, (fun_mk l20 c20 k20).binds fun _ _ _ _ _ _ us hl => match us, hl with | [_], _ => rfl⟩
    b_abs := PySem.W.mg_none_of X G z0
    b_all := PySem.W.mg_none_of X G z1
    b_bool := PySem.W.mg_none_of X G z2
    b_int := PySem.W.mg_none_of X G z3
    b_isinstance := PySem.W.mg_none_of X G z4
    b_len := PySem.W.mg_none_of X G z5
    b_list := PySem.W.mg_none_of X G z6
    b_range := PySem.W.mg_none_of X G z7
    b_repr := PySem.W.mg_none_of X G z8
    b_str := PySem.W.mg_none_of X G z9
    b_tuple := PySem.W.mg_none_of X G z10
    v_LETTERS := _
    c_LETTERS := PySem.W.mg_of X G y0
    r_LETTERS := ⟨_, rfl⟩
    v_MOST_LETTERS := _
    c_MOST_LETTERS := PySem.W.mg_of X G y1
    r_MOST_LETTERS := ⟨_, rfl⟩
    v_MOST_PARTS := _
    c_MOST_PARTS := PySem.W.mg_of X G y2
    r_MOST_PARTS := ⟨_, rfl⟩
  })⟩
end
end Fm
open PySem PySem.W PyProof.Rows
set_option maxHeartbeats 0 in
theorem PySem.Challenge.cw_framemoves_k11_kinds_known_holds : PySem.Challenge.rw_framemoves_k11_kinds_known.Holds := by
  w_on; o_law; k_head; (case hw => w_witness2)
  k_fill
  refine Fm.walk_G (l := PySem.Challenge.rw_framemoves_k11_kinds_known) (n := 63) (k := 40) (x := "_law_script") (sp := Fm.sp_law) rfl (by decide) rfl ⟨rfl, by decide, by decide⟩ (fun w h Y => PySem.W.kIn_of Y) ?F (fun K H a ns hl hS => ⟨a, ns, rfl, hS, hl, fun _ => rfl⟩)
  case F =>
    intro w mg fa h KX G hmg
    refine' Fm.all_mk KX G hmg ?a0 ?l0 ?c0 ?k0 ?a1 ?l1 ?c1 ?k1 ?a2 ?l2 ?c2 ?k2 ?a3 ?l3 ?c3 ?k3 ?a4 ?l4 ?c4 ?k4 ?a5 ?l5 ?c5 ?k5 ?a6 ?l6 ?c6 ?k6 ?a7 ?l7 ?c7 ?k7 ?a8 ?l8 ?c8 ?k8 ?a9 ?l9 ?c9 ?k9 ?a10 ?l10 ?c10 ?k10 ?a11 ?l11 ?c11 ?k11 ?a12 ?l12 ?c12 ?k12 ?a13 ?l13 ?c13 ?k13 ?a14 ?l14 ?c14 ?k14 ?a15 ?l15 ?c15 ?k15 ?a16 ?l16 ?c16 ?k16 ?a17 ?l17 ?c17 ?k17 ?a18 ?l18 ?c18 ?k18 ?a19 ?l19 ?c19 ?k19 ?a20 ?l20 ?c20 ?k20 ?z0 ?z1 ?z2 ?z3 ?z4 ?z5 ?z6 ?z7 ?z8 ?z9 ?z10 ?y0 ?y1 ?y2
    (case a0 => k_is); (case l0 => k_is); (case c0 => k_is); (case k0 => k_is); (case a1 => k_is); (case l1 => k_is); (case c1 => k_is); (case k1 => k_is); (case a2 => k_is); (case l2 => k_is); (case c2 => k_is); (case k2 => k_is); (case a3 => k_is); (case l3 => k_is); (case c3 => k_is); (case k3 => k_is); (case a4 => k_is); (case l4 => k_is); (case c4 => k_is); (case k4 => k_is); (case a5 => k_is); (case l5 => k_is); (case c5 => k_is); (case k5 => k_is); (case a6 => k_is); (case l6 => k_is); (case c6 => k_is); (case k6 => k_is); (case a7 => k_is); (case l7 => k_is); (case c7 => k_is); (case k7 => k_is); (case a8 => k_is); (case l8 => k_is); (case c8 => k_is); (case k8 => k_is); (case a9 => k_is); (case l9 => k_is); (case c9 => k_is); (case k9 => k_is); (case a10 => k_is); (case l10 => k_is); (case c10 => k_is); (case k10 => k_is); (case a11 => k_is); (case l11 => k_is); (case c11 => k_is); (case k11 => k_is); (case a12 => k_is); (case l12 => k_is); (case c12 => k_is); (case k12 => k_is); (case a13 => k_is); (case l13 => k_is); (case c13 => k_is); (case k13 => k_is); (case a14 => k_is); (case l14 => k_is); (case c14 => k_is); (case k14 => k_is); (case a15 => k_is); (case l15 => k_is); (case c15 => k_is); (case k15 => k_is); (case a16 => k_is); (case l16 => k_is); (case c16 => k_is); (case k16 => k_is); (case a17 => k_is); (case l17 => k_is); (case c17 => k_is); (case k17 => k_is); (case a18 => k_is); (case l18 => k_is); (case c18 => k_is); (case k18 => k_is); (case a19 => k_is); (case l19 => k_is); (case c19 => k_is); (case k19 => k_is); (case a20 => k_is); (case l20 => k_is); (case c20 => k_is); (case k20 => k_is); (case z0 => k_is); (case z1 => k_is); (case z2 => k_is); (case z3 => k_is); (case z4 => k_is); (case z5 => k_is); (case z6 => k_is); (case z7 => k_is); (case z8 => k_is); (case z9 => k_is); (case z10 => k_is); (case y0 => k_is); (case y1 => k_is); (case y2 => k_is)
