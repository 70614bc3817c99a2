import PyProof.Rows.All
import Wide.All
import OpenK.AllK
import Wide.FinOn
import HandS.ForMost
import HandS.IsInst
import HandS.TupAny
import HandS.Wide
import HandS.Deep
import HandS.SetKeys
import HandS.Style
import HandS.Conv
import PyProof.ReprRoads
import HandS.SetFor
import HandS.Strs
import HandS.Evl
import PySem.Challenge.RW_framemoves_k13_whole_terms_built
set_option Elab.async false
set_option linter.all false
set_option maxRecDepth 100000
set_option maxHeartbeats 8000000
namespace Fm
open PySem PySem.Spec PyProof.Rows L2

/-! built-in names -/
theorem bt_len : bootBuiltins "len" = some (.builtin "len") := by decide +kernel
theorem bt_abs : bootBuiltins "abs" = some (.builtin "abs") := by decide +kernel
theorem bt_isinstance : bootBuiltins "isinstance" = some (.builtin "isinstance") := by decide +kernel
theorem bt_repr : bootBuiltins "repr" = some (.builtin "repr") := by decide +kernel
theorem bt_sum : bootBuiltins "sum" = some (.builtin "sum") := by decide +kernel
theorem bt_sorted : bootBuiltins "sorted" = some (.builtin "sorted") := by decide +kernel
theorem bt_all : bootBuiltins "all" = some (.builtin "all") := by decide +kernel
theorem bt_int : bootBuiltins "int" = some (.type "int") := by decide +kernel
theorem bt_tuple : bootBuiltins "tuple" = some (.type "tuple") := by decide +kernel
theorem bt_list : bootBuiltins "list" = some (.type "list") := by decide +kernel
theorem bt_dict : bootBuiltins "dict" = some (.type "dict") := by decide +kernel
theorem bt_set : bootBuiltins "set" = some (.type "set") := by decide +kernel
theorem bt_str : bootBuiltins "str" = some (.type "str") := by decide +kernel
theorem bt_bool : bootBuiltins "bool" = some (.type "bool") := by decide +kernel

section
variable {X : Cx} {e l : Expr} {pos : Pos}
theorem pe_ty {x : Str} {n : String} (hm : X.mg x = none) (hv : bootBuiltins x = some (.type n)) (hg : Gl X x := by rfl)
    (h1 : x ≠ "__name__" := by decide) (h2 : (x == ("__debug__" : Str)) = false := by decide) : PE X (.Name x pos) (tC (.ty n)) :=
  pe_bltn hg hm hv rfl h1 h2
/-- one of two readings, chosen ahead -/
theorem pe_or2 {t u : TE} (h : PE X e t) (k : PE X e u) : PE X e (fun σ H Q => t σ H Q ∨ u σ H Q) :=
  ⟨fun pins s σ H Q I q => q.elim (h.run pins s σ H Q I) (k.run pins s σ H Q I)⟩
theorem pi_or2 {tg : Expr} {t u : TI} (h : PI X tg e t) (k : PI X tg e u) : PI X tg e (fun σ H R => t σ H R ∨ u σ H R) :=
  ⟨fun pins s σ H R I q => q.elim (h.run pins s σ H R I) (k.run pins s σ H R I)⟩

def iSeq (K : PySem.W.Frag) (tl : TE) : TI := fun σ H R => tl σ H fun x H1 => ∃ a, x = .ref a ∧
  (((∃ xs, SqL K H1 a xs) ∧ R (Itl K a) H1) ∨ ((∃ xs, SqT K H1 a xs) ∧ R (Itt K a) H1))
theorem pi_seq {tg : Expr} {tl : TE} (hl : PE X l tl) : PI X tg l (iSeq X.K tl) := by
  refine ⟨fun pins s σ H R I h => thn (hl.run pins s σ H _ I h) ?_⟩
  rintro v s1 ⟨x, H1, I1, r1, a, rfl, q⟩
  cases r1
  have fp : ∀ b ∈ [s1.heap.objs.size], FpOk X pins H1 b := fun b hb => by
    rw [List.mem_singleton.mp hb]
    exact I1.fpOk (Nat.le_refl _) (I1.hok.fresh (Nat.le_refl _))
  rcases q with ⟨⟨xs, hq⟩, q⟩ | ⟨⟨xs, hq⟩, q⟩
  · obtain ⟨its, rv, p, hz⟩ := I1.list hq
    exact wpAny_pyIter_list p.isList ⟨_, _, _, _, H1, rfl, I1.kept (t' := s1.toks) fun b o e => Heap.get?_push_of_some _ e, turn_list a _,
      ⟨_, Heap.get?_push_size _ rfl, rfl, rfl⟩, fp, q⟩
  · obtain ⟨its, rv, p, hz⟩ := I1.tuple hq
    exact wpAny_pyIter_tuple (show s1.heap.IsTuple a its.toArray from p) ⟨_, _, _, _, H1, rfl, I1.kept (t' := s1.toks) fun b o e => Heap.get?_push_of_some _ e, turn_tuple a _,
      ⟨_, Heap.get?_push_size _ rfl, rfl, rfl⟩, fp, q⟩

/-! operators by what stands there -/
def rAddS : R2 := fun x y H Q => ∃ i j, x = .str i ∧ y = .str j ∧ i.length + j.length ≤ sizeLine ∧ Q (.str (i ++ j)) H
def rAddG (K : PySem.W.Frag) : R2 := fun x y H Q => rI0 (fun i j => .int (i + j)) x y H Q ∨ (rAddS x y H Q ∨ (rCatA K x y H Q ∨ rCat x y H Q))
theorem op_addG : OpR X (binaryOp .Add) (rAddG X.K) := OpR.or op_add (OpR.or op_add_str (OpR.or op_catA op_cat))
def rMulG : R2 := fun x y H Q => rI CMul (fun i j => .int (i * j)) x y H Q ∨ rRep x y H Q
theorem op_mulG : OpR X (binaryOp .Mult) rMulG := OpR.or op_mul op_rep
def rEqG (K : PySem.W.Frag) : R2 := fun x y H Q => rEq x y H Q ∨ rEqD K x y H Q
theorem op_eqG (hu : X.A.units + 64 < cLine) : OpR X (compareOp .Eq) (rEqG X.K) := OpR.or op_eq (op_eqD hu)
def rNeG (K : PySem.W.Frag) : R2 := fun x y H Q => rNe x y H Q ∨ rNeD K x y H Q
theorem op_neG (hu : X.A.units + 64 < cLine) : OpR X (compareOp .NotEq) (rNeG X.K) := OpR.or op_ne (op_neD hu)
def rInSig : R2 := fun x y H Q => ∃ (c : Nat) (z : Str), x = .str ⟨#[c]⟩ ∧ y = .str z ∧ Q (.bl (decide (c ∈ z.cps.toList))) H
def rInG (K : PySem.W.Frag) : R2 := fun x y H Q => rInD K x y H Q ∨ rInSig x y H Q
theorem op_inG (hu : X.A.units + 65 < cLine) : OpR X (compareOp .In) (rInG X.K) := OpR.or (op_inD hu) op_in_sign
def rNotInSig : R2 := fun x y H Q => ∃ (c : Nat) (z : Str), x = .str ⟨#[c]⟩ ∧ y = .str z ∧ Q (.bl (!decide (c ∈ z.cps.toList))) H
def rNotInG (K : PySem.W.Frag) : R2 := fun x y H Q => rNotInD K x y H Q ∨ rNotInSig x y H Q
theorem op_notInG (hu : X.A.units + 65 < cLine) : OpR X (compareOp .NotIn) (rNotInG X.K) := OpR.or (op_notInD hu) op_notIn_sign
/-- len -/
def rLenG (K : PySem.W.Frag) : List V → Hp → VK → Prop := fun xs H Q =>
  (∃ p ys, xs = [.ref p] ∧ (SqL K H p ys ∨ SqT K H p ys) ∧ Q (.int ys.length) H) ∨ ((∃ z : Str, xs = [.str z] ∧ z.length ≤ sizeLine ∧ Q (.int z.length) H) ∨
    (∃ a kvs, xs = [V.ref a] ∧ H a = some (.dK kvs) ∧ Q (.int kvs.length) H))
theorem call_lenG : CallR X (.builtin "len") (rLenG X.K) := CallR.or call_len_seq (CallR.or call_len_str call_lenD)
/-- tuple(x), list(x) -/
def rTupOf (K : PySem.W.Frag) : List V → Hp → VK → Prop := fun xs H Q => ∃ p ys, xs = [.ref p] ∧ ((SqL K H p ys ∧ ∀ l, H l = none → Q (.ref l) (upd H l (.tup ys))) ∨ (SqT K H p ys ∧ Q (.ref p) H))
theorem call_tupG : CallR X (.type "tuple") (rTupOf X.K) := call_tuple_of
def rListOf (K : PySem.W.Frag) : List V → Hp → VK → Prop := fun xs H Q => ∃ p ys, xs = [.ref p] ∧ (SqL K H p ys ∨ SqT K H p ys) ∧ ∀ l, H l = none → Q (.ref l) (upd H l (.lst ys))
theorem call_listG : CallR X (.type "list") (rListOf X.K) := call_list_of
/-- slices -/
def rSlG (K : PySem.W.Frag) : V → Option Int → Option Int → Hp → VK → Prop := fun x lo hi H Q => rSlL K x lo hi H Q ∨ (rSlA K x lo hi H Q ∨ rSlS x lo hi H Q)
theorem sl_G : SlR X (rSlG X.K) := SlR.or sl_list (SlR.or sl_tupA sl_str)
end
end Fm
namespace Fm
open PySem PySem.Spec PyProof.Rows L2
/-! list.extend by a tuple, whatever its own dict and slots -/
theorem ext_tup (l b : Addr) (as bs : Array Value) (n m : Nat) (dd : Option Addr) (sl : Array (Option Value))
    (h0 : ¬(!as.isEmpty && Builtin.List.listTooLong (as.size + bs.size)) = true) (h1 : as.size ≤ sizeLine) (h2 : as.size + bs.size ≤ sizeLine + 1) :
    Meets (Builtin.«list.extend» ⟨[.ref l, .ref b], []⟩) (fun _ R s =>
      s.heap.get? l = some { cls := .type "list", dict := none, data := .seq as n, slots := #[] } ∧
      s.heap.get? b = some { cls := .type "tuple", dict := dd, data := .seq bs m, slots := sl } ∧
      R (.ok (.ret Value.none)) { s with heap := s.heap.update l (Obj.mapSeq fun x => x ++ bs), toks := s.toks }) := by
  refine .of_wp fun prog w A R s h => ?_
  obtain ⟨hp, g, d, tk, os⟩ := s
  obtain ⟨ha, hb, hr⟩ := h
  have q1 := AutoSeq1.idx_int
  have q2 := AutoSeq1.sub_tuple_tuple
  have q3 := AutoSeq1.sub_list_list
  have q4 := AutoSeq1.sub_tuple_list
  have q5 := AutoSeq1.sub_list_tuple
  have hz : (as ++ bs).size ≤ sizeLine + 1 := by
    rw [Array.size_append]
    exact h2
  wp_walk using (wpAny_updateSeq ha rfl (hz := h1) (_hz' := hz)), AutoSeq1.wpAny_loadPart' ha, AutoSeq1.wpAny_loadPart' hb
  exact ⟨_, rfl, hr⟩
section
variable {X : Cx}
def rExtT (K : PySem.W.Frag) : V → List V → Hp → VK → Prop := fun x vs H Q => ∃ l b xs zs, x = .ref l ∧ vs = [.ref b] ∧ H l = some (.lst xs) ∧ SqT K H b zs ∧
  xs.length + zs.length ≤ sizeLine ∧ Q .non (upd H l (.lst (xs ++ zs)))
theorem mt_extT : MtR X "list.extend" (rExtT X.K) := by
  intro pins s σ H x vs v us Q I rx rv h
  obtain ⟨l, b, xs, zs, rfl, rfl, hH, hB, hz, q⟩ := h
  cases rx
  obtain ⟨u, rfl, ru⟩ := rv.one
  cases ru
  obtain ⟨z, its, n, r, hl, e⟩ := I.lstM hH
  obtain ⟨its2, r2, ⟨⟨cls, dd, data, sl⟩, ho, hc, m, hd⟩, hz2⟩ := I.tuple hB
  simp only at hc hd
  subst hc hd
  have e1 := r.length
  have e2 := r2.length
  have hs : its.toArray.size + its2.toArray.size ≤ sizeLine := by
    rw [List.size_toArray, List.size_toArray]
    omega
  have hlong : ¬ (!its.toArray.isEmpty && Builtin.List.listTooLong (its.toArray.size + its2.toArray.size)) = true := by
    rw [notLongL hs, Bool.and_false]
    exact Bool.false_ne_true
  refine call_meets PySem.F.slot_list_extend ⟨_, e, rfl⟩ PySem.F.entry_list_extend (PySem.F.args_list_extend_2 _ _)
    (ext_tup l b its.toArray its2.toArray n m dd sl hlong (by rw [List.size_toArray]; omega) (by omega)) ⟨e, ho, ?_⟩
  refine ⟨.non, _, I.lset (its' := its ++ its2) hH e (by simp) (r.append r2) ?_, rfl, q⟩
  rw [List.length_append]
  omega
def rExtG (K : PySem.W.Frag) : V → List V → Hp → VK → Prop := fun x vs H Q => rExtend x vs H Q ∨ rExtT K x vs H Q
theorem mt_extendG : MtR X "list.extend" (rExtG X.K) := MtR.or mt_extend mt_extT

/-! repr of data, where no repr is under way -/
def rReprG (K : PySem.W.Frag) : List V → Hp → VK → Prop := fun xs H Q => ∃ (x : V) (d : PyData), xs = [x] ∧ Dp K H x d ∧ d.showable = true ∧ d.hasDict = false ∧ d.depth ≤ 60 ∧ d.shown.length ≤ sizeLine ∧ Q (.str d.shown) H
theorem call_reprG (hg : X.A.guards = some []) (hu : X.A.units + 64 < cLine) : CallR X (.builtin "repr") (rReprG X.K) := by
  intro pins s σ H xs us Q I rv h
  obtain ⟨x, d, rfl, hd, hs, hn, hdp, hz, q⟩ := h
  obtain ⟨u, rfl, ru⟩ := rv.one
  obtain ⟨as, R⟩ := Dp.reads I d x u hd ru
  have fin : ∀ h' (t : Tok) tk, (∀ b o, s.heap.get? b = some o → h'.get? b = some o) → EP X pins σ Q (.str d.shown t) { s with heap := h', toks := tk } := fun h' t tk hk =>
    ⟨.str d.shown, H, I.kept (h' := h') (t' := tk) hk, ⟨t, rfl⟩, q⟩
  cases hd with
  | non =>
    cases ru
    exact PySem.P.repr_of_none (fin s.heap _ _ fun _ _ e => e)
  | bl b =>
    cases ru
    exact PySem.P.repr_of_bool (fin s.heap _ _ fun _ _ e => e)
  | int i =>
    obtain ⟨t, rfl⟩ := ru
    exact PySem.P.repr_of_int (by simpa [PyData.showable] using hs) (fin s.heap _ _ fun _ _ e => e)
  | str y =>
    obtain ⟨t, rfl⟩ := ru
    exact PySem.P.repr_of_str (fin s.heap _ _ fun _ _ e => e) hz
  | lst h1 h2 =>
    cases ru
    exact PySem.repr_of_reads' R hs (fun c => by rw [hn] at c; cases c) hg (by omega) (fun _ _ e => e) (fun h' t tk hk => fin h' t tk hk) hz
  | tup h1 h2 =>
    cases ru
    exact PySem.repr_of_reads' R hs (fun c => by rw [hn] at c; cases c) hg (by omega) (fun _ _ e => e) (fun h' t tk hk => fin h' t tk hk) hz
end

/-! defs that may ask for a repr: called where none is under way -/
structure FnOkG (P : Program) (w : World) (K : PySem.W.Frag) (mg : Str → Option Value) (base : Heap) (CX : CXT) (k : Nat) (f : Addr) (fd : FuncData) (ps : List Str) (sp : Sp) : Prop where
  len : ∀ vs H Q E, sp vs H Q E → vs.length = ps.length
  run : ∀ (A : Around) (outer : List Env) (s : Shared) (H : Hp) (args : Args) (us : List Value) (vs : List V) (Q : VK) (E : XK), A.guards = some [] → Room k A →
    Env0 P w K mg base A outer s H → BindsTo s fd args (ps.zip us) → Vals vs us → sp vs H Q E → codeAny (model P w) A (.call (.ref f) args) (CR CX outer P w H s Q E) s
section
variable {P : Program} {w : World} {K : PySem.W.Frag} {mg : Str → Option Value} {base : Heap} {CX : CXT}
theorem FnOkG.mono {j k : Nat} {f : Addr} {fd : FuncData} {ps : List Str} {sp : Sp} (F : FnOkG P w K mg base CX j f fd ps sp) (h : j ≤ k) : FnOkG P w K mg base CX k f fd ps sp :=
  ⟨F.len, fun A outer s H args us vs Q E hg hr => F.run A outer s H args us vs Q E hg (hr.mono h)⟩
theorem guards_deeper (A : Around) (env : Env) (h : A.guards = some []) : (A.deeper env).guards = some [] := by
  first | exact h | simpa [Around.deeper] using h
/-- a def's promise by its body, as Fun.ok says it, with the guards known -/
theorem okG {x qual : Str} {st : Stmt} {f : Addr} {fd : FuncData} {N ps : List Str} {k : Nat} {sp : Sp} (F : Fun K x qual st f fd) (S : FnScope N ps (defScope st))
    (len : ∀ vs H Q E, sp vs H Q E → vs.length = ps.length)
    (body : ∀ (cdv : Value) (A : Around) (outer : List Env) (s : Shared) (H : Hp) (vs : List V) (Q : VK) (E : XK),
      (A.deeper (envOfC qual (defScope st) s.heap.objs.size f cdv)).guards = some [] → Room k (A.deeper (envOfC qual (defScope st) s.heap.objs.size f cdv)) → sp vs H Q E →
      ∃ t, PSs (cxOf CX0 P w K mg base N qual (defScope st) f cdv A outer s H E).nox (defBody st) t ∧ t { nx := fun _ H' => Q .non H', rt := Q } (start N vs) H) :
    FnOkG P w K mg base CX0 (k + 1) f fd ps sp := by
  obtain ⟨oc, od, kV, doc, pm, an, cdv, ct, osl, rfl, lk, hcd⟩ := F.ex
  refine ⟨len, fun A outer s H args us vs Q E hg hr e0 hb rv hsp => ?_⟩
  have KX : K.In s.heap := e0.mod.kin.keeps fun b o e => (e0.bs b o e).1
  have lim : s.heap.NoLimit := e0.mod.nolimit.keeps fun b o e => (e0.bs b o e).1
  refine codeAny_call_function hr.depth (KX _ _ lk) rfl S.co S.gen rfl (PySem.W.codeRec_of KX hcd) (hb _ _ _ _ ?_)
  refine wpAny_newFunctionEnv_cells S.kind (fun y hy => ?_) fun env he s1 ic => ?_
  · rcases S.par y.1 (List.of_mem_zip (show (y.1, y.2) ∈ ps.zip us from hy)).1 with q | q
    · exact .inl q
    · exact .inr ⟨q, PySem.W.cellsFrom_some _ _ _ (.inl q)⟩
  · subst he
    refine ⟨lim.keeps ic.toInCall.keep, codeAny_func ?_⟩
    obtain ⟨t, ht, hq⟩ := body cdv A outer s H vs Q E (guards_deeper A _ hg) (hr.deeper _) hsp
    have I := inv_start (CX := CX0) (N := N) (E := E) S hr.hd e0 (len _ _ _ _ hsp) rv ic
    refine wpAny_mono (ht.nox.run [] s1 (start N vs) H _ I hq) (fun fl s' hs => ?_) fun e s' hs => hs
    cases fl with
    | ret u =>
      obtain ⟨v, σ', H', J, r', q⟩ := hs
      exact ⟨v, H', J.os, J.bare, J.base, J.hok, r', q⟩
    | next =>
      obtain ⟨σ', H', J, q⟩ := hs
      exact ⟨.non, H', J.os, J.bare, J.base, J.hok, rfl, q⟩
    | brk =>
      obtain ⟨_, _, _, q⟩ := hs
      exact q.elim
    | cont =>
      obtain ⟨_, _, _, q⟩ := hs
      exact q.elim
end
section
variable {X : Cx} {CX : CXT} {k : Nat} {f : Addr} {fd : FuncData} {ps : List Str} {sp : Sp} {dvs : List V} {ds : List Value} {E : XK} {x : Str} {p pos : Pos} {e : Expr} {es : List Expr} {t : TA}
theorem pe_callG (F : FnOkG X.prog X.w X.K X.mg X.base CX k f fd ps sp) (hgd : X.A.guards = some []) (hr : Room k X.A) (hg : Gl X x) (hm : X.mg x = some (.ref f))
    (hk : PySem.W.keepIn X.K (.ref f) = true) (hb : Binds X.K fd ps ds) (hd : Vals dvs ds) (hx : Passes CX X E) (ha : PA X (e :: es) t) (hdb : (x == ("__debug__" : Str)) = false := by decide)
    (he : starEach (e :: es) X.env = (false, eval e X.env) :: starEach es X.env := by rfl) (hpl : (backTo pos (starEach es X.env)).any (·.1) = false := by rfl) :
    PE X (.Call (.Name x p) (e :: es) [] pos) (tCall sp dvs E t) := by
  refine ⟨fun pins s σ H Q I h => wpAny_Call_Name_kw (ld_glob I hg hm ?_ hdb)⟩
  refine PySem.W.callWith_K (h₀ := X.base) I.ok.mod.kin hk (thn (ha.run pos pins s σ H _ I h) ?_) he hpl
  rintro us s1 ⟨vs, H1, I1, rv, q⟩
  refine ⟨I1.kIn, ?_⟩
  have r2 := rv.append hd
  have hl : (us ++ ds).length = ps.length := by
    rw [← r2.length]
    exact F.len _ _ _ _ q
  refine wpAny_call (codeAny_mono (F.run X.A X.stack s1 H1 ⟨us, []⟩ _ _ Q E hgd hr I1.env0 (hb s1 us I1.kIn hl) r2 q) fun r s' hq => ?_)
  match r, hq with
  | .error e, hq => exact hx pins σ H1 s1 e s' I1 hq
  | .ok (.ret u), hq => exact I1.after hq
end
end Fm
namespace Fm
open PySem PySem.Spec PyProof.Rows L2

/-! heaps: what a step leaves -/
/-- tuples stay; all else stays but what stands in S -/
structure Mv (S : List Addr) (H H' : Hp) : Prop where
  tk : ∀ a xs, Rd H a (.tup xs) → Rd H' a (.tup xs)
  keep : ∀ a o, a ∉ S → H a = some o → H' a = some o
section
variable {S T : List Addr} {H H1 H2 : Hp} {p : Addr} {o : HO}
theorem Mv.refl : Mv S H H := ⟨fun _ _ h => h, fun _ _ _ h => h⟩
theorem Mv.trans (a : Mv S H H1) (b : Mv S H1 H2) : Mv S H H2 := ⟨fun c xs h => b.tk c xs (a.tk c xs h), fun c u n h => b.keep c u n (a.keep c u n h)⟩
theorem Mv.mono (a : Mv S H H1) (h : ∀ x ∈ S, x ∈ T) : Mv T H H1 := ⟨a.tk, fun c u n e => a.keep c u (fun z => n (h c z)) e⟩
theorem Mv.of_same (h : Same H H1) : Mv S H H1 := ⟨fun a xs r => r.elim (fun r => .inl (h _ _ r)) fun ⟨o, r⟩ => .inr ⟨o, h _ _ r⟩, fun a o _ e => h a o e⟩
theorem same_new (h : H p = none) : Same H (upd H p o) := fun a u e => by
  rw [upd_ne (ne_of_none e h)]
  exact e
theorem Mv.new (h : H p = none) : Mv S H (upd H p o) := .of_same (same_new h)
theorem Mv.free (a : Mv [] H H1) (h : H1 p = none) : H p = none := by
  cases q : H p with
  | none => rfl
  | some u =>
    rw [a.keep p u (List.not_mem_nil) q] at h
    cases h
theorem Mv.same (a : Mv [] H H1) : Same H H1 := fun c u e => a.keep c u List.not_mem_nil e
/-- what H does not know may be written -/
theorem Mv.wr (a : Mv S H H1) (h : H p = none) : Mv S H (upd H1 p o) := by
  refine ⟨fun c xs r => ?_, fun c u n e => ?_⟩
  · have hc : c ≠ p := by
      rintro rfl
      rcases r with r | ⟨u, r⟩ <;> (rw [h] at r; cases r)
    rcases a.tk c xs r with r | ⟨u, r⟩
    · exact .inl (by rw [upd_ne hc]; exact r)
    · exact .inr ⟨u, by rw [upd_ne hc]; exact r⟩
  · rw [upd_ne (ne_of_none e h)]
    exact a.keep c u n e
/-- a list that stands in S may be written -/
theorem Mv.set {xs : List V} (h : H p = some (.lst xs)) (hp : p ∈ S) : Mv S H (upd H p o) := by
  refine ⟨fun c ys r => ?_, fun c u n e => ?_⟩
  · have hc : c ≠ p := by
      rintro rfl
      rcases r with r | ⟨u, r⟩ <;> (rw [h] at r; cases r)
    rcases r with r | ⟨u, r⟩
    · exact .inl (by rw [upd_ne hc]; exact r)
    · exact .inr ⟨u, by rw [upd_ne hc]; exact r⟩
  · have hc : c ≠ p := fun z => n (by rw [z]; exact hp)
    rw [upd_ne hc]
    exact e
theorem Mv.sqT {K : PySem.W.Frag} {a : Addr} {xs : List V} (m : Mv S H H1) (h : SqT K H a xs) : SqT K H1 a xs := h.elim (fun h => .inl (m.tk a xs h)) .inr
end

/-! data without lists and dicts -/
mutual
def imm : PyData → Bool
  | .none | .bool _ | .int _ | .str _ => true
  | .tuple xs => immAll xs
  | .list _ => false
  | .dict _ => false
def immAll : List PyData → Bool
  | [] => true
  | x :: xs => imm x && immAll xs
end
theorem immAll_iff : ∀ {xs : List PyData}, immAll xs = true ↔ ∀ x ∈ xs, imm x = true
  | [] => by simp [immAll]
  | x :: xs => by simp [immAll, immAll_iff]
structure Im (K : PySem.W.Frag) (H : Hp) (v : V) (d : PyData) : Prop where
  dp : Dp K H v d
  im : imm d = true
structure Ims (K : PySem.W.Frag) (H : Hp) (vs : List V) (ds : List PyData) : Prop where
  dp : DpAll K H vs ds
  im : immAll ds = true
section
variable {K : PySem.W.Frag} {S : List Addr} {H H' : Hp}
mutual
theorem dp_mv (m : Mv S H H') : ∀ (d : PyData) (v : V), imm d = true → Dp K H v d → Dp K H' v d
  | .none, _, _, h => by cases h; exact .non
  | .bool b, _, _, h => by cases h; exact .bl b
  | .int i, _, _, h => by cases h; exact .int i
  | .str x, _, _, h => by cases h; exact .str x
  | .tuple ds, _, i, h => by
    cases h with
    | tup hs ha => exact .tup (m.sqT hs) (dps_mv m ds _ (by simpa [imm] using i) ha)
  | .list ds, _, i, _ => by simp [imm] at i
  | .dict _, _, _, h => by cases h
theorem dps_mv (m : Mv S H H') : ∀ (ds : List PyData) (vs : List V), immAll ds = true → DpAll K H vs ds → DpAll K H' vs ds
  | [], _, _, h => by cases h; exact .nil
  | d :: ds, _, i, h => by
    cases h with
    | cons h1 h2 =>
      have i' : imm d = true ∧ immAll ds = true := by simpa [immAll] using i
      exact .cons (dp_mv m d _ i'.1 h1) (dps_mv m ds _ i'.2 h2)
end
theorem Im.mv {v : V} {d : PyData} (h : Im K H v d) (m : Mv S H H') : Im K H' v d := ⟨dp_mv m d v h.im h.dp, h.im⟩
theorem Ims.mv {vs : List V} {ds : List PyData} (h : Ims K H vs ds) (m : Mv S H H') : Ims K H' vs ds := ⟨dps_mv m ds vs h.im h.dp, h.im⟩
theorem Ims.nil : Ims K H [] [] := ⟨.nil, rfl⟩
theorem Ims.cons {v : V} {vs : List V} {d : PyData} {ds : List PyData} (h : Im K H v d) (k : Ims K H vs ds) : Ims K H (v :: vs) (d :: ds) := ⟨.cons h.dp k.dp, by simp [immAll, h.im, k.im]⟩
theorem Ims.inv {v : V} {vs : List V} {ds : List PyData} (h : Ims K H (v :: vs) ds) : ∃ d ds', ds = d :: ds' ∧ Im K H v d ∧ Ims K H vs ds' := by
  obtain ⟨h, i⟩ := h
  cases h with
  | cons h1 h2 =>
    simp only [immAll, Bool.and_eq_true] at i
    exact ⟨_, _, rfl, ⟨h1, i.1⟩, h2, i.2⟩
theorem Ims.invD {vs : List V} {d : PyData} {ds : List PyData} (h : Ims K H vs (d :: ds)) : ∃ v vs', vs = v :: vs' ∧ Im K H v d ∧ Ims K H vs' ds := by
  obtain ⟨h, i⟩ := h
  cases h with
  | cons h1 h2 =>
    simp only [immAll, Bool.and_eq_true] at i
    exact ⟨_, _, rfl, ⟨h1, i.1⟩, h2, i.2⟩
theorem Ims.nilV {ds : List PyData} (h : Ims K H [] ds) : ds = [] := by
  obtain ⟨h, i⟩ := h
  cases h
  rfl
theorem Ims.nilD {vs : List V} (h : Ims K H vs []) : vs = [] := by
  obtain ⟨h, i⟩ := h
  cases h
  rfl
theorem Ims.length : ∀ {ds : List PyData} {vs : List V}, Ims K H vs ds → vs.length = ds.length
  | [], _, h => by rw [h.nilD]; rfl
  | d :: ds, _, h => by
    obtain ⟨v, vs', rfl, _, k⟩ := h.invD
    simp [k.length]
theorem Ims.append : ∀ {ds es : List PyData} {vs us : List V}, Ims K H vs ds → Ims K H us es → Ims K H (vs ++ us) (ds ++ es)
  | [], _, _, _, h, k => by rw [h.nilD]; exact k
  | d :: ds, _, _, _, h, k => by
    obtain ⟨v, vs', rfl, h1, h2⟩ := h.invD
    exact .cons h1 (h2.append k)
theorem Ims.get : ∀ {ds : List PyData} {vs : List V} {i : Nat} {v : V}, Ims K H vs ds → vs[i]? = some v → ∃ d, ds[i]? = some d ∧ Im K H v d
  | [], _, _, _, h, e => by rw [h.nilD] at e; simp at e
  | d :: ds, _, 0, _, h, e => by
    obtain ⟨v, vs', rfl, h1, h2⟩ := h.invD
    simp at e
    subst e
    exact ⟨d, rfl, h1⟩
  | d :: ds, _, i + 1, _, h, e => by
    obtain ⟨v, vs', rfl, h1, h2⟩ := h.invD
    exact h2.get (i := i) (by simpa using e)
theorem Ims.getD : ∀ {ds : List PyData} {vs : List V} {i : Nat} {d : PyData}, Ims K H vs ds → ds[i]? = some d → ∃ v, vs[i]? = some v ∧ Im K H v d
  | [], _, _, _, h, e => by simp at e
  | d :: ds, _, 0, _, h, e => by
    obtain ⟨v, vs', rfl, h1, h2⟩ := h.invD
    simp at e
    subst e
    exact ⟨v, rfl, h1⟩
  | d :: ds, _, i + 1, _, h, e => by
    obtain ⟨v, vs', rfl, h1, h2⟩ := h.invD
    exact h2.getD (i := i) (by simpa using e)
theorem Im.tupI {v : V} {ds : List PyData} (h : Im K H v (.tuple ds)) : ∃ a xs, v = .ref a ∧ SqT K H a xs ∧ Ims K H xs ds := by
  obtain ⟨h, i⟩ := h
  cases h with
  | tup hs ha => exact ⟨_, _, rfl, hs, ha, by simpa [imm] using i⟩
theorem Im.tup {a : Addr} {xs : List V} {ds : List PyData} (h : SqT K H a xs) (k : Ims K H xs ds) : Im K H (.ref a) (.tuple ds) := ⟨.tup h k.dp, by simpa [imm] using k.im⟩
theorem Im.int (i : Int) : Im K H (.int i) (.int i) := ⟨.int i, rfl⟩
theorem Im.str (x : Str) : Im K H (.str x) (.str x) := ⟨.str x, rfl⟩
theorem Im.bl (b : Bool) : Im K H (.bl b) (.bool b) := ⟨.bl b, rfl⟩
theorem Im.non : Im K H .non .none := ⟨.non, rfl⟩
theorem Im.intI {v : V} {i : Int} (h : Im K H v (.int i)) : v = .int i := by
  obtain ⟨h, _⟩ := h
  cases h
  rfl
theorem Im.strI {v : V} {x : Str} (h : Im K H v (.str x)) : v = .str x := by
  obtain ⟨h, _⟩ := h
  cases h
  rfl
end

/-! the bag of draws -/
def BagC (H : Hp) (b c : Addr) : Prop := ∃ (s m k : Int) (ns : List Int), H b = some (.lst [.int s, .int m, .int k, .ref c]) ∧ H c = some (.lst (ns.map V.int)) ∧ ns.length ≤ 63 ∧
  (∀ n ∈ ns, 0 ≤ n) ∧ 0 ≤ s ∧ 0 ≤ k ∧ 0 ≤ m
def Bag (H : Hp) (b : Addr) : Prop := ∃ c, BagC H b c
theorem BagC.lst {H : Hp} {b c : Addr} (h : BagC H b c) : ∃ xs, H b = some (.lst xs) := by
  obtain ⟨s, m, k, ns, h, _⟩ := h
  exact ⟨_, h⟩
theorem Bag.lst {H : Hp} {b : Addr} (h : Bag H b) : ∃ xs, H b = some (.lst xs) := h.elim fun _ h => h.lst
theorem Bag.ne {H : Hp} {b c : Addr} {xs : List V} {ns : List Int} (h : H b = some (.lst (xs ++ [.ref c]))) (k : H c = some (.lst (ns.map V.int))) : c ≠ b := by
  rintro rfl
  rw [h] at k
  have e : xs ++ [V.ref c] = ns.map V.int := by
    have := Option.some.inj k
    injection this
  have : V.ref c ∈ ns.map V.int := by
    rw [← e]
    simp
  obtain ⟨n, _, q⟩ := List.mem_map.mp this
  cases q
theorem BagC.mv {H H' : Hp} {b c : Addr} (h : BagC H b c) (m : Mv [] H H') : BagC H' b c := by
  obtain ⟨s, m', k, ns, h1, h2, r⟩ := h
  exact ⟨s, m', k, ns, m.same _ _ h1, m.same _ _ h2, r⟩
theorem Bag.mv {H H' : Hp} {b : Addr} (h : Bag H b) (m : Mv [] H H') : Bag H' b := h.elim fun c h => ⟨c, h.mv m⟩
/-- a step that may draw from the bag -/
structure Dr (b : Addr) (H H' : Hp) : Prop where
  mv : Mv [b] H H'
  bagC : ∀ c, BagC H b c → BagC H' b c
section
variable {b p : Addr} {H H' H1 H2 : Hp} {o : HO}
theorem Dr.bag (x : Dr b H H') (h : Bag H b) : Bag H' b := h.elim fun c h => ⟨c, x.bagC c h⟩
theorem Dr.refl : Dr b H H := ⟨.refl, fun _ h => h⟩
theorem Dr.trans (x : Dr b H H1) (y : Dr b H1 H2) : Dr b H H2 := ⟨x.mv.trans y.mv, fun c h => y.bagC c (x.bagC c h)⟩
theorem Dr.of (x : Mv [] H H1) : Dr b H H1 := ⟨x.mono (by simp), fun _ h => h.mv x⟩
theorem Dr.new (h : H p = none) : Dr b H (upd H p o) := .of (.new h)
theorem Dr.free (d : Dr b H H') (hB : Bag H b) (h : H' p = none) : H p = none := by
  cases q : H p with
  | none => rfl
  | some u =>
    by_cases e : p = b
    · subst e
      obtain ⟨xs, hx⟩ := (d.bag hB).lst
      rw [hx] at h
      cases h
    · rw [d.mv.keep p u (by simpa using e) q] at h
      cases h
theorem Dr.get (d : Dr b H H') (hp : p ≠ b) (h : H p = some o) : H' p = some o := d.mv.keep p o (by simpa using hp) h
theorem Dr.wr (d : Dr b H H') (hp : H p = none) : Dr b H (upd H' p o) := by
  refine ⟨d.mv.wr hp, fun c hB => ?_⟩
  obtain ⟨s', m', k', ns', h1', h2', r'⟩ := d.bagC c hB
  obtain ⟨s, m, k, ns, h1, h2, r⟩ := hB
  exact ⟨s', m', k', ns', by rw [upd_ne (ne_of_none h1 hp)]; exact h1', by rw [upd_ne (ne_of_none h2 hp)]; exact h2', r'⟩
theorem Dr.mkc {c : Addr} (m : Mv [b] H H') (h : BagC H b c) (h' : BagC H' b c) : Dr b H H' := ⟨m, fun d k => by
  obtain ⟨_, _, _, _, h1, _⟩ := h
  obtain ⟨_, _, _, _, k1, _⟩ := k
  rw [h1] at k1
  have e := Option.some.inj k1
  injection e with e
  injection e with _ e
  injection e with _ e
  injection e with _ e
  injection e with e _
  injection e with e
  rw [← e]
  exact h'⟩
theorem Bag.fneq (h : Bag H b) (hp : H p = none) : p ≠ b := by
  rintro rfl
  obtain ⟨xs, e⟩ := h.lst
  rw [e] at hp
  cases hp
end

/-! items of a list, by values -/
section
variable {X : Cx}
def rGetL (K : PySem.W.Frag) : V → V → Hp → VK → Prop := fun o i H Q => ∃ (p : Addr) (xs : List V) (j : Nat) (v : V), o = .ref p ∧ i = .int (j : Nat) ∧ SqL K H p xs ∧ xs[j]? = some v ∧ Q v H
theorem get_G : PGet X (rGetL X.K) := by
  intro pins s σ H o i ov iv Q I ro ri h
  obtain ⟨p, xs, j, v, rfl, rfl, hq, he, q⟩ := h
  cases ro
  obtain ⟨t, rfl⟩ := ri
  obtain ⟨its, r, pl, hz⟩ := I.list hq
  obtain ⟨w, ew, rw'⟩ := r.get he
  have hl := r.length
  have hn := line63
  have hj : j < its.length := (List.getElem?_eq_some_iff.mp ew).1
  exact wpAny_getItem_list pl.isList (by omega) (by omega) (by simpa using ew) ⟨v, H, I, rw', q⟩
end
end Fm
namespace Fm
open PySem PySem.Spec PyProof.Rows L2
/-- small letters, one to eight -/
def Nm (x : Str) : Prop := 1 ≤ x.length ∧ x.length ≤ 8 ∧ ∀ c ∈ x.cps.toList, 97 ≤ c ∧ c ≤ 122
instance (x : Str) : Decidable (Nm x) := by unfold Nm; infer_instance
/-! terms -/
inductive Tm where
  | var (i : Int)
  | op (x : Str) (ts : List Tm)
namespace Tm
mutual
def d : Tm → PyData
  | .var i => .int i
  | .op x ts => .tuple (.str x :: ds ts)
def ds : List Tm → List PyData
  | [] => []
  | t :: ts => d t :: ds ts
end
theorem ds_map : ∀ ts : List Tm, ds ts = ts.map d
  | [] => by simp [ds]
  | t :: ts => by simp [ds, ds_map ts]
mutual
def dep : Tm → Nat
  | .var _ => 0
  | .op _ ts => deps ts + 1
def deps : List Tm → Nat
  | [] => 0
  | t :: ts => max (dep t) (deps ts)
end
mutual
/-- how many unknowns stand there -/
def lv : Tm → Nat
  | .var _ => 1
  | .op _ ts => lvs ts
def lvs : List Tm → Nat
  | [] => 0
  | t :: ts => lv t + lvs ts
end
mutual
/-- the unknowns from left to right -/
def leaves : Tm → List Int
  | .var i => [i]
  | .op _ ts => leavesL ts
def leavesL : List Tm → List Int
  | [] => []
  | t :: ts => leaves t ++ leavesL ts
end
mutual
/-- how many operations -/
def size : Tm → Nat
  | .var _ => 0
  | .op _ ts => sizes ts + 1
def sizes : List Tm → Nat
  | [] => 0
  | t :: ts => size t + sizes ts
end
mutual
def put (f : Int → Tm) : Tm → Tm
  | .var i => f i
  | .op x ts => .op x (puts f ts)
def puts (f : Int → Tm) : List Tm → List Tm
  | [] => []
  | t :: ts => put f t :: puts f ts
end
mutual
/-- names are names, at most three parts, the unknowns keep P -/
def ok (P : Int → Prop) : Tm → Prop
  | .var i => P i
  | .op x ts => Nm x ∧ ts.length ≤ 3 ∧ oks P ts
def oks (P : Int → Prop) : List Tm → Prop
  | [] => True
  | t :: ts => ok P t ∧ oks P ts
end
theorem puts_map (f : Int → Tm) : ∀ ts : List Tm, puts f ts = ts.map (put f)
  | [] => by simp [puts]
  | t :: ts => by simp [puts, puts_map f ts]
theorem oks_iff {P : Int → Prop} : ∀ {ts : List Tm}, oks P ts ↔ ∀ t ∈ ts, ok P t
  | [] => by simp [oks]
  | t :: ts => by simp [oks, oks_iff]
theorem deps_le {n : Nat} : ∀ {ts : List Tm}, deps ts ≤ n ↔ ∀ t ∈ ts, dep t ≤ n
  | [] => by simp [deps]
  | t :: ts => by
    have := deps_le (n := n) (ts := ts)
    simp only [deps, List.mem_cons, forall_eq_or_imp, ← this]
    omega
theorem leavesL_append : ∀ ts us : List Tm, leavesL (ts ++ us) = leavesL ts ++ leavesL us
  | [], _ => by simp [leavesL]
  | t :: ts, us => by simp [leavesL, leavesL_append ts us]
theorem sizes_append : ∀ ts us : List Tm, sizes (ts ++ us) = sizes ts + sizes us
  | [], _ => by simp [sizes]
  | t :: ts, us => by
    simp only [List.cons_append, sizes, sizes_append ts us]
    omega
theorem lvs_append : ∀ ts us : List Tm, lvs (ts ++ us) = lvs ts + lvs us
  | [], _ => by simp [lvs]
  | t :: ts, us => by
    simp only [List.cons_append, lvs, lvs_append ts us]
    omega
mutual
theorem leaves_len : ∀ t : Tm, (leaves t).length = lv t
  | .var _ => by simp [leaves, lv]
  | .op _ ts => by simp [leaves, lv, leavesL_len ts]
theorem leavesL_len : ∀ ts : List Tm, (leavesL ts).length = lvs ts
  | [] => by simp [leavesL, lvs]
  | t :: ts => by simp [leavesL, lvs, leaves_len t, leavesL_len ts]
end
mutual
theorem ok_leaves {P : Int → Prop} : ∀ t : Tm, ok P t → ∀ i ∈ leaves t, P i
  | .var j, h, i, hi => by
    simp only [leaves, List.mem_singleton] at hi
    rw [hi]
    exact h
  | .op _ ts, h, i, hi => oks_leaves ts h.2.2 i (by simpa [leaves] using hi)
theorem oks_leaves {P : Int → Prop} : ∀ ts : List Tm, oks P ts → ∀ i ∈ leavesL ts, P i
  | [], _, i, hi => by simp [leavesL] at hi
  | t :: ts, h, i, hi => by
    rcases List.mem_append.mp (show i ∈ leaves t ++ leavesL ts by simpa [leavesL] using hi) with hi | hi
    · exact ok_leaves t h.1 i hi
    · exact oks_leaves ts h.2 i hi
end
mutual
theorem ok_mono {P R : Int → Prop} (h : ∀ i, P i → R i) : ∀ t : Tm, ok P t → ok R t
  | .var i, k => h i k
  | .op _ ts, k => ⟨k.1, k.2.1, oks_mono h ts k.2.2⟩
theorem oks_mono {P R : Int → Prop} (h : ∀ i, P i → R i) : ∀ ts : List Tm, oks P ts → oks R ts
  | [], _ => trivial
  | t :: ts, k => ⟨ok_mono h t k.1, oks_mono h ts k.2⟩
end
mutual
theorem ok_put {P R : Int → Prop} {f : Int → Tm} (h : ∀ i, P i → ok R (f i)) : ∀ t : Tm, ok P t → ok R (put f t)
  | .var i, k => h i k
  | .op _ ts, k => by
    refine ⟨k.1, ?_, oks_puts h ts k.2.2⟩
    rw [puts_map, List.length_map]
    exact k.2.1
theorem oks_puts {P R : Int → Prop} {f : Int → Tm} (h : ∀ i, P i → ok R (f i)) : ∀ ts : List Tm, oks P ts → oks R (puts f ts)
  | [], _ => trivial
  | t :: ts, k => ⟨ok_put h t k.1, oks_puts h ts k.2⟩
end
mutual
theorem dep_put {P : Int → Prop} {f : Int → Tm} {n : Nat} (h : ∀ i, P i → dep (f i) ≤ n) : ∀ t : Tm, ok P t → dep (put f t) ≤ dep t + n
  | .var i, k => by simpa [put, dep] using h i k
  | .op _ ts, k => by
    have := deps_puts h ts k.2.2
    simp only [put, dep]
    omega
theorem deps_puts {P : Int → Prop} {f : Int → Tm} {n : Nat} (h : ∀ i, P i → dep (f i) ≤ n) : ∀ ts : List Tm, oks P ts → deps (puts f ts) ≤ deps ts + n
  | [], _ => by simp [puts, deps]
  | t :: ts, k => by
    have h1 := dep_put h t k.1
    have h2 := deps_puts h ts k.2
    simp only [puts, deps]
    omega
end
mutual
/-- what a term's text may come to, without its unknowns' figures -/
def cst : Tm → Nat
  | .var _ => 0
  | .op _ ts => csts ts + 90
def csts : List Tm → Nat
  | [] => 0
  | t :: ts => cst t + 2 + csts ts
end
mutual
theorem cst_put {P : Int → Prop} {f : Int → Tm} {c : Nat} (h : ∀ i, P i → cst (f i) ≤ c) : ∀ t : Tm, ok P t → cst (put f t) ≤ cst t + lv t * c
  | .var i, k => by simpa [put, cst, lv] using h i k
  | .op _ ts, k => by
    have := csts_puts h ts k.2.2
    simp only [put, cst, lv]
    omega
theorem csts_puts {P : Int → Prop} {f : Int → Tm} {c : Nat} (h : ∀ i, P i → cst (f i) ≤ c) : ∀ ts : List Tm, oks P ts → csts (puts f ts) ≤ csts ts + lvs ts * c
  | [], _ => by simp [puts, csts]
  | t :: ts, k => by
    have h1 := cst_put h t k.1
    have h2 := csts_puts h ts k.2
    simp only [puts, csts, lvs, Nat.add_mul]
    omega
end
mutual
theorem lv_put {P : Int → Prop} {f : Int → Tm} {c : Nat} (h : ∀ i, P i → lv (f i) ≤ c) : ∀ t : Tm, ok P t → lv (put f t) ≤ lv t * c
  | .var i, k => by simpa [put, lv] using h i k
  | .op _ ts, k => by simpa [put, lv] using lvs_puts h ts k.2.2
theorem lvs_puts {P : Int → Prop} {f : Int → Tm} {c : Nat} (h : ∀ i, P i → lv (f i) ≤ c) : ∀ ts : List Tm, oks P ts → lvs (puts f ts) ≤ lvs ts * c
  | [], _ => by simp [puts, lvs]
  | t :: ts, k => by
    have h1 := lv_put h t k.1
    have h2 := lvs_puts h ts k.2
    simp only [puts, lvs, Nat.add_mul]
    omega
end
mutual
theorem put_congr {f g : Int → Tm} : ∀ t : Tm, (∀ i ∈ leaves t, f i = g i) → put f t = put g t
  | .var i, h => h i (by simp [leaves])
  | .op x ts, h => by
    show Tm.op x (puts f ts) = .op x (puts g ts)
    rw [puts_congr ts fun i hi => h i (by simpa [leaves] using hi)]
theorem puts_congr {f g : Int → Tm} : ∀ ts : List Tm, (∀ i ∈ leavesL ts, f i = g i) → puts f ts = puts g ts
  | [], _ => rfl
  | t :: ts, h => by
    show put f t :: puts f ts = put g t :: puts g ts
    rw [put_congr t fun i hi => h i (by simp [leavesL, hi]), puts_congr ts fun i hi => h i (by simp [leavesL, hi])]
end
/-- trees of bounded depth are small -/
theorem small {P : Int → Prop} : ∀ (n : Nat) (t : Tm), ok P t → dep t ≤ n → lv t ≤ 3 ^ n ∧ cst t + 48 ≤ 48 * 3 ^ n
  | 0, .var i, _, _ => by simp [lv, cst]
  | 0, .op x ts, _, h => by simp [dep] at h
  | n + 1, .var i, _, _ => by
    have := Nat.one_le_pow (n + 1) 3 (by decide)
    simp only [lv, cst]
    omega
  | n + 1, .op x ts, k, h => by
    have hd : ∀ t ∈ ts, dep t ≤ n := deps_le.mp (by simp only [dep] at h; omega)
    have ho := oks_iff.mp k.2.2
    have hl := k.2.1
    have ih : ∀ t ∈ ts, lv t ≤ 3 ^ n ∧ cst t + 48 ≤ 48 * 3 ^ n := fun t ht => small n t (ho t ht) (hd t ht)
    have h1 := Nat.one_le_pow n 3 (by decide)
    rw [Nat.pow_succ]
    simp only [lv, cst]
    match ts, hl, ih with
    | [], _, _ => simp only [lvs, csts]; omega
    | [a], _, ih =>
      have := ih a (by simp)
      simp only [lvs, csts]; omega
    | [a, b], _, ih =>
      have := ih a (by simp)
      have := ih b (by simp)
      simp only [lvs, csts]; omega
    | [a, b, c], _, ih =>
      have := ih a (by simp)
      have := ih b (by simp)
      have := ih c (by simp)
      simp only [lvs, csts]; omega
end Tm
mutual
theorem imm_d : ∀ t : Tm, imm t.d = true
  | .var _ => by simp [Tm.d, imm]
  | .op _ ts => by simp [Tm.d, imm, immAll, imm_ds ts]
theorem imm_ds : ∀ ts : List Tm, immAll (Tm.ds ts) = true
  | [] => by simp [Tm.ds, immAll]
  | t :: ts => by simp [Tm.ds, immAll, imm_d t, imm_ds ts]
end
end Fm
namespace Fm
open PySem PySem.Spec PyProof.Rows L2
/-! what is worth a value, the heap as it is -/
structure TV (t : TE) (σ : L2.St) (H : Hp) (v : V) : Prop where
  go : ∀ Q : VK, Q v H → t σ H Q
structure TB (t : TT) (σ : L2.St) (H : Hp) (b : Bool) : Prop where
  go : ∀ Q : Bool → Hp → Prop, Q b H → t σ H Q
theorem vint_eq {i j : Int} : decide (V.int i = V.int j) = decide (i = j) := by
  by_cases e : i = j
  · rw [e, decide_eq_true rfl, decide_eq_true rfl]
  · rw [decide_eq_false e, decide_eq_false fun z => e (V.int.inj z)]
section
variable {K : PySem.W.Frag} {σ : L2.St} {H : Hp} {ta tb : TE} {t u : TT} {a b : Bool} {i j : Int} {x y v : V} {Q : VK}
theorem tv_var {m : Nat} (h : σ[m]? = some (some v)) : TV (tVar m) σ H v := ⟨fun Q q => ⟨v, h, q⟩⟩
theorem tv_c : TV (tC v) σ H v := ⟨fun Q q => q⟩
theorem tv_I {g : Int → Int → V} (ha : TV ta σ H (.int i)) (hb : TV tb σ H (.int j)) : TV (tOp (rI0 g) ta tb) σ H (g i j) := ⟨fun Q q => ha.go _ (hb.go _ ⟨i, j, rfl, rfl, q⟩)⟩
theorem tv_eq (ha : TV ta σ H x) (hb : TV tb σ H y) (hs : scal x y = true) : TV (tOp (rEqG K) ta tb) σ H (.bl (decide (x = y))) := ⟨fun Q q => ha.go _ (hb.go _ (Or.inl ⟨hs, q⟩))⟩
theorem tv_ne (ha : TV ta σ H x) (hb : TV tb σ H y) (hs : scal x y = true) : TV (tOp (rNeG K) ta tb) σ H (.bl (!decide (x = y))) := ⟨fun Q q => ha.go _ (hb.go _ (Or.inl ⟨hs, q⟩))⟩
theorem tv_eqI (ha : TV ta σ H (.int i)) (hb : TV tb σ H (.int j)) : TV (tOp (rEqG K) ta tb) σ H (.bl (decide (i = j))) := by
  rw [← vint_eq]
  exact tv_eq ha hb rfl
theorem tv_neI (ha : TV ta σ H (.int i)) (hb : TV tb σ H (.int j)) : TV (tOp (rNeG K) ta tb) σ H (.bl (!decide (i = j))) := by
  rw [← vint_eq]
  exact tv_ne ha hb rfl
theorem tb_test (h : TV ta σ H (.bl a)) : TB (tTest ta) σ H a := ⟨fun Q q => h.go _ ⟨a, rfl, q⟩⟩
theorem tb_B (h : TV ta σ H (.bl a)) : TB (tB ta) σ H a := ⟨fun Q q => h.go _ ⟨a, rfl, q⟩⟩
theorem tb_and (h : TB t σ H a) (k : TB u σ H b) : TB (tAnd t u) σ H (a && b) := ⟨fun Q q => h.go _ (by
  cases a with
  | true => exact k.go _ q
  | false => exact q)⟩
theorem tb_or (h : TB t σ H a) (k : TB u σ H b) : TB (tOr t u) σ H (a || b) := ⟨fun Q q => h.go _ (by
  cases a with
  | true => exact q
  | false => exact k.go _ q)⟩
theorem tb_not (h : TB t σ H a) : TB (tNot t) σ H (!a) := ⟨fun Q q => h.go _ q⟩
theorem tv_is {w : V} (h : TV ta σ H v) (e : v = w) : TV ta σ H w := by rw [← e]; exact h
theorem st_if {c : TT} {t u : TS} {D : Ends} (h : TB c σ H b) (h1 : b = true → t D σ H) (h2 : b = false → u D σ H) : tIfS c t u D σ H := h.go _ (by
  cases b with
  | true => exact h1 rfl
  | false => exact h2 rfl)
theorem te_if {c : TT} (h : TB c σ H b) (h1 : b = true → ta σ H Q) (h2 : b = false → tb σ H Q) : tIf c ta tb σ H Q := h.go _ (by
  cases b with
  | true => exact h1 rfl
  | false => exact h2 rfl)
/-- isinstance(x, int) of data -/
def isInt : PyData → Bool
  | .int _ => true
  | .bool _ => true
  | _ => false
theorem tyx_dp {d : PyData} (h : Dp K H v d) (hd : imm d = true) : ∃ t : String, TyX K H v (.type t) ∧ (t = "int" ∧ (∃ i, d = .int i) ∨ t = "bool" ∧ (∃ b, d = .bool b) ∨ t = "str" ∧ (∃ x, d = .str x) ∨ t = "NoneType" ∧ d = .none ∨ t = "tuple" ∧ (∃ ds, d = .tuple ds)) := by
  cases h with
  | non => exact ⟨_, .base .non, .inr (.inr (.inr (.inl ⟨rfl, rfl⟩)))⟩
  | bl b => exact ⟨_, .base (.bl b), .inr (.inl ⟨rfl, b, rfl⟩)⟩
  | int i => exact ⟨_, .base (.int i), .inl ⟨rfl, i, rfl⟩⟩
  | str x => exact ⟨_, .base (.str x), .inr (.inr (.inl ⟨rfl, x, rfl⟩))⟩
  | lst h1 h2 => simp [imm] at hd
  | tup h1 h2 =>
    refine ⟨"tuple", ?_, .inr (.inr (.inr (.inr ⟨rfl, _, rfl⟩)))⟩
    rcases h1 with (h1 | ⟨o, h1⟩) | ⟨o, its, n, hk, hc, _⟩
    · exact .base (.tup h1)
    · exact .fTuple h1
    · exact .kTuple hk hc
theorem kit_i1 : kitB "int" "int" = some true := by decide +kernel
theorem kit_i2 : kitB "bool" "int" = some true := by decide +kernel
theorem kit_i3 : kitB "str" "int" = some false := by decide +kernel
theorem kit_i4 : kitB "NoneType" "int" = some false := by decide +kernel
theorem kit_i5 : kitB "tuple" "int" = some false := by decide +kernel
theorem rd_isInt {d : PyData} (h : Im K H v d) (q : Q (.bl (isInt d)) H) : rIsi K [v, .ty "int"] H Q := by
  obtain ⟨t, ht, k⟩ := tyx_dp h.dp h.im
  refine ⟨v, .ty "int", _, _, isInt d, rfl, .ty "int", ht, ?_, q⟩
  rcases k with ⟨rfl, i, rfl⟩ | ⟨rfl, i, rfl⟩ | ⟨rfl, i, rfl⟩ | ⟨rfl, rfl⟩ | ⟨rfl, i, rfl⟩
  · exact kit_ty kit_i1
  · exact kit_ty kit_i2
  · exact kit_ty kit_i3
  · exact kit_ty kit_i4
  · exact kit_ty kit_i5
/-- t + u of tuples -/
theorem rd_cat {a b : Addr} {xs ys : List V} (ha : SqT K H a xs) (hb : SqT K H b ys) (hs : xs.length + ys.length ≤ sizeLine)
    (h : ∀ p H', Mv [] H H' → SqT K H' p (xs ++ ys) → Q (.ref p) H') : rAddG K (.ref a) (.ref b) H Q := by
  refine Or.inr (Or.inr (Or.inl ⟨a, b, xs, ys, rfl, rfl, ha, hb, hs, fun e => ?_, fun _ e => ?_, fun _ _ p np => ?_⟩))
  · subst e
    exact h b H .refl hb
  · subst e
    exact h a H .refl (by rw [List.append_nil]; exact ha)
  · exact h p _ (.new np) (.inl (.inl upd_same))
/-- list + list -/
theorem rd_catL {a b : Addr} {xs ys : List V} (ha : H a = some (.lst xs)) (hb : H b = some (.lst ys)) (hs : xs.length + ys.length ≤ sizeLine)
    (h : ∀ p H', H p = none → Mv [] H H' → H' p = some (.lst (xs ++ ys)) → Q (.ref p) H') : rAddG K (.ref a) (.ref b) H Q :=
  Or.inr (Or.inr (Or.inr ⟨a, b, xs, ys, rfl, rfl, ha, hb, hs, fun p np => h p _ np (.new np) upd_same⟩))
/-- an item of a list -/
theorem rd_ixL {a : Addr} {xs : List V} {i : Int} {v : V} (ha : SqL K H a xs) (h0 : 0 ≤ i) (hv : xs[i.toNat]? = some v) (h : Q v H) : rIx K (.ref a) (.int i) H Q := by
  obtain ⟨j, rfl⟩ := Int.eq_ofNat_of_zero_le h0
  exact Or.inl ⟨a, xs, j, v, rfl, rfl, ha, atI_nat hv, h⟩
theorem rd_ixT {a : Addr} {xs : List V} {i : Int} {v : V} (ha : SqT K H a xs) (h0 : 0 ≤ i) (hv : xs[i.toNat]? = some v) (h : Q v H) : rIx K (.ref a) (.int i) H Q := by
  obtain ⟨j, rfl⟩ := Int.eq_ofNat_of_zero_le h0
  exact Or.inr (Or.inl ⟨a, xs, j, v, rfl, rfl, ha, atI_nat hv, h⟩)
theorem rd_len {a : Addr} {xs : List V} (ha : SqL K H a xs ∨ SqT K H a xs) (h : Q (.int xs.length) H) : rLenG K [.ref a] H Q := Or.inl ⟨a, xs, rfl, ha, h⟩
/-- tuple(list) -/
theorem rd_tupOf {a : Addr} {xs : List V} (ha : SqL K H a xs) (h : ∀ p H', Mv [] H H' → SqT K H' p xs → Q (.ref p) H') : rTupOf K [.ref a] H Q :=
  ⟨a, xs, rfl, .inl ⟨ha, fun p np => h p _ (.new np) (.inl (.inl upd_same))⟩⟩
/-- list(x) -/
theorem rd_listOf {a : Addr} {xs : List V} (ha : SqL K H a xs ∨ SqT K H a xs) (h : ∀ p H', H p = none → Mv [] H H' → H' p = some (.lst xs) → Q (.ref p) H') : rListOf K [.ref a] H Q :=
  ⟨a, xs, rfl, ha, fun p np => h p _ np (.new np) upd_same⟩
/-- a written tuple, a written list -/
theorem rd_tup {ta : TA} (h : ta σ H fun xs H1 => xs.length ≤ sizeLine ∧ ∀ p H', H1 p = none → Mv [] H1 H' → SqT K H' p xs → Q (.ref p) H') (mono : ∀ {R S : List V → Hp → Prop}, (∀ xs H1, R xs H1 → S xs H1) → ta σ H R → ta σ H S) : tTup ta σ H Q :=
  mono (fun xs H1 k => ⟨k.1, fun p np => k.2 p _ np (.new np) (.inl (.inl upd_same))⟩) h
/-- t[1:], t[:1] of a tuple that is not empty -/
theorem rd_sl1 {a : Addr} {x : V} {xs : List V} (ha : SqT K H a (x :: xs)) (h : ∀ p H', Mv [] H H' → SqT K H' p xs → Q (.ref p) H') : rSlG K (.ref a) (some 1) none H Q := by
  have e : HT.sIx (x :: xs).length 0 (some 1) = 1 := by
    rw [show HT.sIx (x :: xs).length 0 (some 1) = min 1 (x :: xs).length from HT.sIx_nat _ 0 1, List.length_cons]
    omega
  refine Or.inr (Or.inl ⟨a, x :: xs, rfl, ha, fun z => ?_, fun _ p np => h p _ (.new np) (.inl (.inl ?_))⟩)
  · rw [e] at z
    omega
  · rw [upd_same]
    unfold cutV
    rw [e, HT.sIx_none, List.length_cons, Nat.add_sub_cancel]
    show some (HO.tup (xs.take xs.length)) = _
    rw [List.take_length]
theorem rd_slA {a : Addr} {x : V} {xs : List V} (ha : SqT K H a (x :: xs)) (h : ∀ p H', Mv [] H H' → SqT K H' p [x] → Q (.ref p) H') : rSlG K (.ref a) none (some 1) H Q := by
  have e : HT.sIx (x :: xs).length (x :: xs).length (some 1) = 1 := by
    rw [show HT.sIx (x :: xs).length (x :: xs).length (some 1) = min 1 (x :: xs).length from HT.sIx_nat _ _ 1, List.length_cons]
    omega
  refine Or.inr (Or.inl ⟨a, x :: xs, rfl, ha, fun z => ?_, fun _ p np => h p _ (.new np) (.inl (.inl ?_))⟩)
  · rw [e] at z
    have e0 : xs = [] := by
      cases xs with
      | nil => rfl
      | cons y ys =>
        have := z.2
        simp at this
    subst e0
    exact h a H .refl ha
  · rw [upd_same]
    unfold cutV
    rw [e, HT.sIx_none]
    rfl
end

/-! loops over a list or a tuple that stays -/
section
variable {K : PySem.W.Frag} {a : Addr} {xs : List V}
theorem for_seq {g : TG} {tb : TS} {D : Ends} {σ : L2.St} {H : Hp} (hS : SqL K H a xs ∨ SqT K H a xs) (Pv : Nat → L2.St → Hp → Prop) (h0 : Pv 0 σ H) (hk : ∀ i σ' H', Pv i σ' H' → Mv [] H H')
    (hs : ∀ i x σ' H', xs[i]? = some x → Pv i σ' H' → g x σ' H' fun σ2 H2 => tb { D with nx := Pv (i + 1), ct := Pv (i + 1), bk := D.nx } σ2 H2) (hd : ∀ σ' H', Pv xs.length σ' H' → D.nx σ' H') :
    ((∃ xs, SqL K H a xs) ∧ ∃ W : Nat → Nat → L2.St → Hp → Prop, (∃ m, W 0 m σ H) ∧ ∀ i m σ H, W i m σ H →
      ((Itl K a).stop i H ∧ D.nx σ H) ∨ ((Itl K a).go i H ∧ ∃ N : L2.St → Hp → Prop, (∀ σ' H', N σ' H' → ∃ m', m' < m ∧ W (i + 1) m' σ' H') ∧ ∀ x H', (Itl K a).yld i H x H' → g x σ H' fun σ2 H2 => tb { D with nx := N, ct := N, bk := D.nx } σ2 H2)) ∨
    ((∃ xs, SqT K H a xs) ∧ ∃ W : Nat → Nat → L2.St → Hp → Prop, (∃ m, W 0 m σ H) ∧ ∀ i m σ H, W i m σ H →
      ((Itt K a).stop i H ∧ D.nx σ H) ∨ ((Itt K a).go i H ∧ ∃ N : L2.St → Hp → Prop, (∀ σ' H', N σ' H' → ∃ m', m' < m ∧ W (i + 1) m' σ' H') ∧ ∀ x H', (Itt K a).yld i H x H' → g x σ H' fun σ2 H2 => tb { D with nx := N, ct := N, bk := D.nx } σ2 H2)) := by
  rcases hS with hS | hS
  · exact .inl ⟨⟨xs, hS⟩, for_list Pv h0 (fun i σ' H' _ p => (hk i σ' H' p).same.seq hS) hs hd⟩
  · exact .inr ⟨⟨xs, hS⟩, for_tup Pv h0 (fun i σ' H' _ p => (hk i σ' H' p).sqT hS) hs hd⟩
theorem lc_seq {g : TG} {tt : TT} {te : TE} {vs : List Nat} {σ : L2.St} {H : Hp} {Qd : Addr → Hp → Prop} (hS : SqL K H a xs ∨ SqT K H a xs) (Pv : Nat → Addr → Hp → Prop) (h0 : ∀ D, H D = none → Pv 0 D (upd H D (.lst [])))
    (hk : ∀ i D H', H D = none → Pv i D H' → Mv [] H H')
    (hs : ∀ D, H D = none → ∀ i x H', xs[i]? = some x → Pv i D H' → g x (wipe σ vs) H' fun σ2 H2 => wipe σ2 vs = wipe σ vs ∧ tt σ2 H2 fun b H3 =>
      if b = true then te σ2 H3 fun y H4 => ∃ acc, H4 D = some (.lst acc) ∧ acc.length < sizeLine ∧ Pv (i + 1) D (upd H4 D (.lst (acc ++ [y]))) else Pv (i + 1) D H3) (hd : ∀ D H', H D = none → Pv xs.length D H' → Qd D H') :
    ((∃ xs, SqL K H a xs) ∧ ∀ D, H D = none → ∃ W : Nat → Nat → Hp → Prop, (∃ m, W 0 m (upd H D (.lst []))) ∧ ∀ i m H, W i m H →
      ((Itl K a).stop i H ∧ Qd D H) ∨ ((Itl K a).go i H ∧ ∃ Nx : Hp → Prop, (∀ H', Nx H' → ∃ m', m' < m ∧ W (i + 1) m' H') ∧ ∀ x H', (Itl K a).yld i H x H' → g x (wipe σ vs) H' fun σ2 H2 => wipe σ2 vs = wipe σ vs ∧ tt σ2 H2 fun b H3 =>
        if b = true then te σ2 H3 fun y H4 => ∃ acc, H4 D = some (.lst acc) ∧ acc.length < sizeLine ∧ Nx (upd H4 D (.lst (acc ++ [y]))) else Nx H3)) ∨
    ((∃ xs, SqT K H a xs) ∧ ∀ D, H D = none → ∃ W : Nat → Nat → Hp → Prop, (∃ m, W 0 m (upd H D (.lst []))) ∧ ∀ i m H, W i m H →
      ((Itt K a).stop i H ∧ Qd D H) ∨ ((Itt K a).go i H ∧ ∃ Nx : Hp → Prop, (∀ H', Nx H' → ∃ m', m' < m ∧ W (i + 1) m' H') ∧ ∀ x H', (Itt K a).yld i H x H' → g x (wipe σ vs) H' fun σ2 H2 => wipe σ2 vs = wipe σ vs ∧ tt σ2 H2 fun b H3 =>
        if b = true then te σ2 H3 fun y H4 => ∃ acc, H4 D = some (.lst acc) ∧ acc.length < sizeLine ∧ Nx (upd H4 D (.lst (acc ++ [y]))) else Nx H3)) := by
  rcases hS with hS | hS
  · exact .inl ⟨⟨xs, hS⟩, fun D nD => lc_list (Pv · D) (h0 D nD) (fun i H' _ p => (hk i D H' nD p).same.seq hS) (hs D nD) (fun H' p => hd D H' nD p)⟩
  · exact .inr ⟨⟨xs, hS⟩, fun D nD => lc_tup (Pv · D) (h0 D nD) (fun i H' _ p => (hk i D H' nD p).sqT hS) (hs D nD) (fun H' p => hd D H' nD p)⟩
end
end Fm
namespace Fm
open PySem PySem.Spec PyProof.Rows L2 HT
/-! t[:0:-1] of a tuple -/
section
variable {prog : Program} {w : World} {A : Around} {E : Value → Shared → Prop} {s : Shared}
theorem back_adjust (n : Nat) : Builtin.Slice.sliceAdjust none (some 0) (-1) (n : Int) = ((n : Int) - 1, min 0 ((n : Int) - 1)) := by
  unfold Builtin.Slice.sliceAdjust
  simp only [show ((-1 : Int) < 0) from by decide, if_true, show ¬ ((0 : Int) < 0) from by decide, if_false]
theorem back_places (n : Nat) : Builtin.Slice.slicePlaces ((n : Int) - 1) (min 0 ((n : Int) - 1)) (-1) = n - 1 := by
  unfold Builtin.Slice.slicePlaces
  simp only [show ¬ ((-1 : Int) > 0) from by decide, if_false, show (- -1 : Int) = 1 from by decide, Int.ediv_one]
  split <;> omega
theorem back_applied {sl : Addr} {vu vs : Value} {n : Nat} {Q : Int × Int × Nat → Shared → Prop} (hs : s.heap.IsSliceOf sl .none vu vs) (pu : IsPart vu (some 0)) (ps : IsPart vs (some (-1)))
    (h : Q ((n : Int) - 1, -1, n - 1) s) : wpAny (model prog w) A (Builtin.Slice.sliceApplied (.ref sl) (pure (n : Int))) Q E s := by
  obtain ⟨os, hos, hcs, hds⟩ := id hs
  unfold Builtin.Slice.sliceApplied Builtin.Slice.sliceFields
  refine wpAny_bind (wpAny_bind (wpAny_field hos hds (x := .none) rfl (wpAny_bind (wpAny_field hos hds (x := vu) rfl (wpAny_bind (wpAny_field hos hds (x := vs) rfl (wpAny_pure ?_)))))))
  refine wpAny_bind (slicePart_ ps ?_)
  show wpAny _ _ (if ((-1 : Int) == 0) = true then _ else _) _ _ s
  rw [if_neg (by decide)]
  refine wpAny_bind (slicePart_none (wpAny_bind (slicePart_ pu (wpAny_bind (wpAny_pure ?_)))))
  show wpAny _ _ (match Builtin.Slice.sliceAdjust none (some 0) (-1) (n : Int) with | (lo, hi) => pure (lo, (-1 : Int), Builtin.Slice.slicePlaces lo hi (-1))) _ _ s
  rw [back_adjust n]
  show wpAny _ _ (pure ((n : Int) - 1, (-1 : Int), Builtin.Slice.slicePlaces ((n : Int) - 1) (min 0 ((n : Int) - 1)) (-1))) _ _ s
  rw [back_places]
  exact wpAny_pure h
theorem fm_congr {α β : Type} {f g : α → Option β} : ∀ {l : List α}, (∀ m ∈ l, f m = g m) → l.filterMap f = l.filterMap g
  | [], _ => rfl
  | x :: l, h => by
    rw [List.filterMap_cons, List.filterMap_cons, h x List.mem_cons_self, fm_congr fun m hm => h m (List.mem_cons_of_mem _ hm)]
theorem back_pick (y : Value) (l : List Value) : ((List.range l.length).filterMap fun (m : Nat) => (y :: l).toArray[((((y :: l).toArray.size : Nat) : Int) - 1 + (m : Int) * (-1)).toNat]?).toArray = l.reverse.toArray := by
  congr 1
  have e : ∀ m ∈ List.range l.length, (y :: l).toArray[((((y :: l).toArray.size : Nat) : Int) - 1 + (m : Int) * (-1)).toNat]? = l[l.length - 1 - m]? := by
    intro m hm
    have hm := List.mem_range.mp hm
    have e1 : ((((y :: l).toArray.size : Nat) : Int) - 1 + (m : Int) * (-1)).toNat = (l.length - 1 - m) + 1 := by
      simp only [List.size_toArray, List.length_cons]
      omega
    rw [e1]
    simp
  rw [fm_congr e]
  apply List.ext_getElem?
  intro i
  have e2 : (List.range l.length).filterMap (fun m => l[l.length - 1 - m]?) = (List.range l.length).filterMap (fun m => l.reverse[m]?) := by
    apply fm_congr
    intro m hm
    have hm := List.mem_range.mp hm
    rw [List.getElem?_reverse hm]
  rw [e2]
  have e3 : (List.range l.length).filterMap (fun m => l.reverse[m]?) = l.reverse := by
    have := PySem.W.krv_all l.reverse.toArray
    simpa using this
  rw [e3]
theorem getItem_back {t sl : Addr} {y : Value} {l : List Value} {vu vs : Value} {Q : Value → Shared → Prop} (ht : IsTup s.heap t (y :: l).toArray) (hs : s.heap.IsSliceOf sl .none vu vs) (pu : IsPart vu (some 0)) (ps : IsPart vs (some (-1)))
    (hz : l.length ≤ sizeLine) (h : Q (.ref s.heap.objs.size) { s with heap := s.heap.push { cls := .type "tuple", data := .seq l.reverse.toArray } }) : wpAny (model prog w) A (getItem (.ref t) (.ref sl)) Q E s := by
  obtain ⟨os, hos, hcs, hds⟩ := id hs
  have hTs : s.TypeIs (.ref sl) "slice" := ⟨os, hos, hcs⟩
  have hfit : sizeOk (.seq l.reverse.toArray) := by
    show l.reverse.toArray.size ≤ sizeLine
    rw [List.size_toArray, List.length_reverse]
    exact hz
  unfold getItem
  try with_reducible refine wpAny_holding ?_
  first | refine wpAny_bind (wpAny_pure ?_) | skip
  refine wpAny_bind (wpAny_sequenceKey ht.typeIs (by decide) ?_)
  refine wpAny_bind (wpAny_callSpecial?_slot (name := Str.ofString "__getitem__") ht.typeIs PyProof.Rows.slot_tuple_getitem
    (wpAny_call_entry PyProof.Rows.slot_tuple_getitem ht.typeIs entry_tuple_getitem ?_ (args_tuple_getitem _ _)))
  show wpAny _ _ (Builtin.Tuple.tupleItemsOf (.ref t) >>= _) _ _ s
  refine wpAny_bind (tupleItemsOf_ ht (wpAny_bind (wpAny_typeOf hTs ?_)))
  rw [if_pos (by decide)]
  refine wpAny_bind (back_applied hs pu ps ?_)
  have hno : ¬ (((((y :: l).toArray.size : Nat) : Int) - 1 == 0 && (-1 : Int) == 1 && ((y :: l).toArray.size - 1) == (y :: l).toArray.size) = true) := by
    simp
  show wpAny _ _ (if ((((y :: l).toArray.size : Nat) : Int) - 1 == 0 && (-1 : Int) == 1 && ((y :: l).toArray.size - 1) == (y :: l).toArray.size) = true then _ else _) _ _ s
  rw [if_neg hno]
  have e : (y :: l).toArray.size - 1 = l.length := by simp
  rw [e, back_pick]
  first
    | exact wpAny_bind (m := Builtin.Tuple.tupleExact _) (wpAny_newObj_type (wpAny_pure ⟨_, rfl, wpAny_pure h⟩) hfit)
    | exact wpAny_bind (m := Builtin.Tuple.tupleExact _) (wpAny_newObj_type (wpAny_bind (wpAny_pure (wpAny_pure ⟨_, rfl, wpAny_pure h⟩))) hfit)
    | exact wpAny_bind (wpAny_bind (m := Builtin.Tuple.tupleExact _) (wpAny_newObj_type (wpAny_pure (wpAny_pure ⟨_, rfl, wpAny_pure h⟩)) hfit))
    | exact wpAny_bind (wpAny_bind (m := Builtin.Tuple.tupleExact _) (wpAny_newObj_type (wpAny_pure ⟨_, rfl, wpAny_pure h⟩) hfit))
end
section
variable {X : Cx}
def tBack (K : PySem.W.Frag) (te : TE) : TE := fun σ H Q => te σ H fun x H1 => ∃ a y ys, x = .ref a ∧ SqT K H1 a (y :: ys) ∧ ∀ p, H1 p = none → Q (.ref p) (upd H1 p (.tup ys.reverse))
theorem pe_slice3 {e : Expr} {te : TE} {k k0 : Nat} {p0 p1 p2 p3 pos : Pos} (he : PE X e te) :
    PE X (.Subscript e (.Slice none (some (.Constant (.int 0) k0 p0)) (some (.UnaryOp .USub (.Constant (.int 1) k p1) p2)) p3) pos) (tBack X.K te) := by
  refine ⟨fun pins s σ H Q I h => Subscript_ (thn (he.run pins s σ H _ I h) ?_)⟩
  rintro v s1 ⟨x, H1, I1, r1, a, y, ys, rfl, hx, q⟩
  cases r1
  have hup : PO X (some (.Constant (.int 0) k0 p0)) (tPart (tC (.int 0))) := po_some pe_int
  have hst : PO X (some (.UnaryOp .USub (.Constant (.int 1) k p1) p2)) (tPart (tUn (rU fun i => .int (-i)) (tC (.int 1)))) := po_some (pe_un un_neg pe_int)
  refine wpAny_Slice (thn (po_none.run pins s1 σ H1 (fun o H2 => o = none ∧ H2 = H1) I1 ⟨rfl, rfl⟩) ?_)
  rintro vl s2 ⟨l, H2, I2, pl, rfl, rfl⟩
  refine thn (hup.run pins s2 σ H2 (fun o H3 => o = some 0 ∧ H3 = H2) I2 ⟨0, rfl, rfl, rfl⟩) ?_
  rintro vu s3 ⟨u, H3, I3, pu, rfl, rfl⟩
  refine thn (hst.run pins s3 σ H3 (fun o H4 => o = some (-1) ∧ H4 = H3) I3 ⟨1, rfl, -1, rfl, rfl, rfl⟩) ?_
  rintro vs s4 ⟨o, H4, I4, ps, rfl, rfl⟩
  have I5 : Inv X pins σ H4 { s4 with heap := s4.heap.push { cls := .type "slice", data := .fields #[vl, vu, vs] } } := I4.kept (t' := s4.toks) fun b ob q => Heap.get?_push_of_some _ q
  obtain ⟨its, r, ht, hz⟩ := I5.tuple hx
  cases pl
  cases r with
  | @cons _ uy _ us ry rs =>
    have hl := rs.length
    show wpAny (model X.prog X.w) X.A (subscriptTail e (.Slice none (some (.Constant (.int 0) k0 p0)) (some (.UnaryOp .USub (.Constant (.int 1) k p1) p2)) p3) (.ref a) (.ref s4.heap.objs.size)) (EP X pins σ Q) X.xe { s4 with heap := s4.heap.push { cls := .type "slice", data := .fields #[.none, vu, vs] } }
    refine tail_any (ops := [.ref a, .ref s4.heap.objs.size]) ht.typeIs (PyProof.Rows.slot_tuple_getitem.lookup) ?_ (by with_unfolding_all rfl)
    have hz' : us.length ≤ sizeLine := by
      rw [List.length_cons] at hz
      omega
    refine getItem_back ht (Heap.IsSliceOf.new _ .none vu vs) pu ps hz' ?_
    refine ⟨.ref _, _, I5.laid (t' := s4.toks) (o := .tup ys.reverse) (fun b ob q => Heap.get?_push_of_some _ q) (Nat.le_refl _) ?_, rfl, q _ (I5.hok.fresh (Nat.le_refl _))⟩
    exact ⟨by rw [List.length_reverse]; omega, _, Vals.reverse rs, IsTup.new _ _⟩
end
end Fm
namespace Fm
open PySem PySem.Spec PyProof.Rows L2
/-! set(xs) of a list of ints -/
section
variable {P : Program} {w : World} {A : Around} {E : Value → Shared → Prop} {s : Shared}
/-- the empty set as it is laid -/
abbrev eset (w : World) : Obj := { cls := .type "set", dict := none, data := .set #[] 0 (.fresh 0 0 (!w.params.followText "set-order")) }
abbrev hset (w : World) (h : Heap) : Heap := h.push (eset w)
set_option maxHeartbeats 8000000 in
theorem set_of_list {l : Addr} {its : Array Value} (ns : List Int) {Q : Value → Shared → Prop} (hh : A.handled = none) (hl : s.heap.IsList l its) (hi : IntsAre its.toList ns) (hb : ns.length + 1 < scanBound)
    (h : ∀ (g : Heap) (tk c : Nat), SetR w g s.heap.objs.size (fun j => decide (j ∈ ns)) c → (∀ b o, s.heap.get? b = some o → g.get? b = some o) → Q (.ref s.heap.objs.size) { s with heap := g, toks := tk }) :
    wpAny (model P w) A (call (.type "set") [.ref l]) Q E s := by
  have hn : its.size = ns.length := by rw [← Array.length_toList]; exact IntsAre.length hi
  obtain ⟨mc, mt, mro⟩ := F.called_set.mro
  have mk1 := F.called_set.made
  have mk2 := F.called_set.sub
  refine wpAny_call (codeAny_of_tree (show wpAny _ _ (callAny (.type "set") _) _ _ _ from wpAny_pure ⟨Code.quiet_builtin _ (by decide +kernel), codeAny_builtin F.entry_type_call ?_⟩))
  rw [Around.under_plain (weight_type_call_type "set" [.ref l] []) rfl]
  have mk3 := F.called_set.notType
  have mk4 := F.called_set.canCreate
  have mk5 := F.typeCall_set_1 (.ref l)
  repeat (any_goals (first | assumption | wp_step))
  refine codeAny_mono (code_set_led1 (w := w) (s := s) (.ref l) (E := E)
    (Q₁ := fun obj s₁ => obj = .ref s.heap.objs.size ∧ s₁ = { s with heap := hset w s.heap }) ⟨rfl, rfl⟩) fun r s₁ hr => ?_
  match r, hr with
  | .error e, hr => exact hr
  | .ok (.ret obj), hr =>
    obtain ⟨rfl, rfl⟩ := hr
    have here : (hset w s.heap).get? s.heap.objs.size = some (eset w) := Heap.get?_push_size _ rfl
    have isS : Shared.TypeIs { s with heap := hset w s.heap } (.ref s.heap.objs.size) "set" := ⟨_, here, rfl⟩
    have in1 := F.called_set.init.lookup
    have in2 := F.called_set.init.bind (.ref s.heap.objs.size)
    repeat (any_goals (first | assumption | wp_step))
    have goes : codeAny (model P w) A.in1 (.call (.builtin "set.__init__") ⟨[.ref s.heap.objs.size, .ref l], []⟩) (wants (fun r s₂ => r = .none ∧ ∃ g tk c,
        s₂ = { s with heap := g, toks := tk } ∧ SetR w g s.heap.objs.size (fun j => decide (j ∈ ns)) c ∧ ∀ b o, s.heap.get? b = some o → g.get? b = some o) E) { s with heap := hset w s.heap } := by
      refine codeAny_call_builtin F.called_set.init.plain F.entry_set_init (check_set_init_1 isS ?_)
      obtain ⟨⟨oc, od, dt, sl⟩, hol, hcl, nl, hdl⟩ := id hl
      simp only at hcl hdl
      subst hcl hdl
      have lt := Heap.lt_size hol
      have hol2 : (hset w s.heap).get? l = some _ := Heap.get?_push_of_some _ hol
      have hl2 : (hset w s.heap).IsList l its := ⟨_, hol2, rfl, nl, rfl⟩
      have no1 := F.sub_list_set
      have no2 := F.sub_list_frozenset
      have no3 : (Value.type "list" == Value.type "dict") = false := by decide
      unfold Builtin.«set.__init__» noKeywords Builtin.Frozenset.updateFrom
      generalize hPI : pyIter = PI
      wp_walk
      subst hPI
      refine wpAny_pyIter_list hl2 (wpAny_bind (wpAny_runValue ?_))
      have sz2 : (hset w s.heap).objs.size = s.heap.objs.size + 1 := Heap.size_push ..
      have neI : l ≠ (hset w s.heap).objs.size := by
        rw [sz2]
        exact Nat.ne_of_lt (Nat.lt_succ_of_lt lt)
      have notIn : s.heap.objs.size ∉ [(hset w s.heap).objs.size, l] := by
        rw [sz2]
        intro z
        rcases List.mem_cons.mp z with z | z
        · exact Nat.ne_of_lt (Nat.lt_succ_self _) z
        · exact Nat.ne_of_gt lt (List.mem_singleton.mp z)
      have val : ∀ (i : Nat) (v : Value), its[i]? = some v → ∃ k t, ns[i]? = some k ∧ v = .int k t := fun i v hv => by
        have hi' : i < ns.length := by
          rw [← hn]
          exact (Array.getElem?_eq_some_iff.mp hv).1
        obtain ⟨t, e⟩ := PyProof.Rows.IntsAre.int_at hi i v (by rw [Array.getElem?_toList]; exact hv)
        have e2 : ns.getD i 0 = ns[i] := by rw [List.getD_eq_getElem?_getD, List.getElem?_eq_getElem hi']; rfl
        exact ⟨ns[i], t, List.getElem?_eq_getElem hi', by rw [e, e2]⟩
      have hh3 : A.in1.in1.in1.handled = none := by simp [hh]
      refine set_update_ints ((Walks.list hh3 _ l neI its).toS) s.heap.objs.size notIn ns hn hb val (its.size - 0) 0 _ (by omega) (Nat.zero_le _) ?st ?s0 ?fin
      case st => exact ⟨⟨_, Heap.get?_push_size _ rfl, rfl, rfl⟩, hl2.push _⟩
      case s0 => exact ⟨0, Nat.le_refl 0, setR_new_at (Heap.get?_push_of_some _ here)⟩
      case fin =>
        rintro ⟨g, gg, dd, tk, oo⟩ c' mv hc' hS'
        have e1 : gg = s.gens := mv.gens
        have e2 : dd = s.drawn := mv.drawn
        have e3 : oo = s.os := mv.os
        subst e1 e2 e3
        refine wpAny_pure (show wpAny _ _ (ret Value.none) _ _ _ from wpAny_pure ⟨rfl, g, tk, c', rfl, hS', fun b o e => ?_⟩)
        have b0 := Heap.lt_size e
        refine mv.heap b o (fun z => ?_) (Heap.get?_push_of_some _ (Heap.get?_push_of_some _ e))
        rcases List.mem_cons.mp z with z | z
        · exact Nat.ne_of_lt b0 z
        · have z2 := List.mem_singleton.mp z
          rw [sz2] at z2
          exact Nat.ne_of_lt (Nat.lt_succ_of_lt b0) z2
    refine codeAny_mono goes fun r₂ s₂ hr₂ => ?_
    match r₂, hr₂ with
    | .error e, hr₂ => exact hr₂
    | .ok (.ret r), hr₂ =>
      obtain ⟨rfl, g, tk, c', rfl, hS', hk'⟩ := hr₂
      repeat (any_goals (first | assumption | wp_step))
      exact h _ _ _ hS' hk'
end
section
variable {X : Cx}
/-- set(xs): its numbers; sorted(set) -/
def rSetOfL (K : PySem.W.Frag) (w : World) : List V → Hp → VK → Prop := fun xs H Q => ∃ (l : Addr) (ns : List Int), xs = [V.ref l] ∧ SqL K H l (ns.map V.int) ∧ ns.length ≤ 4000 ∧
  ∀ p (n : Nat) (ks : List Int), H p = none → ks.Nodup → ks.length = n → (∀ k, k ∈ ks ↔ k ∈ ns) → Q (.ref p) (upd H p (SetO w p (fun j => decide (j ∈ ns)) n))
theorem cr_setG (hc : X.calm = true) : CallR X (.type "set") (rSetOfL X.K X.w) := by
  intro pins s σ H xs us Q I r h
  obtain ⟨l, ns, rfl, hl, hb, q⟩ := h
  rw [Vals.ref1 r]
  obtain ⟨its, rv, pl, hz⟩ := I.list hl
  refine set_of_list ns (I.ok.hd hc) pl.isList (by simpa using intsAre_of rv) (Nat.lt_of_le_of_lt (Nat.succ_le_succ hb) (by decide)) fun g tk c R hk => ?_
  obtain ⟨o, es, ep, t, h1, h2, h3, h4, h5, h6, h7, h8, h9, h10⟩ := id R
  refine ⟨.ref _, upd H s.heap.objs.size (SetO X.w s.heap.objs.size (fun j => decide (j ∈ ns)) c), I.laid (t' := tk) hk (Nat.le_refl _) (setO_new R), rfl, ?_⟩
  refine q _ c (es.toList.map keyOf) (I.hok.fresh (Nat.le_refl _)) h5 (by rw [List.length_map, Array.length_toList]; exact h9) fun k => ?_
  rw [← h6 k]
  simp
theorem cr_sortedG (hc : X.calm = true) : CallR X (.builtin "sorted") (fun xs H Q => rSortedSet X.w xs H Q ∨ rSorted X.K xs H Q) := CallR.or (cr_sortedSet hc) cr_sorted
end
end Fm
namespace Fm
open PySem PySem.Spec PyProof.Rows L2
/-! data that can be compared and shown -/
mutual
def fine : PyData → Prop
  | .none => True
  | .bool _ => True
  | .int i => i.natAbs < 10 ^ 40
  | .str x => PyData.strOk x = true
  | .list xs => fineAll xs
  | .tuple xs => fineAll xs
  | .dict _ => False
def fineAll : List PyData → Prop
  | [] => True
  | x :: xs => fine x ∧ fineAll xs
end
mutual
/-- what its text may come to -/
def wl : PyData → Nat
  | .none => 4
  | .bool _ => 5
  | .int _ => 41
  | .str x => 10 * x.length + 2
  | .list xs => wls xs + 2
  | .tuple xs => wls xs + 2
  | .dict _ => 0
def wls : List PyData → Nat
  | [] => 0
  | x :: xs => wl x + 2 + wls xs
end
theorem fineAll_iff : ∀ {xs : List PyData}, fineAll xs ↔ ∀ x ∈ xs, fine x
  | [] => by simp [fineAll]
  | x :: xs => by simp [fineAll, fineAll_iff]
theorem listText_le : ∀ ts : List Str, (listText ts).length ≤ piled ts + 2
  | [] => by rw [listText_nil]; decide
  | t :: r => by
    have h := textFrom_length_pos r 1 (("[" : Str) ++ ("" : String) ++ t) (Nat.succ_pos 0)
    have e : ((("[" : Str) ++ ("" : String) ++ t)).length = 1 + t.length := by
      rw [strLen_append, strLen_append]
      rfl
    have x1 : (listText (t :: r)).length = (textFrom 1 (("[" : Str) ++ ("" : String) ++ t) r).length + 1 := by
      show (textFrom 1 (("[" : Str) ++ ("" : String) ++ t) r ++ "]").length = _
      rw [strLen_append]
      rfl
    rw [x1, h, e, piled_cons]
    omega
theorem tupleText_le (ts : List Str) : (tupleText ts).length ≤ piled ts + 2 := by
  have e3 : (((if ts.length == 1 then ",)" else ")" : String) : Str)).length ≤ 2 := by split <;> decide +kernel
  have e1 : ((("(" : String) : Str)).length = 1 := rfl
  unfold tupleText
  rw [strLen_append, strLen_append, e1]
  cases ts with
  | nil => decide +kernel
  | cons t r =>
    have := join_length_add (t :: r) (by simp)
    omega
mutual
theorem shown_le : ∀ d : PyData, fine d → d.shown.length ≤ wl d
  | .none, _ => by simp only [PyData.shown]; decide
  | .bool b, _ => by cases b <;> (simp only [PyData.shown]; decide)
  | .int i, h => by
    simp only [PyData.shown, wl]
    rw [PySem.ofString_length]
    exact int_text_length_le10 (k := 40) (by decide) h
  | .str x, h => by
    simp only [PyData.shown, wl]
    refine StrLaws.reprText_len x fun c hc => ?_
    have h' : x.cps.all (· < 0x110000) = true := h
    rw [Array.all_eq_true_iff_forall_mem] at h'
    have := h' c (by simpa using hc)
    simp at this
    omega
  | .list xs, h => by
    have := shown_les xs h
    have := listText_le (PyData.shownAll xs)
    simp only [PyData.shown, wl]
    omega
  | .tuple xs, h => by
    have := shown_les xs h
    have := tupleText_le (PyData.shownAll xs)
    simp only [PyData.shown, wl]
    omega
  | .dict _, h => h.elim
theorem shown_les : ∀ xs : List PyData, fineAll xs → piled (PyData.shownAll xs) ≤ wls xs
  | [], _ => by simp [PyData.shownAll, piled, wls]
  | x :: xs, h => by
    have h1 := shown_le x h.1
    have h2 := shown_les xs h.2
    simp only [PyData.shownAll, wls]
    rw [piled_cons]
    omega
end
mutual
theorem fine_lay : ∀ d : PyData, fine d → d.canLay0 = true ∧ d.showable = true ∧ d.hasDict = false
  | .none, _ => by simp [PyData.canLay0, PyData.showable, PyData.hasDict]
  | .bool b, _ => by simp [PyData.canLay0, PyData.showable, PyData.hasDict]
  | .int i, h => by
    refine ⟨by simp [PyData.canLay0], ?_, by simp [PyData.hasDict]⟩
    have h' : i.natAbs < 10 ^ 40 := h
    have h2 : i.natAbs < 2 ^ 200 := Nat.lt_trans h' (by decide)
    simp only [PyData.showable, decide_eq_true_eq]
    exact Nat.lt_trans (PySem.Flt.log2_lt_of (by decide) h2) (by decide)
  | .str x, h => ⟨by simp only [PyData.canLay0]; exact h, by simp [PyData.showable], by simp [PyData.hasDict]⟩
  | .list xs, h => by simpa [PyData.canLay0, PyData.showable, PyData.hasDict] using fine_lays xs h
  | .tuple xs, h => by simpa [PyData.canLay0, PyData.showable, PyData.hasDict] using fine_lays xs h
  | .dict _, h => h.elim
theorem fine_lays : ∀ xs : List PyData, fineAll xs → PyData.canLayAll0 xs = true ∧ PyData.showableAll xs = true ∧ PyData.hasDictAll xs = false
  | [], _ => by simp [PyData.canLayAll0, PyData.showableAll, PyData.hasDictAll]
  | x :: xs, h => by
    obtain ⟨a, b, c⟩ := fine_lay x h.1
    obtain ⟨a', b', c'⟩ := fine_lays xs h.2
    simp [PyData.canLayAll0, PyData.showableAll, PyData.hasDictAll, a, b, c, a', b', c']
end
structure Shw (d : PyData) : Prop where
  fi : fine d
  dp : d.depth ≤ 60
  wl : wl d ≤ 16000000
theorem Shw.shaped {d : PyData} (h : Shw d) : SeqAt.shaped d = true := by
  show (d.canLay0 && decide (d.depth ≤ 64)) = true
  have := h.dp
  rw [(fine_lay d h.fi).1, decide_eq_true (by omega)]
  rfl
theorem Shw.len {d : PyData} (h : Shw d) : d.shown.length ≤ sizeLine := by
  have := shown_le d h.fi
  have := h.wl
  have e : sizeLine = 16777216 := rfl
  omega
theorem Shw.eqv {d : PyData} (h : Shw d) : PyData.eqv d d = true := SeqAt.eqv_refl d (fine_lay d h.fi).1
theorem eqv_nil (xs : List PyData) : PyData.eqv (.list xs) (.list []) = xs.isEmpty := by
  cases xs <;> simp [PyData.eqv, PyData.eqvAll]
/-! of terms -/
theorem nm_ok {x : Str} (h : Nm x) : PyData.strOk x = true := by
  show x.cps.all (· < 0x110000) = true
  rw [Array.all_eq_true_iff_forall_mem]
  intro c hc
  have := h.2.2 c (by simpa using hc)
  simp
  omega
mutual
theorem fine_d {P : Int → Prop} (h : ∀ i, P i → i.natAbs < 10 ^ 40) : ∀ t : Tm, t.ok P → fine t.d
  | .var i, k => h i k
  | .op x ts, k => by
    simp only [Tm.d, fine, fineAll]
    exact ⟨nm_ok k.1, fine_ds h ts k.2.2⟩
theorem fine_ds {P : Int → Prop} (h : ∀ i, P i → i.natAbs < 10 ^ 40) : ∀ ts : List Tm, Tm.oks P ts → fineAll (Tm.ds ts)
  | [], _ => trivial
  | t :: ts, k => ⟨fine_d h t k.1, fine_ds h ts k.2⟩
end
mutual
theorem depth_d : ∀ t : Tm, t.d.depth = t.dep
  | .var _ => by simp [Tm.d, PyData.depth, Tm.dep]
  | .op _ ts => by simp [Tm.d, PyData.depth, PyData.depthAll, Tm.dep, depth_ds ts]
theorem depth_ds : ∀ ts : List Tm, PyData.depthAll (Tm.ds ts) = Tm.deps ts
  | [] => by simp [Tm.ds, PyData.depthAll, Tm.deps]
  | t :: ts => by simp [Tm.ds, PyData.depthAll, Tm.deps, depth_d t, depth_ds ts]
end
mutual
theorem wl_d {P : Int → Prop} : ∀ t : Tm, t.ok P → wl t.d ≤ t.cst + 41 * t.lv
  | .var _, _ => by simp [Tm.d, wl, Tm.cst, Tm.lv]
  | .op x ts, k => by
    have h1 := wl_ds ts k.2.2
    have h2 := k.1.2.1
    simp only [Tm.d, wl, wls, Tm.cst, Tm.lv]
    omega
theorem wl_ds {P : Int → Prop} : ∀ ts : List Tm, Tm.oks P ts → wls (Tm.ds ts) ≤ Tm.csts ts + 41 * Tm.lvs ts
  | [], _ => by simp [Tm.ds, wls]
  | t :: ts, k => by
    have h1 := wl_d t k.1
    have h2 := wl_ds ts k.2
    simp only [Tm.ds, wls, Tm.csts, Tm.lvs]
    omega
end
end Fm
namespace Fm
open PySem PySem.Spec PyProof.Rows L2
/-! terms whose texts are alike are alike -/
mutual
theorem eqv_d : ∀ t u : Tm, PyData.eqv t.d u.d = true → t = u
  | .var i, .var j, h => by
    simp [Tm.d, PyData.eqv] at h
    rw [h]
  | .var i, .op y us, h => by simp [Tm.d, PyData.eqv] at h
  | .op x ts, .var j, h => by simp [Tm.d, PyData.eqv] at h
  | .op x ts, .op y us, h => by
    simp only [Tm.d, PyData.eqv, PyData.eqvAll, Bool.and_eq_true, beq_iff_eq] at h
    rw [h.1, eqv_ds ts us h.2]
theorem eqv_ds : ∀ ts us : List Tm, PyData.eqvAll (Tm.ds ts) (Tm.ds us) = true → ts = us
  | [], [], _ => rfl
  | [], u :: us, h => by simp [Tm.ds, PyData.eqvAll] at h
  | t :: ts, [], h => by simp [Tm.ds, PyData.eqvAll] at h
  | t :: ts, u :: us, h => by
    simp only [Tm.ds, PyData.eqvAll, Bool.and_eq_true] at h
    rw [eqv_d t u h.1, eqv_ds ts us h.2]
end
theorem eqv_none (t : Tm) : PyData.eqv t.d .none = false := by cases t <;> simp [Tm.d, PyData.eqv]
mutual
/-- the signs of a term's text -/
def Tm.sg : Tm → List Nat
  | .var i => (((toString i : String) : Str)).cps.toList
  | .op x [] => [40, 39] ++ x.cps.toList ++ [39, 44, 41]
  | .op x (t :: ts) => [40, 39] ++ x.cps.toList ++ [39, 44] ++ ([32] ++ t.sg ++ Tm.sgs ts)
def Tm.sgs : List Tm → List Nat
  | [] => [41]
  | t :: ts => [44, 32] ++ t.sg ++ Tm.sgs ts
end
theorem cps_append (x y : Str) : (x ++ y).cps.toList = x.cps.toList ++ y.cps.toList := by
  show (x.cps ++ y.cps).toList = _
  simp
theorem letter_sg {c : Nat} (h : 97 ≤ c ∧ c ≤ 122) : Builtin.Str.reprChar 39 c = [c] := by
  have : ∀ c : Fin 123, 97 ≤ c.val → Builtin.Str.reprChar 39 c.val = [c.val] := by decide +kernel
  exact this ⟨c, by omega⟩ h.1
theorem letters_sg : ∀ (l : List Nat) (acc : Array Nat), (∀ c ∈ l, 97 ≤ c ∧ c ≤ 122) → l.foldl (fun out c => out ++ (Builtin.Str.reprChar 39 c).toArray) acc = acc ++ l.toArray
  | [], acc, _ => by simp
  | c :: l, acc, h => by
    rw [List.foldl_cons, letter_sg (h c (by simp)), letters_sg l _ fun c hc => h c (by simp [hc])]
    simp
theorem name_sg {x : Str} (h : Nm x) : (reprText x).cps.toList = [39] ++ x.cps.toList ++ [39] := by
  have hc := h.2.2
  have n39 : x.cps.contains 39 = false := by
    rw [Bool.eq_false_iff]
    intro z
    have z' : 39 ∈ x.cps.toList := by simpa using z
    have := hc 39 z'
    omega
  have hq : reprQuote x = 39 := by
    unfold reprQuote
    rw [n39]
    rfl
  unfold reprText
  rw [hq, ← Array.foldl_toList, letters_sg _ _ hc]
  simp
mutual
theorem sg_d {P : Int → Prop} : ∀ t : Tm, t.ok P → t.d.shown.cps.toList = t.sg
  | .var i, _ => by simp only [Tm.d, PyData.shown_int, Tm.sg]
  | .op x [], h => by
    simp only [Tm.d, Tm.ds, PyData.shown_tuple, PyData.shownAll, PyData.shown_str, cps_append, Str.join, Tm.sg, name_sg h.1]
    have e5 : (Str.ofString (if ([PyData.str x].length == 1) = true then ",)" else ")")).cps.toList = [44, 41] := by
      rw [show ([PyData.str x].length == 1) = true from rfl]
      decide +kernel
    have e6 : (("(" : String) : Str).cps.toList = [40] := by decide +kernel
    rw [e5, e6]
    simp
  | .op x (t :: ts), h => by
    have e1 := sg_d t h.2.2.1
    have e2 := sgs_d ts h.2.2.2
    simp only [Tm.d, Tm.ds, PyData.shown_tuple, PyData.shownAll, PyData.shown_str, cps_append, Tm.sg]
    rw [show Str.join ", " (reprText x :: t.d.shown :: PyData.shownAll (Tm.ds ts)) = reprText x ++ ", " ++ Str.join ", " (t.d.shown :: PyData.shownAll (Tm.ds ts)) from rfl, cps_append, cps_append, name_sg h.1]
    have e3 : (List.length (PyData.str x :: t.d :: Tm.ds ts) == 1) = false := by simp
    rw [e3]
    have e4 : (Str.join ", " (t.d.shown :: PyData.shownAll (Tm.ds ts))).cps.toList ++ [41] = t.sg ++ Tm.sgs ts := by rw [e2, e1]
    have e5 : ((if false = true then ",)" else ")" : String) : Str).cps.toList = [41] := by decide +kernel
    have e6 : (("(" : String) : Str).cps.toList = [40] := by decide +kernel
    have e7 : ((", " : String) : Str).cps.toList = [44, 32] := by decide +kernel
    rw [e5, e6, e7, List.append_assoc, List.append_assoc _ _ [41], e4]
    simp
theorem sgs_d {P : Int → Prop} : ∀ ts : List Tm, Tm.oks P ts → ∀ y : Str, (Str.join ", " (y :: PyData.shownAll (Tm.ds ts))).cps.toList ++ [41] = y.cps.toList ++ Tm.sgs ts
  | [], _, y => by simp only [Tm.ds, PyData.shownAll, Str.join, Tm.sgs]
  | t :: ts, h, y => by
    have e1 := sg_d t h.1
    have e2 := sgs_d ts h.2
    have e7 : ((", " : String) : Str).cps.toList = [44, 32] := by decide +kernel
    simp only [Tm.ds, PyData.shownAll, Tm.sgs]
    rw [show Str.join ", " (y :: t.d.shown :: PyData.shownAll (Tm.ds ts)) = y ++ ", " ++ Str.join ", " (t.d.shown :: PyData.shownAll (Tm.ds ts)) from rfl, cps_append, cps_append, List.append_assoc, e2, e1, e7]
    simp
end
theorem names_parted : ∀ (x y r s : List Nat), (∀ c ∈ x, 97 ≤ c ∧ c ≤ 122) → (∀ c ∈ y, 97 ≤ c ∧ c ≤ 122) → x ++ 39 :: r = y ++ 39 :: s → x = y ∧ r = s
  | [], [], r, s, _, _, h => ⟨rfl, by simpa using h⟩
  | [], c :: y, r, s, _, hy, h => by
    have e : 39 = c := (List.cons.inj h).1
    have := hy c (by simp)
    omega
  | c :: x, [], r, s, hx, _, h => by
    have e : c = 39 := (List.cons.inj h).1
    have := hx c (by simp)
    omega
  | c :: x, e :: y, r, s, hx, hy, h => by
    obtain ⟨h1, h2⟩ := List.cons.inj h
    obtain ⟨h3, h4⟩ := names_parted x y r s (fun c hc => hx c (by simp [hc])) (fun c hc => hy c (by simp [hc])) h2
    exact ⟨by rw [h1, h3], h4⟩
/-- figures -/
def fig (i : Int) : Prop := 0 ≤ i ∧ i < 10
theorem fig_sg {i : Int} (h : fig i) : (Tm.var i).sg = [48 + i.toNat] := by
  obtain ⟨j, rfl⟩ := Int.eq_ofNat_of_zero_le h.1
  have h2 : j < 10 := by have := h.2; omega
  have : ∀ j : Fin 10, (((toString ((j.val : Nat) : Int) : String) : Str)).cps.toList = [48 + j.val] := by decide +kernel
  simp only [Tm.sg, Int.toNat_natCast]
  exact this ⟨j, h2⟩
theorem op_sg (x : Str) (ts : List Tm) : ∃ r, (Tm.op x ts).sg = 40 :: r := by cases ts <;> exact ⟨_, by simp only [Tm.sg]; rfl⟩
theorem op_eq {x y : Str} {us : List Tm} (h1 : x.cps.toList = y.cps.toList) : Tm.op x us = Tm.op y us := by
  have : x = y := by
    cases x; cases y
    congr
    exact Array.toList_inj.mp h1
  rw [this]
mutual
theorem sg_inj : ∀ (t u : Tm) (r s : List Nat), t.ok fig → u.ok fig → t.sg ++ r = u.sg ++ s → t = u ∧ r = s
  | .var i, .var j, r, s, ht, hu, h => by
    rw [fig_sg ht, fig_sg hu] at h
    obtain ⟨h1, h2⟩ := List.cons.inj h
    have a1 := ht.1
    have a2 := hu.1
    exact ⟨by rw [show i = j by omega], h2⟩
  | .var i, .op y us, r, s, ht, hu, h => by
    obtain ⟨z, e⟩ := op_sg y us
    rw [fig_sg ht, e] at h
    have := (List.cons.inj h).1
    omega
  | .op x ts, .var j, r, s, ht, hu, h => by
    obtain ⟨z, e⟩ := op_sg x ts
    rw [fig_sg hu, e] at h
    have := (List.cons.inj h).1
    omega
  | .op x [], .op y [], r, s, ht, hu, h => by
    simp only [Tm.sg, List.append_assoc, List.cons_append, List.nil_append, List.cons.injEq, true_and] at h
    obtain ⟨h1, h2⟩ := names_parted _ _ _ _ ht.1.2.2 hu.1.2.2 h
    exact ⟨op_eq h1, by simpa using h2⟩
  | .op x [], .op y (u :: us), r, s, ht, hu, h => by
    simp only [Tm.sg, List.append_assoc, List.cons_append, List.nil_append, List.cons.injEq, true_and] at h
    obtain ⟨h1, h2⟩ := names_parted _ _ _ _ ht.1.2.2 hu.1.2.2 h
    simp at h2
  | .op x (t :: ts), .op y [], r, s, ht, hu, h => by
    simp only [Tm.sg, List.append_assoc, List.cons_append, List.nil_append, List.cons.injEq, true_and] at h
    obtain ⟨h1, h2⟩ := names_parted _ _ _ _ ht.1.2.2 hu.1.2.2 h
    simp at h2
  | .op x (t :: ts), .op y (u :: us), r, s, ht, hu, h => by
    simp only [Tm.sg, List.append_assoc, List.cons_append, List.nil_append, List.cons.injEq, true_and] at h
    obtain ⟨h1, h2⟩ := names_parted _ _ _ _ ht.1.2.2 hu.1.2.2 h
    simp only [List.cons.injEq, true_and] at h2
    obtain ⟨h3, h4⟩ := sg_inj t u _ _ ht.2.2.1 hu.2.2.1 h2
    obtain ⟨h5, h6⟩ := sgs_inj ts us _ _ ht.2.2.2 hu.2.2.2 h4
    rw [h3, h5]
    exact ⟨op_eq h1, h6⟩
theorem sgs_inj : ∀ (ts us : List Tm) (r s : List Nat), Tm.oks fig ts → Tm.oks fig us → Tm.sgs ts ++ r = Tm.sgs us ++ s → ts = us ∧ r = s
  | [], [], r, s, _, _, h => ⟨rfl, by simpa [Tm.sgs] using h⟩
  | [], u :: us, r, s, _, _, h => by simp [Tm.sgs] at h
  | t :: ts, [], r, s, _, _, h => by simp [Tm.sgs] at h
  | t :: ts, u :: us, r, s, ht, hu, h => by
    simp only [Tm.sgs, List.append_assoc, List.cons_append, List.nil_append, List.cons.injEq, true_and] at h
    obtain ⟨h3, h4⟩ := sg_inj t u _ _ ht.1 hu.1 h
    obtain ⟨h5, h6⟩ := sgs_inj ts us _ _ ht.2 hu.2 h4
    rw [h3, h5]
    exact ⟨rfl, h6⟩
end
theorem shown_inj {t u : Tm} (ht : t.ok fig) (hu : u.ok fig) (h : t.d.shown = u.d.shown) : t = u := by
  have e : t.sg ++ [] = u.sg ++ [] := by rw [← sg_d t ht, ← sg_d u hu, h]
  exact (sg_inj t u [] [] ht hu e).1
end Fm
namespace Fm
open PySem PySem.Spec PyProof.Rows L2
/-! the end: a law whose def asks for reprs -/
section
variable {P : Program} {w : World} {K : PySem.W.Frag} {mg mb : Str → Option Value} {k : Nat} {fa a : Addr} {fd : FuncData} {x : Str} {sp : Sp} {s : Shared} {vs : List Value} {ns : List Int}
/-- from a heap that knows nothing but, perhaps, the script -/
theorem from_heap (KX : K.In s.heap) (hg0 : s.heap.Ns mainGlobals mg) (hb : s.heap.Ns builtinsNs mb) (hbb : ∀ y : Str, y ≠ "__name__" → mb y = bootBuiltins y) (hlim : s.heap.NoLimit) (hg : s.gens = #[])
    (ha : s.heap.get? a = some { cls := .type "list", data := .seq vs.toArray }) (hr : Room k callerA) (F : ∀ base : Heap, K.In base → base.Ns mainGlobals mg → FnOkG P w K mg base CX0 k fa fd [x] sp)
    (hbind : ∀ (t : Shared) (u : Value), BindsTo t fd ⟨[u], []⟩ [(x, u)]) (H : Hp) (hO : Only H) (hok : HOk P w H s.heap) (hA : ∀ b, H b ≠ none → b = a) (hK : H a ≠ none → K.lookup a = none)
    (hsp : sp [.ref a] H (fun v _ => v = .bl true) fun _ _ _ => False) :
    codeAny (model P w) callerA (.call (.ref fa) ⟨[.ref a], []⟩) (fun r t => r = .ok (.ret (.bool true)) ∧ OldK s.heap t.heap ∧ t.os = s.os ∧ AllBare t.gens) s := by
  have free : ∀ {b : Addr} {o : Obj} {es : Array DictEntry} {ep : Nat}, s.heap.get? b = some o → o.data = .dict es ep → H b = none := by
    intro b o es ep e d
    cases q : H b with
    | none => rfl
    | some u =>
      have z := hA b (by rw [q]; exact Option.some_ne_none u)
      rw [z, ha] at e
      cases e
      exact nomatch d
  have ns : ∀ {b : Addr} {m : Str → Option Value}, s.heap.Ns b m → (hidT s.heap H).Ns b m := by
    rintro b m ⟨o, es, ep, e, d, r⟩
    exact ⟨o, es, ep, hidT_get e (free e d), d, r⟩
  have kin : K.In (hidT s.heap H) := by
    intro b o e
    refine hidT_get (KX b o e) ?_
    cases q : H b with
    | none => rfl
    | some u =>
      have z := hA b (by rw [q]; exact Option.some_ne_none u)
      rw [z] at q e
      rw [hK (by rw [q]; exact Option.some_ne_none u)] at e
      cases e
  have lim : (hidT s.heap H).NoLimit := by
    obtain ⟨mc, l1, l2⟩ := hlim
    exact ⟨mc, ns l1, l2⟩
  have env : Env0 P w K mg (hidT s.heap H) callerA [] s H :=
    ⟨rfl, ⟨kin, ns hg0, ⟨mb, ns hb, hbb⟩, lim⟩, fun b o e => of_hidT e, Nat.le_of_eq (hidT_size _ _), trivial, (fun b z => absurd (show b ∈ ([] : List Addr) from z) List.not_mem_nil), hok, .of_eq hg⟩
  have run := (F _ kin (ns hg0)).run callerA [] s H ⟨[.ref a], []⟩ [.ref a] [.ref a] _ _ rfl hr env (hbind s (.ref a)) (.cons rfl .nil) hsp
  refine codeAny_mono run fun r t h => ?_
  match r, h with
  | .error e, h => exact False.elim h
  | .ok (.ret u), h =>
    obtain ⟨v, H', os, bare, un, hok', r', q⟩ := h
    have q' : v = .bl true := q
    rw [q'] at r'
    obtain rfl : u = Value.bool true := r'
    refine ⟨rfl, OldK.of_keep fun b o e => ?_, os, bare⟩
    rcases hO b with z | ⟨ob, xs, z⟩
    · exact un.keep b o e z (fun y => absurd (show b ∈ ([] : List Addr) from y) List.not_mem_nil) (fun y => nomatch y)
    · obtain ⟨e1, _⟩ := hok b _ z
      obtain ⟨e2, _⟩ := hok' b _ (un.frzs b ob _ z)
      rw [e1] at e
      cases e
      exact e2
theorem law_callG (KX : K.In s.heap) (hg0 : s.heap.Ns mainGlobals mg) (hb : s.heap.Ns builtinsNs mb) (hbb : ∀ y : Str, y ≠ "__name__" → mb y = bootBuiltins y) (hlim : s.heap.NoLimit) (hg : s.gens = #[])
    (ha : s.heap.get? a = some { cls := .type "list", data := .seq vs.toArray }) (hi : IntsAre vs ns) (hl : ns.length ≤ sizeLine) (hr : Room k callerA)
    (F : ∀ base : Heap, K.In base → base.Ns mainGlobals mg → FnOkG P w K mg base CX0 k fa fd [x] sp) (hbind : ∀ (t : Shared) (u : Value), BindsTo t fd ⟨[u], []⟩ [(x, u)])
    (hsp : ∀ H : Hp, SqL K H a (ns.map V.int) → sp [.ref a] H (fun v _ => v = .bl true) fun _ _ _ => False) :
    codeAny (model P w) callerA (.call (.ref fa) ⟨[.ref a], []⟩) (fun r t => r = .ok (.ret (.bool true)) ∧ OldK s.heap t.heap ∧ t.os = s.os ∧ AllBare t.gens) s := by
  have rv := vals_ints hi
  have hlen : (ns.map V.int).length ≤ sizeLine := by
    rw [List.length_map]
    exact hl
  cases hk : K.lookup a with
  | some o =>
    have e := KX a o hk
    rw [ha] at e
    cases e
    refine from_heap KX hg0 hb hbb hlim hg ha hr F hbind (fun _ => none) (fun _ => .inl rfl) (fun b u z => nomatch z) (fun b z => absurd rfl z) (fun z => absurd rfl z) (hsp _ ?_)
    exact .inr ⟨_, vs.toArray, _, hk, rfl, rfl, rfl, by rw [List.size_toArray, hi.length]; exact hl, by simpa using rv⟩
  | none =>
    have at_ : ∀ b, (if b = a then some (HO.frz { cls := .type "list", data := .seq vs.toArray } (.lst (ns.map V.int))) else none) ≠ none → b = a := by
      intro b z
      by_cases e : b = a
      · exact e
      · rw [if_neg e] at z
        exact absurd rfl z
    refine from_heap KX hg0 hb hbb hlim hg ha hr F hbind (fun b => if b = a then some (.frz { cls := .type "list", data := .seq vs.toArray } (.lst (ns.map V.int))) else none) (fun b => ?_) (fun b u z => ?_) at_ (fun _ => hk)
      (hsp _ (.inl (.inr ⟨_, if_pos rfl⟩)))
    · by_cases e : b = a
      · exact .inr ⟨_, _, if_pos e⟩
      · exact .inl (if_neg e)
    · have e : b = a := at_ b (by
        have z' : (if b = a then some (HO.frz { cls := .type "list", data := .seq vs.toArray } (.lst (ns.map V.int))) else none) = some u := z
        rw [z']
        exact Option.some_ne_none u)
      subst e
      have z' := (if_pos rfl).symm.trans z
      cases z'
      exact ⟨ha, hlen, vs, _, rv, ha⟩
end
theorem walk_G {l : PySem.W.OpenLaw} {n k : Nat} {q : Program} {loose : List Str} {XP : (Str → Option Value) → Heap → Prop} {YP : World → Heap → Prop} {d : DefRec} {K : Params → PySem.W.Frag} {sp : PySem.W.Frag → Sp} {x : Str}
    (hn : l.most = some n) (hn2 : n ≤ sizeLine) (hdf : d.params.defaults = []) (hr : Room k callerA) (hY : ∀ (w : World) (h : Heap), YP w h → (K w.params).In h)
    (F : ∀ (w : World) (mg : Str → Option Value) (fa : Addr) (h : Heap), (K w.params).In h → h.Ns mainGlobals mg → mg d.name = some (.ref fa) →
      ∃ fd : FuncData, (∀ (t : Shared) (u : Value), BindsTo t fd ⟨[u], []⟩ [(x, u)]) ∧ ∀ base : Heap, (K w.params).In base → base.Ns mainGlobals mg → FnOkG l.prog w (K w.params) mg base CX0 k fa fd [x] (sp (K w.params)))
    (hsp : ∀ (K : PySem.W.Frag) (H : Hp) (a : Addr) (ns : List Int), ns.length ≤ n → SqL K H a (ns.map V.int) → sp K [.ref a] H (fun v _ => v = .bl true) fun _ _ _ => False) :
    PySem.W.WalkO q loose XP YP l.row.toRowW d [] (fun f vs => PySem.call f vs) := by
  refine Att.attach_call hn hdf fun w s₀ s₁ mg mb fa o pm cd doc a vs ns G Y ho hd hcd hmg hobj hints hlen hgens => ?_
  obtain ⟨fd, hb, hF⟩ := F w mg fa _ (hY w _ Y) G.T.g hmg
  exact law_callG (hY w _ Y) G.T.g G.T.b G.T.builtins G.T.nolimit hgens hobj hints (Nat.le_trans hlen hn2) hr hF hb fun H hS => hsp _ H a ns hlen hS
end Fm
namespace Fm
open PySem PySem.Spec PyProof.Rows L2
structure DefAt (K : PySem.W.Frag) (mg : Str → Option Value) (x : Str) (st : Stmt) (ps : List Str) where
  f : Addr
  fd : FuncData
  F : Fun K x x st f fd
  g : mg x = some (.ref f)
  b : Binds K fd ps []
def topS (i : Nat) : Stmt := PySem.Challenge.pw_framemoves_k13_whole_terms_built.main.body.getD i (.Pass ⟨0, 0, 0, 0⟩)
abbrev s_built : Stmt := topS 1
abbrev N_built : List Str := ["term", "values", "keep", "index", "found", "part"]
abbrev P_built : List Str := ["term", "values", "keep"]
theorem sc_built : FnScope N_built P_built (defScope s_built) := ⟨rfl, rfl, rfl, by decide +kernel, rfl, by decide +kernel, by decide +kernel⟩
abbrev s__law_bag : Stmt := topS 3
abbrev N__law_bag : List Str := ["_law_script", "_law_cell"]
abbrev P__law_bag : List Str := ["_law_script"]
theorem sc__law_bag : FnScope N__law_bag P__law_bag (defScope s__law_bag) := ⟨rfl, rfl, rfl, by decide +kernel, rfl, by decide +kernel, by decide +kernel⟩
abbrev s__law_take : Stmt := topS 4
abbrev N__law_take : List Str := ["_law_bag_here", "_law_many", "_law_cell", "_law_mixed_here", "_law_value", "_law_begin", "_law_second"]
abbrev P__law_take : List Str := ["_law_bag_here", "_law_many"]
theorem sc__law_take : FnScope N__law_take P__law_take (defScope s__law_take) := ⟨rfl, rfl, rfl, by decide +kernel, rfl, by decide +kernel, by decide +kernel⟩
abbrev s__law_alike : Stmt := topS 5
abbrev N__law_alike : List Str := ["_law_found", "_law_due"]
abbrev P__law_alike : List Str := ["_law_found", "_law_due"]
theorem sc__law_alike : FnScope N__law_alike P__law_alike (defScope s__law_alike) := ⟨rfl, rfl, rfl, by decide +kernel, rfl, by decide +kernel, by decide +kernel⟩
abbrev s__law_mixed : Stmt := topS 6
abbrev N__law_mixed : List Str := ["_law_bag_here", "_law_things", "_law_found", "_law_thing"]
abbrev P__law_mixed : List Str := ["_law_bag_here", "_law_things"]
theorem sc__law_mixed : FnScope N__law_mixed P__law_mixed (defScope s__law_mixed) := ⟨rfl, rfl, rfl, by decide +kernel, rfl, by decide +kernel, by decide +kernel⟩
abbrev s__law_names : Stmt := topS 7
abbrev N__law_names : List Str := ["_law_bag_here", "_law_many", "_law_letters", "_law_words", "_law_way", "_law_turn", "_law_base", "_law_at", "_law_k"]
abbrev P__law_names : List Str := ["_law_bag_here", "_law_many"]
theorem sc__law_names : FnScope N__law_names P__law_names (defScope s__law_names) := ⟨rfl, rfl, rfl, by decide +kernel, rfl, by decide +kernel, by decide +kernel⟩
abbrev s__law_term : Stmt := topS 8
abbrev N__law_term : List Str := ["_law_bag_here", "_law_names_here", "_law_many", "_law_deep", "_law_way", "_law_name", "_law_parts_here", "_law_k"]
abbrev P__law_term : List Str := ["_law_bag_here", "_law_names_here", "_law_many", "_law_deep"]
theorem sc__law_term : FnScope N__law_term P__law_term (defScope s__law_term) := ⟨rfl, rfl, rfl, by decide +kernel, rfl, by decide +kernel, by decide +kernel⟩
abbrev s__law_put : Stmt := topS 9
abbrev N__law_put : List Str := ["_law_term_here", "_law_values_here", "_law_part"]
abbrev P__law_put : List Str := ["_law_term_here", "_law_values_here"]
theorem sc__law_put : FnScope N__law_put P__law_put (defScope s__law_put) := ⟨rfl, rfl, rfl, by decide +kernel, rfl, by decide +kernel, by decide +kernel⟩
abbrev s__law_leaves : Stmt := topS 10
abbrev N__law_leaves : List Str := ["_law_terms", "_law_found", "_law_term_here"]
abbrev P__law_leaves : List Str := ["_law_terms"]
theorem sc__law_leaves : FnScope N__law_leaves P__law_leaves (defScope s__law_leaves) := ⟨rfl, rfl, rfl, by decide +kernel, rfl, by decide +kernel, by decide +kernel⟩
abbrev s__law_built : Stmt := topS 11
abbrev N__law_built : List Str := ["_law_term_here", "_law_values_here", "_law_keep", "_law_at", "_law_parts_here", "_law_part"]
abbrev P__law_built : List Str := ["_law_term_here", "_law_values_here", "_law_keep"]
theorem sc__law_built : FnScope N__law_built P__law_built (defScope s__law_built) := ⟨rfl, rfl, rfl, by decide +kernel, rfl, by decide +kernel, by decide +kernel⟩
abbrev s__law_parts : Stmt := topS 12
abbrev N__law_parts : List Str := ["_law_term_here", "_law_found", "_law_part"]
abbrev P__law_parts : List Str := ["_law_term_here"]
theorem sc__law_parts : FnScope N__law_parts P__law_parts (defScope s__law_parts) := ⟨rfl, rfl, rfl, by decide +kernel, rfl, by decide +kernel, by decide +kernel⟩
abbrev s__law_can : Stmt := topS 13
abbrev N__law_can : List Str := ["_law_terms", "_law_values_here", "_law_keep", "_law_known", "_law_before", "_law_inner", "_law_term_here", "_law_part", "_law_at", "_law_one"]
abbrev P__law_can : List Str := ["_law_terms", "_law_values_here", "_law_keep"]
theorem sc__law_can : FnScope N__law_can P__law_can (defScope s__law_can) := ⟨rfl, rfl, rfl, by decide +kernel, rfl, by decide +kernel, by decide +kernel⟩
abbrev s__law_values : Stmt := topS 14
abbrev N__law_values : List Str := ["_law_bag_here", "_law_names_here", "_law_terms", "_law_parts_here", "_law_found", "_law_term_here", "_law_k", "_law_some"]
abbrev P__law_values : List Str := ["_law_bag_here", "_law_names_here", "_law_terms"]
theorem sc__law_values : FnScope N__law_values P__law_values (defScope s__law_values) := ⟨rfl, rfl, rfl, by decide +kernel, rfl, by decide +kernel, by decide +kernel⟩
abbrev s_law : Stmt := topS 15
abbrev N_law : List Str := ["_law_script", "_law_bag_here", "_law_names_here", "_law_turn", "_law_terms", "_law_values_here", "_law_keep", "_law_known", "_law_handed", "_law_kept", "_law_term_here", "_law_again", "_law_found", "_law_used", "_law_k", "_law_at"]
abbrev P_law : List Str := ["_law_script"]
theorem sc_law : FnScope N_law P_law (defScope s_law) := ⟨rfl, rfl, rfl, by decide +kernel, rfl, by decide +kernel, by decide +kernel⟩
structure TX (K : PySem.W.Frag) (mg : Str → Option Value) where
  d_built : DefAt K mg "built" s_built P_built
  d__law_bag : DefAt K mg "_law_bag" s__law_bag P__law_bag
  d__law_take : DefAt K mg "_law_take" s__law_take P__law_take
  d__law_alike : DefAt K mg "_law_alike" s__law_alike P__law_alike
  d__law_mixed : DefAt K mg "_law_mixed" s__law_mixed P__law_mixed
  d__law_names : DefAt K mg "_law_names" s__law_names P__law_names
  d__law_term : DefAt K mg "_law_term" s__law_term P__law_term
  d__law_put : DefAt K mg "_law_put" s__law_put P__law_put
  d__law_leaves : DefAt K mg "_law_leaves" s__law_leaves P__law_leaves
  d__law_built : DefAt K mg "_law_built" s__law_built P__law_built
  d__law_parts : DefAt K mg "_law_parts" s__law_parts P__law_parts
  d__law_can : DefAt K mg "_law_can" s__law_can P__law_can
  d__law_values : DefAt K mg "_law_values" s__law_values P__law_values
  d_law : DefAt K mg "law" s_law P_law
  b_abs : mg "abs" = none
  b_all : mg "all" = none
  b_int : mg "int" = none
  b_isinstance : mg "isinstance" = none
  b_len : mg "len" = none
  b_list : mg "list" = none
  b_range : mg "range" = none
  b_repr : mg "repr" = none
  b_sorted : mg "sorted" = none
  b_tuple : mg "tuple" = none
end Fm
namespace Fm
open PySem PySem.Spec PyProof.Rows L2
section
variable {P : Program} {w : World} {K : PySem.W.Frag} {mg : Str → Option Value} {base : Heap}
def sp_bag (K : PySem.W.Frag) : Sp := fun vs H Q _ => ∃ (a : Addr) (ns : List Int), vs = [.ref a] ∧ SqL K H a (ns.map V.int) ∧ ns.length ≤ 63 ∧ ∀ H' p, Mv [] H H' → H p = none → Bag H' p → Q (.ref p) H'
theorem cut63 (xs : List V) (h : xs.length ≤ 63) : cutV xs none (some 63) = xs := by
  unfold cutV
  rw [HT.sIx_none, show HT.sIx xs.length xs.length (some 63) = min 63 xs.length from HT.sIx_nat xs.length xs.length 63, List.drop_zero, List.take_of_length_le (by omega)]
theorem ok__law_bag (T : TX K mg) {k : Nat} : FnOk P w K mg base CX0 (k + 1) T.d__law_bag.f T.d__law_bag.fd P__law_bag (sp_bag K) := by
  refine T.d__law_bag.F.ok sc__law_bag (fun vs H Q E h => ?_) (fun cdv A outer s H vs Q E hr h => ?_)
  · obtain ⟨a, ns, rfl, _⟩ := h
    rfl
  · obtain ⟨a, ns, rfl, hS, hl, q⟩ := h
    refine ⟨_, (pss_one (ps_ret (pe_lst (pa_cons pe_int (pa_cons pe_int (pa_cons pe_int (pa_cons (pe_lc (own := [("_law_cell", 1)]) (g := gName 1) (by rfl) sc__law_bag.nd (pi_seq (pe_slice (r := rSlG K) sl_G (pv 0) po_none (po_some pe_int))) (blkOk_by (own := [("_law_cell", 1)]) (N := N__law_bag) (sc := defScope s__law_bag) (by decide +kernel)) (fun _ _ _ _ _ => pg_name (i := 1) sc__law_bag.nd rfl (Or.inl rfl)) (fun _ _ _ _ _ => pts_nil) (fun _ _ _ _ _ => (pe_callB call_abs (by rfl) T.b_abs bt_abs (pa_cons (pv 1) pa_nil)))) pa_nil))))))), ?_⟩
    refine ⟨.ref a, rfl, 63, rfl, Or.inl ⟨a, _, rfl, hS, fun c nc => ⟨c, rfl, Or.inl ⟨⟨_, .inl (.inl upd_same)⟩, fun D nD => ?_⟩⟩⟩⟩
    have hlen : (ns.map V.int).length ≤ 63 := by rw [List.length_map]; exact hl
    rw [cut63 _ hlen] at nD ⊢
    refine lc_list (K := K) (a := c) (xs := ns.map V.int) (fun i H3 => ∃ ms : List Int, H3 c = some (.lst (ns.map V.int)) ∧ H3 D = some (.lst (ms.map V.int)) ∧ ms.length = i ∧ (∀ n ∈ ms, 0 ≤ n) ∧ Mv [] H H3)
      ⟨[], ?_, upd_same, rfl, by simp, ?_⟩ (fun i H3 _ h3 => ?_) (fun i x H3 hx h3 => ?_) (fun H3 h3 => ?_)
    · rw [upd_ne (ne_of_none upd_same nD), upd_same]
    · exact (Mv.new nc).trans (.new nD)
    · obtain ⟨ms, h1, _⟩ := h3
      exact .inl (.inl h1)
    · obtain ⟨ms, h1, h2, h4, h5, h6⟩ := h3
      obtain ⟨n, hn, rfl⟩ : ∃ n ∈ ns, x = .int n := by
        have := List.mem_of_getElem? hx
        obtain ⟨n, hn, e⟩ := List.mem_map.mp this
        exact ⟨n, hn, e.symm⟩
      have hDc : c ≠ D := ne_of_none upd_same nD
      refine ⟨rfl, .int n, rfl, n, rfl, _, h2, ?_, ms ++ [if n < 0 then -n else n], ?_, ?_, ?_, ?_, ?_⟩
      · rw [List.length_map]
        have := (List.getElem?_eq_some_iff.mp hx).1
        rw [List.length_map] at this
        exact small1000 (by omega)
      · rw [upd_ne hDc]
        exact h1
      · rw [upd_same, List.map_append]
        rfl
      · simp [h4]
      · intro z hz
        rcases List.mem_append.mp hz with hz | hz
        · exact h5 z hz
        · rw [List.mem_singleton.mp hz]
          split <;> omega
      · exact h6.wr ((Mv.new nc).free nD)
    · obtain ⟨ms, h1, h2, h4, h5, h6⟩ := h3
      refine ⟨(by decide : 4 ≤ sizeLine), fun p np => q _ p (h6.trans (.new np)) (h6.free np) ⟨D, 0, 1234567891, 0, ms, upd_same, ?_, ?_, h5, by decide, by decide, by decide⟩⟩
      · rw [upd_ne (ne_of_none h2 np)]
        exact h2
      · rw [h4, List.length_map]
        exact hl

/-- a number from 0 to n - 1 is drawn -/
def sp_take : Sp := fun vs H Q _ => ∃ (b : Addr) (n : Int), vs = [.ref b, .int n] ∧ Bag H b ∧ 0 < n ∧ n ≤ 1000000 ∧ ∀ (i : Int) H', 0 ≤ i → i < n → Dr b H H' → Q (.int i) H'
theorem Bag.set {H : Hp} {b c : Addr} {ns : List Int} {s m k : Int} {xs : List V} (hb : H b = some (.lst xs)) (hc : H c = some (.lst (ns.map V.int))) (hcb : c ≠ b)
    (hl : ns.length ≤ 63) (hn : ∀ n ∈ ns, 0 ≤ n) (h1 : 0 ≤ s) (h2 : 0 ≤ k) (h3 : 0 ≤ m) : BagC (upd H b (.lst [.int s, .int m, .int k, .ref c])) b c :=
  ⟨s, m, k, ns, upd_same, by rw [upd_ne hcb]; exact hc, hl, hn, h1, h2, h3⟩
theorem rd_set {p : Addr} {xs ys : List V} {k : Int} {j : Nat} {v : V} {H : Hp} {Q : Hp → Prop} (hp : H p = some (.lst xs)) (hj : ixN xs.length k = some j) (hy : xs.set j v = ys)
    (h : ∀ H', H' p = some (.lst ys) → Mv [p] H H' → (∀ a, a ≠ p → H' a = H a) → Q H') : rSetL (.ref p) (.int k) v H Q := by
  refine ⟨p, xs, k, j, rfl, rfl, hp, hj, ?_⟩
  rw [hy]
  exact h _ upd_same (.set hp (by simp)) fun a ha => upd_ne ha
theorem ok__law_take (T : TX K mg) {k : Nat} : FnOk P w K mg base CX0 (k + 1) T.d__law_take.f T.d__law_take.fd P__law_take sp_take := by
  refine T.d__law_take.F.ok sc__law_take (fun vs H Q E h => ?_) (fun cdv A outer s H vs Q E hr h => ?_)
  · obtain ⟨a, ns, rfl, _⟩ := h
    rfl
  · obtain ⟨b, n, rfl, hB, h0, h1, q⟩ := h
    have hu64 := hr.units
    refine ⟨_, (Evl.pss_cut (ps_if (pt_cmpR (r := rEqG K) (op_eqG hu64) (pe_ix (r := rIx K) ix_seq (pv 0) pe_int (fun _ _ => rfl)) pe_int (nomark _)) (pss_cons (ps_set (i := 2) sc__law_take.nd rfl (Or.inl rfl) pe_int) (Evl.pss_cut (ps_if (pt_cmpR op_lt (pe_ix (r := rIx K) ix_seq (pv 0) pe_int (fun _ _ => rfl)) (pe_callB (r := rLenG K) call_lenG (by rfl) T.b_len bt_len (pa_cons (pe_ix (r := rIx K) ix_seq (pv 0) pe_int (fun _ _ => rfl)) pa_nil)) (nomark _)) (pss_one (ps_set (i := 2) sc__law_take.nd rfl (Or.inl rfl) (pe_ix (r := rIx K) ix_seq (pe_ix (r := rIx K) ix_seq (pv 0) pe_int (fun _ _ => rfl)) (pe_ix (r := rIx K) ix_seq (pv 0) pe_int (fun _ _ => rfl)) (fun _ _ => rfl)))) pss_nil) (pss_cons (ps_augS (pv 0) pe_int get_G pe_int ip_add set_list) (Evl.pss_cut (ps_if (pt_cmpR op_ge (pv 2) pe_int (nomark _)) (pss_one (ps_asg (pv 2) (pg_sub (pv 0) pe_int set_list))) pss_nil) (pss_cons (ps_set (i := 3) sc__law_take.nd rfl (Or.inl rfl) (pe_op (r := rAddG K) op_addG (pe_op (r := rAddG K) op_addG (pe_op op_mulG (pe_ix (r := rIx K) ix_seq (pv 0) pe_int (fun _ _ => rfl)) pe_int) (pe_op op_mod (pe_callTy call_int1 (by rfl) T.b_int bt_int (pa_cons (pv 2) pa_nil)) pe_int)) (pe_op op_mulG pe_int (pe_ix (r := rIx K) ix_seq (pv 0) pe_int (fun _ _ => rfl))))) (pss_one (ps_asg (pe_op op_mod (pe_callTy call_int1 (by rfl) T.b_int bt_int (pa_cons (pv 3) pa_nil)) pe_int) (pg_sub (pv 0) pe_int set_list)))))))) pss_nil) (pss_cons (ps_if (pt_cmpR op_gt (pe_ix (r := rIx K) ix_seq (pv 0) pe_int (fun _ _ => rfl)) pe_int (nomark _)) (pss_cons (ps_set (i := 4) sc__law_take.nd rfl (Or.inl rfl) (pe_op op_mod (pe_callTy call_int1 (by rfl) T.b_int bt_int (pa_cons (pe_ix (r := rIx K) ix_seq (pv 0) pe_int (fun _ _ => rfl)) pa_nil)) (pv 1))) (pss_cons (ps_asg (pe_op op_fdivW (pe_ix (r := rIx K) ix_seq (pv 0) pe_int (fun _ _ => rfl)) (pv 1)) (pg_sub (pv 0) pe_int set_list)) (pss_one (ps_ret (pv 4))))) pss_nil) (pss_cons (ps_set (i := 5) sc__law_take.nd rfl (Or.inl rfl) (pe_op op_mod (pe_callTy call_int1 (by rfl) T.b_int bt_int (pa_cons (pe_op op_mulG (pe_op (r := rAddG K) op_addG (pe_ix (r := rIx K) ix_seq (pv 0) pe_int (fun _ _ => rfl)) pe_int) pe_int) pa_nil)) pe_int)) (pss_cons (ps_set (i := 6) sc__law_take.nd rfl (Or.inl rfl) (pe_op op_mod (pe_callTy call_int1 (by rfl) T.b_int bt_int (pa_cons (pe_op op_mulG (pe_op op_mod (pe_callTy call_int1 (by rfl) T.b_int bt_int (pa_cons (pe_op op_mulG (pv 5) (pv 5)) pa_nil)) pe_int) pe_int) pa_nil)) pe_int)) (pss_cons (ps_if (pt_cmpR op_gt (pv 1) pe_int (nomark _)) (pss_one (ps_ret (pe_op op_mod (pe_callTy call_int1 (by rfl) T.b_int bt_int (pa_cons (pe_op (r := rAddG K) op_addG (pe_op op_mulG (pv 6) pe_int) (pv 5)) pa_nil)) (pv 1)))) pss_nil) (pss_one (ps_ret (pe_op op_mod (pe_callTy call_int1 (by rfl) T.b_int bt_int (pa_cons (pe_op op_fdivW (pv 6) pe_int) pa_nil)) (pv 1))))))))), ?_⟩
    obtain ⟨c, hB⟩ := hB
    have hBC := hB
    obtain ⟨z, m, j, ns, eb, ec, hl, hn, hz, hj, hm⟩ := hB
    have hcb : c ≠ b := Bag.ne (xs := [.int z, .int m, .int j]) eb ec
    have sq : ∀ {H : Hp} {xs : List V}, H b = some (.lst xs) → SqL K H b xs := fun h => .inl (.inl h)
    -- behind the first if
    refine ⟨fun σ H1 => ∃ y2 y3 y4 y5 y6, σ = [some (.ref b), some (.int n), y2, y3, y4, y5, y6] ∧ Dr b H H1 ∧ BagC H1 b c, ?_, fun σ H1 hM => ?_⟩
    · refine ⟨.ref b, rfl, Or.inl ⟨b, _, 0, .int z, rfl, rfl, sq eb, rfl, Or.inl ⟨rfl, _, rfl, ite2 (fun e => ?_) (fun e => ?_)⟩⟩⟩
      · -- cell = 0; the next cell
        refine ⟨fun σ H1 => ∃ x : Int, 0 ≤ x ∧ σ = [some (.ref b), some (.int n), some (.int x), none, none, none, none] ∧ H1 = H, ?_, fun σ H1 hM => ?_⟩
        · refine ⟨.ref b, rfl, Or.inl ⟨b, _, 2, .int j, rfl, rfl, sq eb, rfl, .ref b, rfl, Or.inl ⟨b, _, 3, .ref c, rfl, rfl, sq eb, rfl, Or.inl ⟨c, _, rfl, .inl (.inl (.inl ec)), j, _, rfl, rfl, _, rfl, ite2 (fun e => ?_) (fun e => ?_)⟩⟩⟩⟩
          · have e' : j < (ns.map V.int).length := of_decide_eq_true e
            obtain ⟨i, rfl⟩ := Int.eq_ofNat_of_zero_le hj
            have hi : i < ns.length := by
              rw [List.length_map] at e'
              omega
            have gi : (ns.map V.int)[i]? = some (.int ns[i]) := by
              rw [List.getElem?_map, List.getElem?_eq_getElem hi]
              rfl
            refine ⟨.ref b, rfl, Or.inl ⟨b, _, 3, .ref c, rfl, rfl, sq eb, rfl, .ref b, rfl, Or.inl ⟨b, _, 2, .int (i : Int), rfl, rfl, sq eb, rfl, Or.inl ⟨c, _, _, .int ns[i], rfl, rfl, .inl (.inl ec), atI_nat gi, ?_⟩⟩⟩⟩
            exact ⟨ns[i], hn _ (List.getElem_mem hi), rfl, rfl⟩
          · exact ⟨0, Int.le_refl _, rfl, rfl⟩
        · obtain ⟨x, hx, rfl, rfl⟩ := hM
          -- bag[2] += 1
          refine ⟨.ref b, rfl, b, _, 2, .int j, rfl, rfl, sq eb, rfl, j, 1, rfl, rfl, rd_set eb rfl rfl fun H2 eb2 m1 k1 => ?_⟩
          have ec2 : H2 c = some (.lst (ns.map V.int)) := by rw [k1 c hcb]; exact ec
          -- a great cell is kept
          refine ⟨fun σ H3 => ∃ z' : Int, 0 ≤ z' ∧ σ = [some (.ref b), some (.int n), some (.int x), none, none, none, none] ∧ H3 b = some (.lst [.int z', .int m, .int (j + 1), .ref c]) ∧ H3 c = some (.lst (ns.map V.int)) ∧ Mv [b] H2 H3, ?_, fun σ H3 hM => ?_⟩
          · refine ⟨.int x, rfl, x, _, rfl, rfl, _, rfl, ite2 (fun e => ?_) (fun e => ?_)⟩
            · refine ⟨.int x, rfl, .ref b, rfl, b, _, 0, 0, rfl, rfl, eb2, rfl, x, hx, rfl, upd_same, ?_, .set eb2 (by simp)⟩
              rw [upd_ne hcb]
              exact ec2
            · exact ⟨z, hz, rfl, eb2, ec2, .refl⟩
          · obtain ⟨z', hz', rfl, eb3, ec3, m3⟩ := hM
            refine ⟨.ref b, rfl, Or.inl ⟨b, _, 1, .int m, rfl, rfl, sq eb3, rfl, Or.inl ⟨m, 48271, rfl, rfl, .inr ⟨by decide, by decide⟩, .int x, rfl, Or.inl ⟨x, rfl, x, _, rfl, rfl, (by decide : (0 : Int) < _), ?_⟩⟩⟩⟩
            refine Or.inl ⟨_, _, rfl, rfl, .ref b, rfl, Or.inl ⟨b, _, 2, .int (j + 1), rfl, rfl, sq eb3, rfl, Or.inl ⟨7919, j + 1, rfl, rfl, .inl ⟨by decide, by decide⟩, Or.inl ⟨_, _, rfl, rfl, ?_⟩⟩⟩⟩
            refine ⟨_, rfl, Or.inl ⟨_, rfl, _, _, rfl, rfl, (by decide : (0 : Int) < _), .ref b, rfl, b, _, 1, 1, rfl, rfl, eb3, rfl, _, _, _, _, _, rfl, ?_, ?_⟩⟩
            · exact .mkc ((m1.trans m3).trans (.set eb3 (by simp))) hBC (Bag.set eb3 ec3 hcb hl hn hz' (by omega) (Int.emod_nonneg _ (by decide)))
            · exact Bag.set eb3 ec3 hcb hl hn hz' (by omega) (Int.emod_nonneg _ (by decide))
      · exact ⟨_, _, _, _, _, rfl, .refl, z, m, j, ns, eb, ec, hl, hn, hz, hj, hm⟩
    · obtain ⟨y2, y3, y4, y5, y6, rfl, hD, hB⟩ := hM
      have hBC1 := hB
      obtain ⟨z, m, j, ns, eb, ec, hl, hn, hz, hj, hm⟩ := hB
      have hcb : c ≠ b := Bag.ne (xs := [.int z, .int m, .int j]) eb ec
      refine ⟨.ref b, rfl, Or.inl ⟨b, _, 0, .int z, rfl, rfl, sq eb, rfl, z, 0, rfl, rfl, _, rfl, ite2 (fun e => ?_) (fun e => ?_)⟩⟩
      · -- value = int(bag[0]) % many; bag[0] = bag[0] // many; return value
        refine ⟨.ref b, rfl, Or.inl ⟨b, _, 0, .int z, rfl, rfl, sq eb, rfl, Or.inl ⟨z, rfl, .int n, rfl, z, n, rfl, rfl, h0, ?_⟩⟩⟩
        refine ⟨.ref b, rfl, Or.inl ⟨b, _, 0, .int z, rfl, rfl, sq eb, rfl, .int n, rfl, z, n, rfl, rfl, ?_, ?_⟩⟩
        · exact wide_div (b := 64) h0 (by omega) (by decide) (by decide)
        · refine ⟨.ref b, rfl, b, _, 0, 0, rfl, rfl, eb, rfl, ?_⟩
          refine ⟨.int (z % n), rfl, q _ _ (Int.emod_nonneg z (by omega)) (Int.emod_lt_of_pos z h0) (hD.trans (.mkc (.set eb (by simp)) hBC1 ?_))⟩
          exact Bag.set eb ec hcb hl hn (Int.ediv_nonneg hz (by omega)) hj hm
      · refine ⟨.ref b, rfl, Or.inl ⟨b, _, 1, .int m, rfl, rfl, sq eb, rfl, Or.inl ⟨m, 1, rfl, rfl, Or.inl ⟨_, _, rfl, rfl, .inr ⟨by decide, by decide⟩, Or.inl ⟨_, rfl, _, _, rfl, rfl, (by decide : (0 : Int) < _), ?_⟩⟩⟩⟩⟩
        have hx0 : 0 ≤ (m + 1) * 39373 % 1000000007 := Int.emod_nonneg _ (by decide)
        have hx1 : (m + 1) * 39373 % 1000000007 < 1000000007 := Int.emod_lt_of_pos _ (by decide)
        refine ⟨_, rfl, _, rfl, Or.inl ⟨(m + 1) * 39373 % 1000000007, (m + 1) * 39373 % 1000000007, rfl, rfl, .inl ⟨by omega, by omega⟩, Or.inl ⟨_, rfl, _, _, rfl, rfl, (by decide : (0 : Int) < _), Or.inl ⟨_, _, rfl, rfl, .inr ⟨by decide, by decide⟩, Or.inl ⟨_, rfl, _, _, rfl, rfl, (by decide : (0 : Int) < _), ?_⟩⟩⟩⟩⟩
        refine ⟨.int n, rfl, n, _, rfl, rfl, _, rfl, ite2 (fun e => ?_) (fun e => ?_)⟩
        · exact absurd (of_decide_eq_true e) (by omega)
        · refine ⟨_, rfl, _, 7, rfl, rfl, ⟨by decide, by decide⟩, Or.inl ⟨_, rfl, .int n, rfl, _, n, rfl, rfl, h0, ?_⟩⟩
          exact q _ _ (Int.emod_nonneg _ (by omega)) (Int.emod_lt_of_pos _ h0) hD
end
end Fm
namespace Fm
open PySem PySem.Spec PyProof.Rows L2
/-- a new list of names -/
def sp_names : Sp := fun vs H Q _ => ∃ (b : Addr) (n : Nat), vs = [.ref b, .int n] ∧ Bag H b ∧ 0 < n ∧ n ≤ 12 ∧
  ∀ (p : Addr) (xs : List Str) H', xs.length = n → (∀ x ∈ xs, Nm x) → H p = none → H' p = some (.lst (xs.map V.str)) → Dr b H H' → Q (.ref p) H'
theorem rd_split {X : Cx} {a b : Str} {H : Hp} {Q : VK} (P : List Str → Bool) (hP : P (Txt.split a b) = true)
    (h : ∀ p ws H', P ws = true → H p = none → H' p = some (.lst (ws.map V.str)) → Mv [] H H' → Q (.ref p) H') : rNewStrs (Txt.split a b) H Q :=
  fun p np => h p _ _ hP np upd_same (.new np)
theorem str_len_append (x y : Str) : (x ++ y).length = x.length + y.length := by first | exact strLen_append x y | (show (x.cps ++ y.cps).size = _; simp [Str.length])
theorem str_cps_append (x y : Str) : (x ++ y).cps.toList = x.cps.toList ++ y.cps.toList := by
  show (x.cps ++ y.cps).toList = _
  simp
theorem join_chars : ∀ l : List Nat, Txt.join "" (l.map fun c => (⟨#[c]⟩ : Str)) = ⟨l.toArray⟩
  | [] => by decide +kernel
  | [c] => by
    show Builtin.Str.glued _ _ = _
    rw [StrLaws.glued_eq_join]
    rfl
  | c :: d :: l => by
    have ih := join_chars (d :: l)
    show Builtin.Str.glued _ _ = _
    have ih' : Builtin.Str.glued "" ((d :: l).map fun c => (⟨#[c]⟩ : Str)) = ⟨(d :: l).toArray⟩ := ih
    rw [StrLaws.glued_eq_join] at ih' ⊢
    show (⟨#[c]⟩ : Str) ++ "" ++ Str.join "" ((d :: l).map fun c => (⟨#[c]⟩ : Str)) = _
    rw [ih']
    show (⟨(#[c] ++ #[]) ++ (d :: l).toArray⟩ : Str) = _
    simp
theorem cutS_to (z : Str) (i : Nat) (h : i ≤ z.length) : (cutS z none (some (i : Int))).cps.toList = z.cps.toList.take i := by
  unfold cutS
  rw [HT.sIx_none, HT.sIx_nat, Nat.min_eq_left h]
  simp
theorem cutS_from (z : Str) (i : Nat) (h : i ≤ z.length) : (cutS z (some (i : Int)) none).cps.toList = z.cps.toList.drop i := by
  unfold cutS
  rw [HT.sIx_none, HT.sIx_nat, Nat.min_eq_left h]
  have e : z.cps.toList.length = z.length := by simp [Str.length]
  show ((z.cps.toList.drop i).take (z.length - i)).toArray.toList = _
  rw [List.take_of_length_le (by rw [List.length_drop, e]; exact Nat.le_refl _)]
theorem len_cps (z : Str) : z.cps.toList.length = z.length := by simp [Str.length]
theorem sum_ones : ∀ cs : List Nat, ((cs.map fun c => (⟨#[c]⟩ : Str)).map (·.length)).sum = cs.length
  | [] => rfl
  | c :: cs => by
    have := sum_ones cs
    simp only [List.map_cons, List.sum_cons, List.length_cons, this]
    show 1 + cs.length = _
    omega
theorem cutV_from {xs : List V} {i : Int} (h0 : 0 ≤ i) (h : i ≤ xs.length) : cutV xs (some i) none = xs.drop i.toNat := by
  obtain ⟨j, rfl⟩ := Int.eq_ofNat_of_zero_le h0
  unfold cutV
  rw [HT.sIx_none, HT.sIx_nat, Nat.min_eq_left (by omega), List.take_of_length_le (by rw [List.length_drop]; exact Nat.le_refl _)]
  rfl
theorem cutV_to {xs : List V} {i : Int} (h0 : 0 ≤ i) : cutV xs none (some i) = xs.take i.toNat := by
  obtain ⟨j, rfl⟩ := Int.eq_ofNat_of_zero_le h0
  unfold cutV
  rw [HT.sIx_none, HT.sIx_nat, List.drop_zero]
  show xs.take (min j xs.length - 0) = xs.take j
  rw [Nat.sub_zero]
  by_cases e : j ≤ xs.length
  · rw [Nat.min_eq_left e]
  · rw [Nat.min_eq_right (by omega), List.take_of_length_le (Nat.le_refl _), List.take_of_length_le (by omega)]
theorem rd_letter {K : PySem.W.Frag} {z : Str} {j : Int} {H : Hp} {Q : VK} (hz : (decide (z.length = 26) && z.cps.toList.all fun c => decide (97 ≤ c) && decide (c ≤ 122)) = true) (h0 : 0 ≤ j) (h1 : j < 26)
    (h : ∀ c : Nat, 97 ≤ c → c ≤ 122 → z.cps.toList[j.toNat]? = some c → Q (.str ⟨#[c]⟩) H) : rIx K (.str z) (.int j) H Q := by
  simp only [Bool.and_eq_true, decide_eq_true_eq, List.all_eq_true] at hz
  obtain ⟨hl, ha⟩ := hz
  obtain ⟨i, rfl⟩ := Int.eq_ofNat_of_zero_le h0
  have hi : i < z.cps.toList.length := by rw [len_cps, hl]; omega
  have e := List.getElem?_eq_getElem hi
  have hc := ha _ (List.getElem_mem hi)
  exact Or.inr (Or.inr ⟨z, i, _, rfl, rfl, by rw [hl]; decide, atI_nat e, h _ hc.1 hc.2 e⟩)
section
variable {P : Program} {w : World} {K : PySem.W.Frag} {mg : Str → Option Value} {base : Heap}
theorem ok__law_names (T : TX K mg) {k : Nat} : FnOk P w K mg base CX0 (k + 2) T.d__law_names.f T.d__law_names.fd P__law_names sp_names := by
  have G__law_take : FnOk P w K mg base CX0 (k + 1) T.d__law_take.f T.d__law_take.fd P__law_take sp_take := ok__law_take T
  refine T.d__law_names.F.ok sc__law_names (fun vs H Q E h => ?_) (fun cdv A outer s H vs Q E hr h => ?_)
  · obtain ⟨b, n, rfl, _⟩ := h
    rfl
  · obtain ⟨b, n, rfl, hB, h0, h1, q⟩ := h
    have hu64 := hr.units
    refine ⟨_, (pss_cons (ps_set (i := 2) sc__law_names.nd rfl (Or.inr rfl) pe_str) (pss_cons (ps_set (i := 3) sc__law_names.nd rfl (Or.inl rfl) pe_str) (pss_cons (ps_set (i := 3) sc__law_names.nd rfl (Or.inl rfl) (pe_bm PySem.F.plainAttrs_str PySem.F.slot_str_split PySem.F.type_str_split mt_split (pe_op (r := rAddG K) op_addG (pv 3) pe_str) (pa_cons pe_str pa_nil))) (pss_cons (ps_asg (pe_tup (pa_cons (pe_call G__law_take (hr.mono (by omega)) rfl T.d__law_take.g T.d__law_take.F.kp T.d__law_take.b .nil pass0 (pa_cons (pv 0) (pa_cons pe_int pa_nil))) (pa_cons (pe_call G__law_take (hr.mono (by omega)) rfl T.d__law_take.g T.d__law_take.F.kp T.d__law_take.b .nil pass0 (pa_cons (pv 0) (pa_cons pe_int pa_nil))) pa_nil))) (pg_tup rfl (pgs_cons (pg_name (i := 4) sc__law_names.nd rfl (Or.inl rfl)) (pgs_cons (pg_name (i := 5) sc__law_names.nd rfl (Or.inr rfl)) pgs_nil)))) (pss_cons (ps_set (i := 6) sc__law_names.nd rfl (Or.inr rfl) (pe_bm PySem.F.plainAttrs_str PySem.F.slot_str_join PySem.F.type_str_join mt_join pe_str (pa_cons (pe_lc (own := [("_law_k", 8)]) (g := gName 8) (by rfl) sc__law_names.nd (pi_range1 (by rfl) T.b_range (pa_cons (pe_op (r := rAddG K) op_addG pe_int (pe_call G__law_take (hr.mono (by omega)) rfl T.d__law_take.g T.d__law_take.F.kp T.d__law_take.b .nil pass0 (pa_cons (pv 0) (pa_cons pe_int pa_nil)))) pa_nil)) (blkOk_by (own := [("_law_k", 8)]) (N := N__law_names) (sc := defScope s__law_names) (by decide +kernel)) (fun _ _ _ _ _ => pg_name (i := 8) sc__law_names.nd rfl (Or.inl rfl)) (fun _ _ _ _ _ => pts_nil) (fun _ _ _ _ _ => (pe_ix (r := rIx K) ix_seq (pv 2) (pe_call G__law_take (hr.mono (by omega)) rfl T.d__law_take.g T.d__law_take.F.kp T.d__law_take.b .nil pass0 (pa_cons (pv 0) (pa_cons pe_int pa_nil))) (fun _ _ => rfl)))) pa_nil))) (pss_cons (ps_set (i := 7) sc__law_names.nd rfl (Or.inr rfl) (pe_call G__law_take (hr.mono (by omega)) rfl T.d__law_take.g T.d__law_take.F.kp T.d__law_take.b .nil pass0 (pa_cons (pv 0) (pa_cons (pe_op (r := rAddG K) op_addG (pe_callB (r := rLenG K) call_lenG (by rfl) T.b_len bt_len (pa_cons (pv 6) pa_nil)) pe_int) pa_nil)))) (pss_cons (ps_if (pt_cmpR (r := rEqG K) (op_eqG hu64) (pv 4) pe_int (nomark _)) (pss_one (ps_ret (pe_slice (r := rSlG K) sl_G (pe_op (r := rAddG K) op_addG (pe_slice (r := rSlG K) sl_G (pv 3) (po_some (pv 5)) po_none) (pe_slice (r := rSlG K) sl_G (pv 3) po_none (po_some (pv 5)))) po_none (po_some (pv 1))))) pss_nil) (pss_cons (ps_if (pt_cmpR (r := rEqG K) (op_eqG hu64) (pv 4) pe_int (nomark _)) (pss_one (ps_ret (pe_lc (own := [("_law_k", 8)]) (g := gName 8) (by rfl) sc__law_names.nd (pi_range1 (by rfl) T.b_range (pa_cons (pv 1) pa_nil)) (blkOk_by (own := [("_law_k", 8)]) (N := N__law_names) (sc := defScope s__law_names) (by decide +kernel)) (fun _ _ _ _ _ => pg_name (i := 8) sc__law_names.nd rfl (Or.inl rfl)) (fun _ _ _ _ _ => pts_nil) (fun _ _ _ _ _ => (pe_ix (r := rIx K) ix_seq (pv 2) (pe_op op_mod (pe_callTy call_int1 (by rfl) T.b_int bt_int (pa_cons (pe_op (r := rAddG K) op_addG (pv 5) (pe_op op_mulG pe_int (pv 8))) pa_nil)) pe_int) (fun _ _ => rfl)))))) pss_nil) (pss_one (ps_ret (pe_lc (own := [("_law_k", 8)]) (g := gName 8) (by rfl) sc__law_names.nd (pi_range1 (by rfl) T.b_range (pa_cons (pv 1) pa_nil)) (blkOk_by (own := [("_law_k", 8)]) (N := N__law_names) (sc := defScope s__law_names) (by decide +kernel)) (fun _ _ _ _ _ => pg_name (i := 8) sc__law_names.nd rfl (Or.inl rfl)) (fun _ _ _ _ _ => pts_nil) (fun _ _ _ _ _ => (pe_op (r := rAddG K) op_addG (pe_op (r := rAddG K) op_addG (pe_slice (r := rSlG K) sl_G (pv 6) po_none (po_some (pv 7))) (pe_ix (r := rIx K) ix_seq (pv 2) (pe_op op_mod (pe_callTy call_int1 (by rfl) T.b_int bt_int (pa_cons (pe_op (r := rAddG K) op_addG (pv 5) (pe_op op_mulG pe_int (pv 8))) pa_nil)) pe_int) (fun _ _ => rfl))) (pe_slice (r := rSlG K) sl_G (pv 6) (po_some (pv 7)) po_none)))))))))))))), ?_⟩
    refine ⟨_, rfl, Or.inr (Or.inl ⟨_, _, rfl, rfl, by decide +kernel, rfl, _, _, rfl, rfl, by decide +kernel, by decide +kernel, ?_⟩)⟩
    refine rd_split (X := (cxOf CX0 P w K mg base N__law_names "_law_names" (defScope s__law_names) T.d__law_names.f cdv A outer s H E)) (fun ws => decide (ws.length = 20) && ws.all fun x => decide (Nm x)) (by decide +kernel) fun wp ws H1 hws nwp ewp m1 => ?_
    simp only [Bool.and_eq_true, decide_eq_true_eq, List.all_eq_true] at hws
    obtain ⟨hw20, hwN⟩ := hws
    -- way, turn
    refine ⟨.ref b, rfl, b, 4, rfl, hB.mv m1, by decide, by decide, fun way H2 hw0 hw1 d2 => ⟨.ref b, rfl, b, 20, rfl, d2.bag (hB.mv m1), by decide, by decide, fun turn H3 ht0 ht1 d3 => ?_⟩⟩
    refine ⟨(by decide : 2 ≤ sizeLine), fun p np => ⟨p, _, rfl, .inl (.inl upd_same), rfl, _, _, rfl, _, _, rfl, rfl, ?_⟩⟩
    have d14 := (d2.trans d3).trans (Dr.new (o := .tup [.int way, .int turn]) np)
    have hB4 := d14.bag (hB.mv m1)
    generalize upd H3 p (.tup [.int way, .int turn]) = H4 at d14 hB4 ⊢
    have hwb : wp ≠ b := (hB.fneq nwp)
    have ew4 : H4 wp = some (.lst (ws.map V.str)) := d14.get hwb ewp
    -- base = ''.join([..])
    refine ⟨rfl, .ref b, rfl, b, 7, rfl, hB4, by decide, by decide, fun l H5 hl0 hl1 d5 => Or.inl ⟨1, l, rfl, rfl, 1 + l, rfl, by omega, by omega, fun D nD => ?_⟩⟩
    have hB5 := d5.bag hB4
    refine lc_range (lo := 0) (n := (1 + l).toNat) (fun i H6 => ∃ cs : List Nat, H6 D = some (.lst (cs.map fun c => V.str ⟨#[c]⟩)) ∧ cs.length = i ∧ (∀ c ∈ cs, 97 ≤ c ∧ c ≤ 122) ∧ Dr b H5 H6)
      ⟨[], upd_same, rfl, by simp, Dr.new nD⟩ (fun i H6 hi h6 => ?_) (fun H6 h6 => ?_)
    · obtain ⟨cs, e6, l6, c6, d6⟩ := h6
      refine ⟨rfl, _, rfl, .ref b, rfl, b, 26, rfl, d6.bag hB5, by decide, by decide, fun j H7 hj0 hj1 d7 => rd_letter (by decide +kernel) hj0 hj1 fun c hc0 hc1 _ => ?_⟩
      refine ⟨_, d7.get (hB5.fneq nD) e6, ?_, cs ++ [c], ?_, by simp [l6], ?_, (d6.trans d7).wr nD⟩
      · rw [List.length_map, l6]
        exact small1000 (by omega)
      · rw [upd_same, List.map_append]
        rfl
      · intro z hz
        rcases List.mem_append.mp hz with hz | hz
        · exact c6 z hz
        · rw [List.mem_singleton.mp hz]
          exact ⟨hc0, hc1⟩
    · obtain ⟨cs, e6, l6, c6, d6⟩ := h6
      have hmap : cs.map (fun c => V.str ⟨#[c]⟩) = (cs.map fun c => (⟨#[c]⟩ : Str)).map V.str := by rw [List.map_map]; rfl
      refine ⟨_, D, _, rfl, rfl, .inl (.inl (.inl (by rw [← hmap]; exact e6))), ?_, ?_⟩
      · rw [sum_ones, List.length_map, l6, show ("" : Str).length = 0 from by decide]
        omega
      · rw [join_chars]
        obtain ⟨B, hB0, hBl, hBc⟩ : ∃ B : Str, B = ⟨cs.toArray⟩ ∧ B.length = (1 + l).toNat ∧ ∀ c ∈ B.cps.toList, 97 ≤ c ∧ c ≤ 122 := ⟨_, rfl, by rw [← l6]; rfl, by simpa using c6⟩
        rw [← hB0]
        have hB6 := d6.bag hB5
        -- at
        refine ⟨.ref b, rfl, .str B, rfl, Or.inr (Or.inl ⟨B, rfl, Nat.le_of_lt (small1000 (by omega)), Or.inl ⟨_, 1, rfl, rfl, b, _, rfl, hB6, by omega, by omega, fun pl H7 hp0 hp1 d7 => ?_⟩⟩)⟩
        have d17 := (d14.trans d5).trans (d6.trans d7)
        have ew7 : H7 wp = some (.lst (ws.map V.str)) := d17.get hwb ewp
        have dH7 : Dr b H H7 := (Dr.of m1).trans d17
        have hB7 : Bag H7 b := dH7.bag hB
        have lenL : ∀ c : Nat, (⟨#[c]⟩ : Str).length = 1 := fun _ => rfl
        have fresh : ∀ {p H'}, Mv [] H7 H' → H' p = none → H p = none := fun m e => dH7.free hB (m.free e)
        refine ⟨.int way, rfl, Or.inl ⟨rfl, _, rfl, ite2 (fun e => ?_) (fun e => ?_)⟩⟩
        · -- the words, turned
          refine ⟨.ref wp, rfl, .int turn, rfl, turn, rfl, Or.inl ⟨wp, _, rfl, .inl (.inl ew7), fun p1 np1 => ?_⟩⟩
          have n1 : wp ≠ p1 := ne_of_none ew7 np1
          refine ⟨.ref wp, rfl, .int turn, rfl, turn, rfl, Or.inl ⟨wp, _, rfl, .inl (.inl (by rw [upd_ne n1]; exact ew7)), fun p2 np2 => ?_⟩⟩
          have n2 : p1 ≠ p2 := ne_of_none upd_same np2
          rw [cutV_from ht0 (by rw [List.length_map]; omega), cutV_to ht0] at *
          refine Or.inr (Or.inr (Or.inr ⟨p1, p2, _, _, rfl, rfl, by rw [upd_ne n2, upd_same], upd_same, ?_, fun p3 np3 => ?_⟩))
          · rw [List.length_drop, List.length_take, List.length_map]
            exact Nat.le_of_lt (small1000 (by omega))
          · refine ⟨.int n, rfl, (n : Int), rfl, Or.inl ⟨p3, _, rfl, .inl (.inl upd_same), fun p4 np4 => ?_⟩⟩
            refine q p4 ((ws.drop turn.toNat ++ ws.take turn.toNat).take n) _ ?_ (fun x hx => ?_) (fresh (((Mv.new (S := []) np1).trans (Mv.new np2)).trans (Mv.new np3)) np4) ?_ (dH7.trans (Dr.of (((Mv.new np1).trans (Mv.new np2)).trans ((Mv.new np3).trans (Mv.new np4)))))
            · rw [List.length_take, List.length_append, List.length_drop, List.length_take]
              omega
            · have h := List.mem_of_mem_take hx
              rcases List.mem_append.mp h with h | h
              · exact hwN x (List.mem_of_mem_drop h)
              · exact hwN x (List.mem_of_mem_take h)
            · rw [upd_same, cutV_to (by omega), List.map_take, List.map_append, List.map_drop, List.map_take]
              rfl
        · refine ⟨.int way, rfl, Or.inl ⟨rfl, _, rfl, ite2 (fun e => ?_) (fun e => ?_)⟩⟩
          · refine ⟨.int n, rfl, (n : Int), rfl, by omega, by omega, fun D8 nD8 => ?_⟩
            refine lc_range (lo := 0) (n := (n : Int).toNat) (fun i H8 => ∃ xs : List Str, H8 D8 = some (.lst (xs.map V.str)) ∧ xs.length = i ∧ (∀ x ∈ xs, Nm x) ∧ Mv [] H7 H8)
              ⟨[], upd_same, rfl, by simp, .new nD8⟩ (fun i H8 hi h8 => ?_) (fun H8 h8 => ?_)
            · obtain ⟨xs, e8, l8, c8, m8⟩ := h8
              refine ⟨rfl, _, rfl, .int turn, rfl, _, rfl, Or.inl ⟨3, _, rfl, rfl, .inl ⟨by decide, by decide⟩, Or.inl ⟨turn, _, rfl, rfl, Or.inl ⟨_, rfl, _, _, rfl, rfl, (by decide : (0 : Int) < _), ?_⟩⟩⟩⟩
              refine rd_letter (by decide +kernel) (Int.emod_nonneg _ (by decide)) (Int.emod_lt_of_pos _ (by decide)) fun c hc0 hc1 _ => ?_
              refine ⟨_, e8, ?_, xs ++ [⟨#[c]⟩], ?_, by simp [l8], ?_, m8.wr nD8⟩
              · rw [List.length_map, l8]
                exact small1000 (by omega)
              · rw [upd_same, List.map_append]
                rfl
              · intro z hz
                rcases List.mem_append.mp hz with hz | hz
                · exact c8 z hz
                · rw [List.mem_singleton.mp hz]
                  exact ⟨by rw [lenL]; decide, by rw [lenL]; decide, by simpa using ⟨hc0, hc1⟩⟩
            · obtain ⟨xs, e8, l8, c8, m8⟩ := h8
              exact q D8 xs H8 (by omega) c8 (dH7.free hB nD8) e8 (dH7.trans (Dr.of m8))
          · refine ⟨.int n, rfl, (n : Int), rfl, by omega, by omega, fun D8 nD8 => ?_⟩
            obtain ⟨at', rfl⟩ := Int.eq_ofNat_of_zero_le hp0
            have hat : at' ≤ B.length := by omega
            refine lc_range (lo := 0) (n := (n : Int).toNat) (fun i H8 => ∃ xs : List Str, H8 D8 = some (.lst (xs.map V.str)) ∧ xs.length = i ∧ (∀ x ∈ xs, Nm x) ∧ Mv [] H7 H8)
              ⟨[], upd_same, rfl, by simp, .new nD8⟩ (fun i H8 hi h8 => ?_) (fun H8 h8 => ?_)
            · obtain ⟨xs, e8, l8, c8, m8⟩ := h8
              have hsz : B.length ≤ sizeLine := Nat.le_of_lt (small1000 (by omega))
              have l1 : (cutS B none (some (at' : Int))).length = at' := by rw [← len_cps, cutS_to B at' hat, List.length_take, len_cps]; omega
              have l2 : (cutS B (some (at' : Int)) none).length = B.length - at' := by rw [← len_cps, cutS_from B at' hat, List.length_drop, len_cps]
              refine ⟨rfl, .str B, rfl, _, rfl, _, rfl, Or.inr (Or.inr ⟨B, rfl, hsz, _, rfl, .int turn, rfl, _, rfl, Or.inl ⟨3, _, rfl, rfl, .inl ⟨by decide, by decide⟩, Or.inl ⟨turn, _, rfl, rfl, Or.inl ⟨_, rfl, _, _, rfl, rfl, (by decide : (0 : Int) < _), ?_⟩⟩⟩⟩)⟩
              refine rd_letter (by decide +kernel) (Int.emod_nonneg _ (by decide)) (Int.emod_lt_of_pos _ (by decide)) fun c hc0 hc1 _ => ?_
              refine Or.inr (Or.inl ⟨_, _, rfl, rfl, by rw [l1, lenL]; exact Nat.le_of_lt (small1000 (by omega)), .str B, rfl, _, rfl, _, rfl, Or.inr (Or.inr ⟨B, rfl, hsz, Or.inr (Or.inl ⟨_, _, rfl, rfl, ?_, ?_⟩)⟩)⟩)
              · rw [str_len_append, l1, l2, lenL]
                exact Nat.le_of_lt (small1000 (by omega))
              · refine ⟨_, e8, ?_, xs ++ [cutS B none (some (at' : Int)) ++ ⟨#[c]⟩ ++ cutS B (some (at' : Int)) none], ?_, by simp [l8], ?_, m8.wr nD8⟩
                · rw [List.length_map, l8]
                  exact small1000 (by omega)
                · rw [upd_same, List.map_append]
                  rfl
                · intro z hz
                  rcases List.mem_append.mp hz with hz | hz
                  · exact c8 z hz
                  · rw [List.mem_singleton.mp hz]
                    refine ⟨?_, ?_, fun d hd => ?_⟩
                    · rw [str_len_append, str_len_append, l1, l2, lenL]
                      omega
                    · rw [str_len_append, str_len_append, l1, l2, lenL]
                      omega
                    · rw [str_cps_append, str_cps_append, cutS_to B at' hat, cutS_from B at' hat] at hd
                      rcases List.mem_append.mp hd with hd | hd
                      · rcases List.mem_append.mp hd with hd | hd
                        · exact hBc d (List.mem_of_mem_take hd)
                        · have : d = c := by simpa using hd
                          rw [this]
                          exact ⟨hc0, hc1⟩
                      · exact hBc d (List.mem_of_mem_drop hd)
            · obtain ⟨xs, e8, l8, c8, m8⟩ := h8
              exact q D8 xs H8 (by omega) c8 (dH7.free hB nD8) e8 (dH7.trans (Dr.of m8))
end
end Fm
namespace Fm
open PySem PySem.Spec PyProof.Rows L2
def sp_term (K : PySem.W.Frag) (d : Nat) : Sp := fun vs H Q _ => ∃ (b nm : Addr) (xs : List Str) (many deep : Int), vs = [.ref b, .ref nm, .int many, .int deep] ∧ Bag H b ∧
  H nm = some (.lst (xs.map V.str)) ∧ nm ≠ b ∧ xs ≠ [] ∧ xs.length ≤ 1000 ∧ (∀ x ∈ xs, Nm x) ∧ 0 ≤ many ∧ many ≤ 1000000 ∧ deep.toNat < d ∧
  ∀ v (t : Tm) H', t.ok (fun i => 0 ≤ i ∧ i < many) → t.dep ≤ max deep.toNat 1 → (0 < many → t.dep ≤ deep.toNat) → Im K H' v t.d → Dr b H H' → Q v H'
local macro_rules | `(tactic| walk_at "nn") => `(tactic| dsimp only [tC, tNil, tCons, tCB, tCall, gName, tSeq, tAsg, tPar, tDrop, tRet])
section
variable {P : Program} {w : World} {K : PySem.W.Frag} {mg : Str → Option Value} {base : Heap}
theorem ok__law_term (T : TX K mg) : ∀ d : Nat, FnOk P w K mg base CX0 (d + 2) T.d__law_term.f T.d__law_term.fd P__law_term (sp_term K d)
  | 0 => ⟨fun vs H Q E h => by obtain ⟨_, _, _, _, _, _, _, _, _, _, _, _, _, _, h, _⟩ := h; omega, fun _ _ _ _ _ _ _ _ _ _ _ _ _ h => by obtain ⟨_, _, _, _, _, _, _, _, _, _, _, _, _, _, h, _⟩ := h; omega⟩
  | d + 1 => by
    have G__law_term := ok__law_term T d
    have G__law_take : FnOk P w K mg base CX0 1 T.d__law_take.f T.d__law_take.fd P__law_take sp_take := ok__law_take T
    refine T.d__law_term.F.ok sc__law_term (fun vs H Q E h => ?_) (fun cdv A outer s H vs Q E hr h => ?_)
    · obtain ⟨b, nm, xs, many, deep, rfl, _⟩ := h
      rfl
    · obtain ⟨b, nm, xs, many, deep, rfl, hB, hN, hnb, hx0, hx1, hxN, hm0, hm1, hd, q⟩ := h
      have hu64 := hr.units
      have hlen : 0 < xs.length := List.length_pos_iff.mpr hx0
      refine ⟨_, (pss_cons (ps_set (i := 4) sc__law_term.nd rfl (Or.inl rfl) (pe_call G__law_take (hr.mono (by omega)) rfl T.d__law_take.g T.d__law_take.F.kp T.d__law_take.b .nil pass0 (pa_cons (pv 0) (pa_cons pe_int pa_nil)))) (pss_cons (ps_if (PW.pt (pw_and (pt_cmpR op_gt (pv 2) pe_int (nomark _)) (pw_and1 (PW.pt (pw_or (pt_cmpR op_lt (pv 3) pe_int (nomark _)) (pw_or1 (pt_cmpR (r := rEqG K) (op_eqG hu64) (pv 4) pe_int (nomark _)))))))) (pss_one (ps_ret (pe_call G__law_take (hr.mono (by omega)) rfl T.d__law_take.g T.d__law_take.F.kp T.d__law_take.b .nil pass0 (pa_cons (pv 0) (pa_cons (pv 2) pa_nil))))) pss_nil) (pss_cons (ps_par (i := 5) (j := 6) rfl sc__law_term.nd rfl rfl (by decide) rfl rfl (pa_cons (pe_ix (r := rIx K) ix_seq (pv 1) (pe_call G__law_take (hr.mono (by omega)) rfl T.d__law_take.g T.d__law_take.F.kp T.d__law_take.b .nil pass0 (pa_cons (pv 0) (pa_cons (pe_callB (r := rLenG K) call_lenG (by rfl) T.b_len bt_len (pa_cons (pv 1) pa_nil)) pa_nil))) (fun _ _ => rfl)) (pa_cons (pe_call G__law_take (hr.mono (by omega)) rfl T.d__law_take.g T.d__law_take.F.kp T.d__law_take.b .nil pass0 (pa_cons (pv 0) (pa_cons pe_int pa_nil))) pa_nil)) rfl) (pss_cons (ps_if (PW.pt (pw_or (PW.pt (pw_and (pt_cmpR op_le (pv 3) pe_int (nomark _)) (pw_and1 (pt_cmpR (r := rEqG K) (op_eqG hu64) (pv 2) pe_int (nomark _))))) (pw_or1 (pt_cmpR (r := rEqG K) (op_eqG hu64) (pv 4) pe_int (nomark _))))) (pss_one (ps_ret (pe_tup (pa_cons (pv 5) pa_nil)))) pss_nil) (pss_one (ps_ret (pe_op (r := rAddG K) op_addG (pe_tup (pa_cons (pv 5) pa_nil)) (pe_callTy (r := rTupOf K) call_tupG (by rfl) T.b_tuple bt_tuple (pa_cons (pe_lc (own := [("_law_k", 7)]) (g := gName 7) (by rfl) sc__law_term.nd (pi_range1 (by rfl) T.b_range (pa_cons (pv 6) pa_nil)) (blkOk_by (own := [("_law_k", 7)]) (N := N__law_term) (sc := defScope s__law_term) (by decide +kernel)) (fun _ _ _ _ _ => pg_name (i := 7) sc__law_term.nd rfl (Or.inl rfl)) (fun _ _ _ _ _ => pts_nil) (fun _ _ _ _ _ => (pe_call G__law_term (hr.mono (by omega)) rfl T.d__law_term.g T.d__law_term.F.kp T.d__law_term.b .nil pass0 (pa_cons (pv 0) (pa_cons (pv 1) (pa_cons (pv 2) (pa_cons (pe_op op_sub (pv 3) pe_int) pa_nil))))))) pa_nil))))))))), ?_⟩
      -- way
      refine ⟨.ref b, rfl, b, 4, rfl, hB, by decide, by decide, fun way H1 hw0 hw1 d1 => ?_⟩
      have hB1 := d1.bag hB
      have hN1 := d1.get hnb hN
      dsimp only [gName, tSeq, tPar]
      refine st_if (tb_and (tb_test (tv_I (tv_var rfl) tv_c)) (tb_or (tb_test (tv_I (tv_var rfl) tv_c)) (tb_test (tv_eqI (tv_var rfl) tv_c)))) ?_ ?_
      · -- an unknown
        intro e
        simp only [Bool.and_eq_true, decide_eq_true_eq] at e
        refine ⟨.ref b, rfl, .int many, rfl, b, many, rfl, hB1, e.1, hm1, fun i H2 hi0 hi1 d2 => ?_⟩
        exact q _ (.var i) H2 ⟨hi0, hi1⟩ (by simp [Tm.dep]) (fun _ => by simp [Tm.dep]) (Im.int i) (d1.trans d2)
      · intro e
        have e1 : ¬ (0 < many ∧ deep < 1) := fun z => by simp [z.1, z.2] at e
        -- name, parts
        refine ⟨.ref nm, rfl, .ref b, rfl, .ref nm, rfl, ?_⟩
        walk_at "nn"
        refine rd_len (.inl (.inl (.inl hN1))) ?_
        refine ⟨b, _, rfl, hB1, by rw [List.length_map]; omega, by rw [List.length_map]; omega, fun ni H2 hn0 hn1 d2 => ?_⟩
        rw [List.length_map] at hn1
        have hni : ni.toNat < xs.length := by omega
        have hB2 := d2.bag hB1
        have hN2 := d2.get hnb hN1
        refine rd_ixL (.inl (.inl hN2)) hn0 (v := .str xs[ni.toNat]) (by rw [List.getElem?_map, List.getElem?_eq_getElem hni]; rfl) ?_
        obtain ⟨nx, hnx, hNm⟩ : ∃ nx, nx = xs[ni.toNat] ∧ Nm nx := ⟨_, rfl, hxN _ (List.getElem_mem hni)⟩
        rw [← hnx]
        refine ⟨.ref b, rfl, b, 4, rfl, hB2, by decide, by decide, fun parts H3 hp0 hp1 d3 => ⟨_, _, rfl, ?_⟩⟩
        have hB3 := d3.bag hB2
        have hN3 := d3.get hnb hN2
        have d13 := (d1.trans d2).trans d3
        refine st_if (tb_or (tb_and (tb_test (tv_I (tv_var rfl) tv_c)) (tb_test (tv_eqI (tv_var rfl) tv_c))) (tb_test (tv_eqI (tv_var rfl) tv_c))) ?_ ?_
        · -- a constant
          intro e
          refine ⟨_, rfl, (by decide : 1 ≤ sizeLine), fun p np => ?_⟩
          refine q _ (.op nx []) _ ⟨hNm, by simp, trivial⟩ (by simp [Tm.dep, Tm.deps]; omega) (fun z => ?_) (Im.tup (.inl (.inl upd_same)) (Ims.cons (Im.str nx) Ims.nil)) (d13.trans (Dr.new np))
          simp only [Tm.dep, Tm.deps]
          omega
        · intro e
          have e2 : ¬ (deep ≤ 1 ∧ many = 0) := fun z => by simp [z.1, z.2] at e
          have hdeep : 1 ≤ deep := by omega
          refine ⟨_, rfl, (by decide : 1 ≤ sizeLine), fun p np => ?_⟩
          have d4 := d13.trans (Dr.new (o := .tup [.str nx]) np)
          have e4 : SqT K (upd H3 p (.tup [.str nx])) p [.str nx] := .inl (.inl upd_same)
          have hB4 := d4.bag hB
          have hN4 := d4.get hnb hN
          generalize upd H3 p (.tup [.str nx]) = H4 at d4 e4 hB4 hN4 ⊢
          refine ⟨.int parts, rfl, parts, rfl, by omega, by omega, fun D nD => ?_⟩
          refine lc_range (lo := 0) (n := parts.toNat) (fun i H5 => ∃ (vs : List V) (ts : List Tm), H5 D = some (.lst vs) ∧ Ims K H5 vs (Tm.ds ts) ∧ ts.length = i ∧ Tm.oks (fun i => 0 ≤ i ∧ i < many) ts ∧ Tm.deps ts ≤ max (deep - 1).toNat 1 ∧ (0 < many → Tm.deps ts ≤ (deep - 1).toNat) ∧ Dr b H4 H5)
            ⟨[], [], upd_same, Ims.nil, rfl, trivial, by simp [Tm.deps], fun _ => by simp [Tm.deps], Dr.new nD⟩ (fun i H5 hi h5 => ?_) (fun H5 h5 => ?_)
          · obtain ⟨vs, ts, e5, i5, l5, o5, p5, r5, d5⟩ := h5
            have hB5 := d5.bag hB4
            have hN5 := d5.get hnb hN4
            refine ⟨rfl, .ref b, rfl, .ref nm, rfl, .int many, rfl, .int deep, rfl, deep, 1, rfl, rfl, b, nm, xs, many, deep - 1, rfl, hB5, hN5, hnb, hx0, hx1, hxN, hm0, hm1, by omega, fun v t H6 ho hd1 hd2 him d6 => ?_⟩
            refine ⟨_, d6.get (hB4.fneq nD) e5, ?_, vs ++ [v], ts ++ [t], upd_same, ?_, by simp [l5], ?_, ?_, fun z => ?_, (d5.trans d6).wr nD⟩
            · rw [i5.length, Tm.ds_map, List.length_map, l5]
              exact small1000 (by omega)
            · rw [show Tm.ds (ts ++ [t]) = Tm.ds ts ++ [t.d] by simp [Tm.ds_map]]
              exact ((i5.mv d6.mv).append (Ims.cons him Ims.nil)).mv (Mv.set (S := [D]) (d6.get (hB4.fneq nD) e5) (by simp))
            · rw [Tm.oks_iff] at o5 ⊢
              intro y hy
              rcases List.mem_append.mp hy with hy | hy
              · exact o5 y hy
              · rw [List.mem_singleton.mp hy]
                exact ho
            · rw [Tm.deps_le] at p5 ⊢
              intro y hy
              rcases List.mem_append.mp hy with hy | hy
              · exact p5 y hy
              · rw [List.mem_singleton.mp hy]
                exact hd1
            · have r5' := r5 z
              have hd2' := hd2 z
              rw [Tm.deps_le] at r5' ⊢
              intro y hy
              rcases List.mem_append.mp hy with hy | hy
              · exact r5' y hy
              · rw [List.mem_singleton.mp hy]
                exact hd2'
          · obtain ⟨vs, ts, e5, i5, l5, o5, p5, r5, d5⟩ := h5
            walk_at "nn"
            refine rd_tupOf (.inl (.inl e5)) fun p6 H6 m6 e6 => ?_
            refine rd_cat (m6.sqT (d5.mv.sqT e4)) e6 ?_ fun p7 H7 m7 e7 => ?_
            · rw [i5.length, Tm.ds_map, List.length_map, l5]
              exact Nat.le_of_lt (small1000 (by simp; omega))
            · refine q _ (.op nx ts) H7 ⟨hNm, by omega, o5⟩ ?_ (fun z => ?_) (Im.tup e7 ?_) (d4.trans (d5.trans (Dr.of (m6.trans m7))))
              · simp only [Tm.dep]
                omega
              · have := r5 z
                simp only [Tm.dep]
                omega
              · exact Ims.cons (Im.str nx) ((i5.mv m6).mv m7)
end
end Fm
namespace Fm
open PySem PySem.Spec PyProof.Rows L2
local macro_rules | `(tactic| walk_at "nn") => `(tactic| dsimp only [tC, tNil, tCons, tCB, tCall, gName, tSeq, tAsg, tPar, tDrop, tRet])
/-- values by numbers: in a list, a tuple, a dict -/
def Look1 (K : PySem.W.Frag) (H : Hp) (vals : V) (P : Int → Prop) (f : Int → Tm) : Prop := ∃ a, vals = .ref a ∧
  ((∃ xs, SqL K H a xs ∧ ∀ i, P i → 0 ≤ i ∧ ∃ v, xs[i.toNat]? = some v ∧ Im K H v (f i).d) ∨
   (∃ xs, SqT K H a xs ∧ ∀ i, P i → 0 ≤ i ∧ ∃ v, xs[i.toNat]? = some v ∧ Im K H v (f i).d) ∨
   (∃ kvs, H a = some (.dK kvs) ∧ ∀ i, P i → ∃ v, valV kvs (.inl i) = some v ∧ Im K H v (f i).d))
theorem Look1.mv {K : PySem.W.Frag} {H H' : Hp} {vals : V} {P : Int → Prop} {f : Int → Tm} (h : Look1 K H vals P f) (m : Mv [] H H') : Look1 K H' vals P f := by
  obtain ⟨a, rfl, h⟩ := h
  refine ⟨a, rfl, ?_⟩
  rcases h with ⟨xs, h1, h2⟩ | ⟨xs, h1, h2⟩ | ⟨xs, h1, h2⟩
  · refine .inl ⟨xs, m.same.seq h1, fun i hi => ?_⟩
    obtain ⟨h0, v, hv, hm⟩ := h2 i hi
    exact ⟨h0, v, hv, hm.mv m⟩
  · refine .inr (.inl ⟨xs, m.sqT h1, fun i hi => ?_⟩)
    obtain ⟨h0, v, hv, hm⟩ := h2 i hi
    exact ⟨h0, v, hv, hm.mv m⟩
  · refine .inr (.inr ⟨xs, m.same _ _ h1, fun i hi => ?_⟩)
    obtain ⟨v, hv, hm⟩ := h2 i hi
    exact ⟨v, hv, hm.mv m⟩
def sp_put (K : PySem.W.Frag) (d : Nat) : Sp := fun vs H Q _ => ∃ (v vals : V) (t : Tm) (P : Int → Prop) (f : Int → Tm), vs = [v, vals] ∧ Im K H v t.d ∧ t.ok P ∧ t.dep < d ∧ Look1 K H vals P f ∧
  ∀ v' H', Mv [] H H' → Im K H' v' (t.put f).d → Q v' H'
section
variable {P : Program} {w : World} {K : PySem.W.Frag} {mg : Str → Option Value} {base : Heap}

theorem ok__law_put (T : TX K mg) : ∀ d : Nat, FnOk P w K mg base CX0 (d + 1) T.d__law_put.f T.d__law_put.fd P__law_put (sp_put K d)
  | 0 => ⟨fun vs H Q E h => by obtain ⟨_, _, _, _, _, _, _, _, h, _⟩ := h; omega, fun _ _ _ _ _ _ _ _ _ _ _ _ _ h => by obtain ⟨_, _, _, _, _, _, _, _, h, _⟩ := h; omega⟩
  | d + 1 => by
    have G__law_put := ok__law_put T d
    refine T.d__law_put.F.ok sc__law_put (fun vs H Q E h => ?_) (fun cdv A outer s H vs Q E hr h => ?_)
    · obtain ⟨_, _, _, _, _, rfl, _⟩ := h
      rfl
    · obtain ⟨v, vals, t, R, f, rfl, him, hok, hdp, hlk, q⟩ := h
      have hu1 := hu_of hr
      refine ⟨_, (pss_cons (ps_if (pt_val (pe_callB (r := rIsi K) call_isi (by rfl) T.b_isinstance bt_isinstance (pa_cons (pv 0) (pa_cons (pe_ty T.b_int bt_int) pa_nil)))) (pss_one (ps_ret (pe_or2 (pe_ix (r := rIx K) ix_seq (pv 1) (pv 0) (fun _ _ => rfl)) (pe_dget hu1 (pv 1) (pv 0) (fun _ _ => rfl))))) pss_nil) (pss_one (ps_ret (pe_op (r := rAddG K) op_addG (pe_slice (r := rSlG K) sl_G (pv 0) po_none (po_some pe_int)) (pe_callTy (r := rTupOf K) call_tupG (by rfl) T.b_tuple bt_tuple (pa_cons (pe_lc (own := [("_law_part", 2)]) (g := gName 2) (by rfl) sc__law_put.nd (pi_seq (pe_slice (r := rSlG K) sl_G (pv 0) (po_some pe_int) po_none)) (blkOk_by (own := [("_law_part", 2)]) (N := N__law_put) (sc := defScope s__law_put) (by decide +kernel)) (fun _ _ _ _ _ => pg_name (i := 2) sc__law_put.nd rfl (Or.inl rfl)) (fun _ _ _ _ _ => pts_nil) (fun _ _ _ _ _ => (pe_call G__law_put (hr.mono (by omega)) rfl T.d__law_put.g T.d__law_put.F.kp T.d__law_put.b .nil pass0 (pa_cons (pv 2) (pa_cons (pv 1) pa_nil))))) pa_nil)))))), ?_⟩
      refine ⟨v, rfl, ?_⟩
      walk_at "nn"
      refine rd_isInt him ?_
      refine ⟨_, rfl, ?_⟩
      cases t with
      | var i =>
        cases him.intI
        obtain ⟨a, rfl, hlk⟩ := hlk
        rcases hlk with ⟨xs, h1, h2⟩ | ⟨xs, h1, h2⟩ | ⟨xs, h1, h2⟩
        · obtain ⟨h0, y, hy, hm⟩ := h2 i hok
          exact Or.inl ⟨.ref a, rfl, .int i, rfl, rd_ixL h1 h0 hy (q _ _ .refl hm)⟩
        · obtain ⟨h0, y, hy, hm⟩ := h2 i hok
          exact Or.inl ⟨.ref a, rfl, .int i, rfl, rd_ixT h1 h0 hy (q _ _ .refl hm)⟩
        · obtain ⟨y, hy, hm⟩ := h2 i hok
          exact Or.inr ⟨.ref a, rfl, .int i, rfl, a, y, rfl, by rw [← hy]; exact DGet.k (k := .inl i) h1, q _ _ .refl hm⟩
      | op x ts =>
        obtain ⟨a, xs0, rfl, ha, hxs⟩ := him.tupI
        obtain ⟨x', xs, rfl, hx', hys⟩ := hxs.invD
        cases hx'.strI
        refine ⟨.ref a, rfl, 1, rfl, rd_slA ha fun p1 H1 m1 e1 => ⟨.ref a, rfl, 1, rfl, rd_sl1 (m1.sqT ha) fun p2 H2 m2 e2 => ⟨p2, rfl, Or.inr ⟨⟨_, e2⟩, fun D nD => ?_⟩⟩⟩⟩
        have m12 := m1.trans m2
        have hl : xs.length = ts.length := by rw [hys.length, Tm.ds_map, List.length_map]
        refine lc_tup (K := K) (a := p2) (xs := xs) (fun i H3 => ∃ ys, H3 D = some (.lst ys) ∧ Ims K H3 ys (Tm.ds ((ts.take i).map (Tm.put f))) ∧ Mv [] H2 H3)
          ⟨[], upd_same, Ims.nil, .new nD⟩ (fun i H3 _ h3 => ?_) (fun i z H3 hz h3 => ?_) (fun H3 h3 => ?_)
        · obtain ⟨ys, _, _, m3⟩ := h3
          exact m3.sqT e2
        · obtain ⟨ys, e3, i3, m3⟩ := h3
          obtain ⟨zd, hzd, hzi⟩ := hys.get hz
          rw [Tm.ds_map, List.getElem?_map] at hzd
          obtain ⟨zt, hzt, rfl⟩ := Option.map_eq_some_iff.mp hzd
          have hmem := List.mem_of_getElem? hzt
          refine ⟨rfl, z, rfl, vals, rfl, z, vals, zt, R, f, rfl, hzi.mv (m12.trans m3), Tm.oks_iff.mp hok.2.2 zt hmem, ?_, hlk.mv (m12.trans m3), fun y H4 m4 h4 => ?_⟩
          · have h5 := Tm.deps_le.mp (show Tm.deps ts ≤ Tm.deps ts from Nat.le_refl _) zt hmem
            simp only [Tm.dep] at hdp
            omega
          · have e4 := m4.same _ _ e3
            refine ⟨_, e4, ?_, ys ++ [y], upd_same, ?_, (m3.trans m4).wr nD⟩
            · have h6 := (List.getElem?_eq_some_iff.mp hzt).1
              have h7 := hok.2.1
              rw [i3.length, Tm.ds_map, List.length_map, List.length_map, List.length_take]
              exact small1000 (by omega)
            · rw [List.take_add_one, hzt]
              rw [show Tm.ds (List.map (Tm.put f) (ts.take i ++ (some zt).toList)) = Tm.ds ((ts.take i).map (Tm.put f)) ++ [(zt.put f).d] by simp [Tm.ds_map]]
              exact ((i3.mv m4).append (Ims.cons h4 Ims.nil)).mv (Mv.set (S := [D]) e4 (by simp))
        · obtain ⟨ys, e3, i3, m3⟩ := h3
          rw [hl, List.take_length] at i3
          walk_at "nn"
          refine rd_tupOf (.inl (.inl e3)) fun p4 H4 m4 e4 => ?_
          refine rd_cat (m4.sqT (m3.sqT (m2.sqT e1))) e4 ?_ fun p5 H5 m5 e5 => ?_
          · have h7 := hok.2.1
            rw [i3.length, Tm.ds_map, List.length_map, List.length_map]
            exact Nat.le_of_lt (small1000 (by simp; omega))
          · refine q _ H5 (((m12.trans m3).trans m4).trans m5) (Im.tup e5 (Ims.cons (Im.str x) ?_))
            rw [← Tm.puts_map] at i3
            exact (i3.mv m4).mv m5

end
end Fm
namespace Fm
open PySem PySem.Spec PyProof.Rows L2
local macro_rules | `(tactic| walk_at "nn") => `(tactic| dsimp only [tC, tNil, tCons, tCB, tCall, gName, tSeq, tAsg, tPar, tDrop, tRet])
theorem line5 {n : Nat} (h : n ≤ 100000) : n ≤ sizeLine := Nat.le_trans h (by decide)
theorem line5lt {n : Nat} (h : n ≤ 100000) : n < sizeLine := Nat.lt_of_le_of_lt h (by decide)
theorem Tm.mem_parts {x : Str} {us ts : List Tm} (h : Tm.op x us ∈ ts) : Tm.deps us < Tm.deps ts := by
  have := Tm.deps_le.mp (show Tm.deps ts ≤ Tm.deps ts from Nat.le_refl _) _ h
  simp only [Tm.dep] at this
  omega
theorem Tm.lv_mem : ∀ {t : Tm} {ts : List Tm}, t ∈ ts → t.lv ≤ Tm.lvs ts
  | t, u :: ts, h => by
    rcases List.mem_cons.mp h with rfl | h
    · simp only [Tm.lvs]; omega
    · have := Tm.lv_mem h
      simp only [Tm.lvs]; omega
theorem Tm.lvs_take : ∀ (i : Nat) (ts : List Tm), Tm.lvs (ts.take i) ≤ Tm.lvs ts
  | 0, ts => by simp [Tm.lvs]
  | i + 1, [] => by simp [Tm.lvs]
  | i + 1, t :: ts => by
    have := Tm.lvs_take i ts
    simp only [List.take_succ_cons, Tm.lvs]
    omega
def sp_leavesR (K : PySem.W.Frag) (d : Nat) : Sp := fun vs H Q _ => ∃ (a : Addr) (xs : List V) (ts : List Tm), vs = [.ref a] ∧ (SqL K H a xs ∨ SqT K H a xs) ∧ Ims K H xs (Tm.ds ts) ∧ Tm.deps ts < d ∧ Tm.lvs ts ≤ 100000 ∧
  ∀ p H', H p = none → Mv [] H H' → H' p = some (.lst ((Tm.leavesL ts).map V.int)) → Q (.ref p) H'
def sp_sizeR (K : PySem.W.Frag) (d : Nat) : Sp := fun vs H Q _ => ∃ (a : Addr) (xs : List V) (ts : List Tm), vs = [.ref a] ∧ (SqL K H a xs ∨ SqT K H a xs) ∧ Ims K H xs (Tm.ds ts) ∧ Tm.deps ts < d ∧ ts.length ≤ 100000 ∧ Tm.oks (fun _ => True) ts ∧
  ∀ H', Mv [] H H' → Q (.int (Tm.sizes ts)) H'
section
variable {P : Program} {w : World} {K : PySem.W.Frag} {mg : Str → Option Value} {base : Heap}
theorem ok__law_leaves (T : TX K mg) : ∀ d : Nat, FnOk P w K mg base CX0 (d + 1) T.d__law_leaves.f T.d__law_leaves.fd P__law_leaves (sp_leavesR K d)
  | 0 => ⟨fun vs H Q E h => by obtain ⟨_, _, _, _, _, _, h, _⟩ := h; omega, fun _ _ _ _ _ _ _ _ _ _ _ _ _ h => by obtain ⟨_, _, _, _, _, _, h, _⟩ := h; omega⟩
  | d + 1 => by
    have G__law_leaves := ok__law_leaves T d
    refine T.d__law_leaves.F.ok sc__law_leaves (fun vs H Q E h => ?_) (fun cdv A outer s H vs Q E hr h => ?_)
    · obtain ⟨_, _, _, rfl, _⟩ := h
      rfl
    · obtain ⟨a, xs, ts, rfl, hS, hxs, hdp, hlv, q⟩ := h
      refine ⟨_, (pss_cons (ps_set (i := 1) sc__law_leaves.nd rfl (Or.inl rfl) (pe_lst pa_nil)) (pss_cons (ps_for PassesOwn.never rfl (pi_seq (pv 0)) (pg_name (i := 2) sc__law_leaves.nd rfl (Or.inl rfl)) (pss_one (ps_set (i := 1) sc__law_leaves.nd rfl (Or.inl rfl) (pe_op (r := rAddG K) op_addG (pv 1) (pe_ifExp (pt_val (pe_callB (r := rIsi K) call_isi (by rfl) T.b_isinstance bt_isinstance (pa_cons (pv 2) (pa_cons (pe_ty T.b_int bt_int) pa_nil)))) (pe_lst (pa_cons (pv 2) pa_nil)) (pe_call G__law_leaves (hr.mono (by omega)) rfl T.d__law_leaves.g T.d__law_leaves.F.kp T.d__law_leaves.b .nil pass0 (pa_cons (pe_slice (r := rSlG K) sl_G (pv 2) (po_some pe_int) po_none) pa_nil))))))) (pss_one (ps_ret (pv 1))))), ?_⟩
      have hl : xs.length = ts.length := by rw [hxs.length, Tm.ds_map, List.length_map]
      refine ⟨Nat.zero_le _, fun p0 n0 => ⟨.ref a, rfl, a, rfl, ?_⟩⟩
      have m0 : Mv [] H (upd H p0 (.lst [])) := .new n0
      refine for_seq (xs := xs) (hS.elim (fun h => .inl (m0.same.seq h)) (fun h => .inr (m0.sqT h))) (fun i σ H1 => ∃ p y, σ = [some (.ref a), some (.ref p), y] ∧ H p = none ∧ H1 p = some (.lst ((Tm.leavesL (ts.take i)).map V.int)) ∧ Mv [] (upd H p0 (.lst [])) H1)
        ⟨p0, none, rfl, n0, upd_same, .refl⟩ (fun i σ H1 h1 => ?_) (fun i x σ H1 hx h1 => ?_) (fun σ H1 h1 => ?_)
      · obtain ⟨_, _, _, _, _, m⟩ := h1
        exact m
      · obtain ⟨p, y, rfl, np, ep, m⟩ := h1
        have mH := m0.trans m
        obtain ⟨xd, hxd, him⟩ := hxs.get hx
        rw [Tm.ds_map, List.getElem?_map] at hxd
        obtain ⟨t, ht, rfl⟩ := Option.map_eq_some_iff.mp hxd
        have hmem := List.mem_of_getElem? ht
        have htake : Tm.leavesL (ts.take (i + 1)) = Tm.leavesL (ts.take i) ++ t.leaves := by
          rw [List.take_add_one, ht, Tm.leavesL_append]
          simp [Tm.leavesL]
        have hb : (Tm.leavesL (ts.take i)).length + t.leaves.length ≤ 100000 := by
          have h1 := Tm.lvs_take (i + 1) ts
          rw [← Tm.leavesL_len, htake, List.length_append] at h1
          omega
        refine ⟨.ref p, rfl, x, rfl, ?_⟩
        walk_at "nn"
        refine rd_isInt (him.mv mH) ?_
        refine ⟨_, rfl, ?_⟩
        cases t with
        | var j =>
          cases him.intI
          refine ⟨.int j, rfl, (by decide : 1 ≤ sizeLine), fun p1 n1 => ?_⟩
          refine rd_catL (by rw [upd_ne (ne_of_none ep n1)]; exact ep) upd_same (line5 (by simpa [Tm.leaves] using hb)) fun p2 H2 n2 m2 e2 => ?_
          refine ⟨p2, _, rfl, ((mH.trans (.new n1)).free n2), ?_, m.trans ((Mv.new n1).trans m2)⟩
          rw [e2, htake, List.map_append]
          rfl
        | op x us =>
          obtain ⟨a1, ys0, rfl, ha1, hys⟩ := him.tupI
          obtain ⟨x', ys, rfl, hx', hzs⟩ := hys.invD
          refine ⟨.ref a1, rfl, 1, rfl, rd_sl1 (mH.sqT ha1) fun p1 H2 m1 e1 => ?_⟩
          have hlt := Tm.mem_parts hmem
          have hle := Tm.lv_mem hmem
          refine ⟨p1, ys, us, rfl, .inr e1, (hzs.mv mH).mv m1, by omega, by simp only [Tm.lv] at hle; omega, fun p2 H3 n2 m2 e2 => ?_⟩
          refine rd_catL ((m1.trans m2).same _ _ ep) e2 (line5 (by simpa [Tm.leaves] using hb)) fun p3 H4 n3 m3 e3 => ?_
          refine ⟨p3, _, rfl, ((mH.trans (m1.trans m2)).free n3), ?_, m.trans ((m1.trans m2).trans m3)⟩
          rw [e3, htake, List.map_append]
          simp [Tm.leaves]
      · obtain ⟨p, y, rfl, np, ep, m⟩ := h1
        rw [hl, List.take_length] at ep
        exact ⟨.ref p, rfl, q p H1 np (m0.trans m) ep⟩
end
end Fm
namespace Fm
open PySem PySem.Spec PyProof.Rows L2
local macro_rules | `(tactic| walk_at "nn") => `(tactic| dsimp only [tC, tNil, tCons, tCB, tCall, gName, tSeq, tAsg, tPar, tDrop, tRet])
local macro_rules | `(tactic| walk_at "nc") => `(tactic| dsimp only [tC, tNil, tCons, tCB])
/-- names at hand -/
structure Nms (H : Hp) (b nm : Addr) (xs : List Str) : Prop where
  at_ : H nm = some (.lst (xs.map V.str))
  ne : nm ≠ b
  some_ : xs ≠ []
  few : xs.length ≤ 1000
  ok : ∀ x ∈ xs, Nm x
theorem Nms.dr {H H' : Hp} {b nm : Addr} {xs : List Str} (h : Nms H b nm xs) (d : Dr b H H') : Nms H' b nm xs := ⟨d.get h.ne h.at_, h.ne, h.some_, h.few, h.ok⟩
def sp_alike (K : PySem.W.Frag) : Sp := fun vs H Q _ => ∃ (x y : V) (d : PyData), vs = [x, y] ∧ Dp K H x d ∧ Dp K H y d ∧ Shw d ∧ Q (.bl true) H
section
variable {P : Program} {w : World} {K : PySem.W.Frag} {mg : Str → Option Value} {base : Heap}
theorem ok__law_alike (T : TX K mg) {k : Nat} : FnOkG P w K mg base CX0 (k + 1) T.d__law_alike.f T.d__law_alike.fd P__law_alike (sp_alike K) := by
  refine okG T.d__law_alike.F sc__law_alike (fun vs H Q E h => ?_) (fun cdv A outer s H vs Q E hgd hr h => ?_)
  · obtain ⟨_, _, _, rfl, _⟩ := h
    rfl
  · obtain ⟨x, y, d, rfl, hx, hy, hs, q⟩ := h
    have hu64 := hr.units
    refine ⟨_, (pss_one (ps_ret (pe_and (pe_cmpR (r := rEqG K) (op_eqG hu64) (pv 0) (pv 1) (nomark _)) (pe_one (pe_cmpR (r := rEqG K) (op_eqG hu64) (pe_callB (r := rReprG K) (call_reprG hgd hu64) (by rfl) T.b_repr bt_repr (pa_cons (pv 0) pa_nil)) (pe_callB (r := rReprG K) (call_reprG hgd hu64) (by rfl) T.b_repr bt_repr (pa_cons (pv 1) pa_nil)) (nomark _)))))), ?_⟩
    have hf := fine_lay d hs.fi
    refine ⟨x, rfl, y, rfl, Or.inr ⟨d, d, hx, hy, hs.shaped, hs.shaped, _, rfl, ?_⟩⟩
    rw [hs.eqv]
    refine ⟨x, rfl, ?_⟩
    walk_at "nc"
    refine ⟨x, d, rfl, hx, hf.2.1, hf.2.2, hs.dp, hs.len, y, rfl, ?_⟩
    refine ⟨y, d, rfl, hy, hf.2.1, hf.2.2, hs.dp, hs.len, Or.inl ⟨rfl, ?_⟩⟩
    rw [decide_eq_true rfl]
    exact q
theorem ints_shaped : ∀ o : List Int, SeqAt.shaped (.list (o.map PyData.int)) = true := fun o => by
  have h1 : ∀ o : List Int, PyData.canLayAll0 (o.map PyData.int) = true := fun o => by
    induction o with
    | nil => rfl
    | cons x o ih => simp [PyData.canLayAll0, PyData.canLay0, ih]
  have h2 : ∀ o : List Int, PyData.depthAll (o.map PyData.int) = 0 := fun o => by
    induction o with
    | nil => rfl
    | cons x o ih => simp [PyData.depthAll, PyData.depth, ih]
  show (PyData.canLay0 (.list (o.map PyData.int)) && decide (PyData.depth (.list (o.map PyData.int)) ≤ 64)) = true
  simp only [PyData.canLay0, PyData.depth, h1, h2]
  rfl
theorem dp_ints {H : Hp} : ∀ o : List Int, DpAll K H (o.map V.int) (o.map PyData.int)
  | [] => .nil
  | x :: o => .cons (.int x) (dp_ints o)
theorem ints_any (o : List Int) (u : Int) : ((o.map PyData.int).any fun z => PyData.eqv z (.int u)) = decide (u ∈ o) := by
  rw [List.any_map]
  have e : ((fun z => PyData.eqv z (.int u)) ∘ PyData.int) = fun z => z == u := by
    funext z
    simp [PyData.eqv]
  rw [e, Bool.eq_iff_iff]
  simp
end
end Fm
namespace Fm
open PySem PySem.Spec PyProof.Rows L2
local macro_rules | `(tactic| walk_at "nn") => `(tactic| dsimp only [tC, tNil, tCons, tCB, tCall, gName, tSeq, tAsg, tPar, tDrop, tRet])
local macro_rules | `(tactic| walk_at "nc") => `(tactic| dsimp only [tC, tNil, tCons, tCB])
/-! a term built of others -/
theorem hu65_of {k : Nat} {A : Around} (h : Room k A) : A.units + 65 < cLine := by
  have := h.un
  omega
def fnd (f : Int → Tm) (ks : List Int) (t : Tm) : Option Int := ks.find? fun k => PyData.eqv (f k).d t.d
mutual
def bld (f : Int → Tm) (ks : List Int) : Tm → Option Tm
  | .var i => (fnd f ks (.var i)).map .var
  | .op x ts => match fnd f ks (.op x ts) with
    | some k => some (.var k)
    | none => (blds f ks ts).map (.op x)
def blds (f : Int → Tm) (ks : List Int) : List Tm → Option (List Tm)
  | [] => some []
  | t :: ts => match bld f ks t, blds f ks ts with
    | some a, some b => some (a :: b)
    | _, _ => none
end
def oD : Option Tm → PyData
  | none => .none
  | some t => t.d
theorem imm_oD : ∀ o : Option Tm, imm (oD o) = true
  | none => rfl
  | some t => imm_d t
theorem fnd_hit {f : Int → Tm} {ks : List Int} {t : Tm} {i : Nat} {k : Int} (h : ∀ j ∈ ks.take i, PyData.eqv (f j).d t.d = false) (hk : ks[i]? = some k) (e : PyData.eqv (f k).d t.d = true) : fnd f ks t = some k := by
  have hl := (List.getElem?_eq_some_iff.mp hk).1
  have hs : ks = ks.take i ++ k :: ks.drop (i + 1) := by
    rw [← (List.getElem?_eq_some_iff.mp hk).2, List.getElem_cons_drop, List.take_append_drop]
  unfold fnd
  rw [hs, List.find?_append]
  have h1 : (ks.take i).find? (fun k => PyData.eqv (f k).d t.d) = none := by
    rw [List.find?_eq_none]
    intro j hj
    rw [h j hj]
    exact Bool.false_ne_true
  rw [h1]
  simp [List.find?_cons, e]
theorem fnd_none {f : Int → Tm} {ks : List Int} {t : Tm} (h : ∀ j ∈ ks, PyData.eqv (f j).d t.d = false) : fnd f ks t = none := by
  unfold fnd
  rw [List.find?_eq_none]
  intro j hj
  rw [h j hj]
  exact Bool.false_ne_true
theorem blds_any (f : Int → Tm) (ks : List Int) : ∀ ts : List Tm, ((ts.map fun t => oD (bld f ks t)).any fun z => PyData.eqv z .none) = (blds f ks ts).isNone
  | [] => by simp [blds]
  | t :: ts => by
    have e : blds f ks (t :: ts) = match bld f ks t, blds f ks ts with
      | some a, some b => some (a :: b)
      | _, _ => none := by rw [blds]
    rw [List.map_cons, List.any_cons, blds_any f ks ts, e]
    cases bld f ks t with
    | none => simp [oD, PyData.eqv]
    | some a =>
      simp only [oD, eqv_none, Bool.false_or]
      cases blds f ks ts <;> rfl
theorem blds_ds (f : Int → Tm) (ks : List Int) : ∀ (ts us : List Tm), blds f ks ts = some us → (ts.map fun t => oD (bld f ks t)) = Tm.ds us
  | [], us, h => by
    simp only [blds, Option.some.injEq] at h
    rw [← h]
    rfl
  | t :: ts, us, h => by
    unfold blds at h
    cases h1 : bld f ks t with
    | none => rw [h1] at h; simp at h
    | some a =>
      rw [h1] at h
      cases h2 : blds f ks ts with
      | none => rw [h2] at h; simp at h
      | some b =>
        rw [h2] at h
        simp only [Option.some.injEq] at h
        rw [← h, List.map_cons, blds_ds f ks ts b h2, h1]
        rfl
theorem fnd_mem {f : Int → Tm} {ks : List Int} {t : Tm} {k : Int} (h : fnd f ks t = some k) : k ∈ ks ∧ f k = t := by
  unfold fnd at h
  have e := List.find?_some (p := fun k => PyData.eqv (f k).d t.d) h
  exact ⟨List.mem_of_find?_eq_some h, eqv_d _ _ e⟩
mutual
theorem bld_ok {f : Int → Tm} {ks : List Int} {R : Int → Prop} : ∀ (t u : Tm), t.ok R → bld f ks t = some u → u.ok (· ∈ ks) ∧ u.put f = t ∧ u.dep ≤ t.dep
  | .var i, u, _, h => by
    simp only [bld, Option.map_eq_some_iff] at h
    obtain ⟨k, hk, rfl⟩ := h
    obtain ⟨h1, h2⟩ := fnd_mem hk
    exact ⟨h1, h2, Nat.zero_le _⟩
  | .op x ts, u, hR, h => by
    unfold bld at h
    cases hf : fnd f ks (.op x ts) with
    | some k =>
      rw [hf] at h
      simp only [Option.some.injEq] at h
      obtain ⟨h1, h2⟩ := fnd_mem hf
      rw [← h]
      exact ⟨h1, h2, Nat.zero_le _⟩
    | none =>
      rw [hf] at h
      simp only [Option.map_eq_some_iff] at h
      obtain ⟨us, hus, rfl⟩ := h
      obtain ⟨h1, h2, h3, h4⟩ := blds_ok ts us hR.2.2 hus
      refine ⟨⟨hR.1, by rw [h4]; exact hR.2.1, h1⟩, ?_, ?_⟩
      · simp only [Tm.put, h2]
      · simp only [Tm.dep]
        omega
theorem blds_ok {f : Int → Tm} {ks : List Int} {R : Int → Prop} : ∀ (ts us : List Tm), Tm.oks R ts → blds f ks ts = some us → Tm.oks (· ∈ ks) us ∧ Tm.puts f us = ts ∧ Tm.deps us ≤ Tm.deps ts ∧ us.length = ts.length
  | [], us, _, h => by
    simp only [blds, Option.some.injEq] at h
    rw [← h]
    exact ⟨trivial, rfl, Nat.le_refl _, rfl⟩
  | t :: ts, us, hR, h => by
    unfold blds at h
    cases h1 : bld f ks t with
    | none => rw [h1] at h; simp at h
    | some a =>
      rw [h1] at h
      cases h2 : blds f ks ts with
      | none => rw [h2] at h; simp at h
      | some b =>
        rw [h2] at h
        simp only [Option.some.injEq] at h
        rw [← h]
        obtain ⟨k1, k2, k3⟩ := bld_ok t a hR.1 h1
        obtain ⟨l1, l2, l3, l4⟩ := blds_ok ts b hR.2 h2
        refine ⟨⟨k1, l1⟩, by simp only [Tm.puts, k2, l2], by simp only [Tm.deps]; omega, by simp [l4]⟩
end
theorem shp_tm {R : Int → Prop} {t : Tm} (hR : ∀ i, R i → i.natAbs < 10 ^ 40) (h : t.ok R) (hd : t.dep ≤ 60) : SeqAt.shaped t.d = true := by
  show (PyData.canLay0 t.d && decide (PyData.depth t.d ≤ 64)) = true
  rw [(fine_lay t.d (fine_d hR t h)).1, decide_eq_true (by rw [depth_d]; omega)]
  rfl
theorem fine_oD {ks : List Int} {R : Int → Prop} {f : Int → Tm} (hk : ∀ k ∈ ks, k.natAbs < 10 ^ 40) {t : Tm} (h : t.ok R) : fine (oD (bld f ks t)) := by
  cases e : bld f ks t with
  | none => trivial
  | some u => exact fine_d (P := (· ∈ ks)) hk u (bld_ok t u h e).1
theorem depth_oD {ks : List Int} {R : Int → Prop} {f : Int → Tm} {t : Tm} (h : t.ok R) : (oD (bld f ks t)).depth ≤ t.dep := by
  cases e : bld f ks t with
  | none => simp [oD, PyData.depth]
  | some u =>
    simp only [oD]
    rw [depth_d]
    exact (bld_ok t u h e).2.2
theorem depthAll_le {n : Nat} : ∀ {ds : List PyData}, (∀ d ∈ ds, d.depth ≤ n) → PyData.depthAll ds ≤ n
  | [], _ => by simp [PyData.depthAll]
  | d :: ds, h => by
    have h1 := h d (by simp)
    have h2 := depthAll_le (ds := ds) fun x hx => h x (by simp [hx])
    simp only [PyData.depthAll]
    omega
theorem rd_ix {K : PySem.W.Frag} {H : Hp} {Q : VK} {a : Addr} {xs : List V} {i : Int} {v : V} (ha : SqL K H a xs ∨ SqT K H a xs) (h0 : 0 ≤ i) (hv : xs[i.toNat]? = some v) (h : Q v H) : rIx K (.ref a) (.int i) H Q :=
  ha.elim (fun ha => rd_ixL ha h0 hv h) fun ha => rd_ixT ha h0 hv h
/-- values by numbers, in a list or a tuple -/
def Vls (K : PySem.W.Frag) (H : Hp) (vals : V) (ks : List Int) (R : Int → Prop) (f : Int → Tm) : Prop := ∃ a xs, vals = .ref a ∧ (SqL K H a xs ∨ SqT K H a xs) ∧ ∀ k ∈ ks, 0 ≤ k ∧ ∃ y, xs[k.toNat]? = some y ∧ Im K H y (f k).d ∧ (f k).ok R ∧ (f k).dep ≤ 50
theorem Vls.mv {K : PySem.W.Frag} {H H' : Hp} {vals : V} {ks : List Int} {R : Int → Prop} {f : Int → Tm} (h : Vls K H vals ks R f) (m : Mv [] H H') : Vls K H' vals ks R f := by
  obtain ⟨a, xs, rfl, hS, h⟩ := h
  refine ⟨a, xs, rfl, hS.elim (fun h => .inl (m.same.seq h)) (fun h => .inr (m.sqT h)), fun k hk => ?_⟩
  obtain ⟨h0, y, hy, hm, r⟩ := h k hk
  exact ⟨h0, y, hy, hm.mv m, r⟩
def sp_built (K : PySem.W.Frag) (d : Nat) : Sp := fun vs H Q _ => ∃ (v vals : V) (kp : Addr) (t : Tm) (R : Int → Prop) (f : Int → Tm) (ks : List Int), vs = [v, vals, .ref kp] ∧ Im K H v t.d ∧ t.ok R ∧ (∀ i, R i → i.natAbs < 10 ^ 40) ∧ t.dep < d ∧ d ≤ 50 ∧
  Vls K H vals ks R f ∧ SqL K H kp (ks.map V.int) ∧ (∀ k ∈ ks, k.natAbs < 10 ^ 40) ∧ ∀ v' H', Mv [] H H' → Im K H' v' (oD (bld f ks t)) → Q v' H'
section
variable {P : Program} {w : World} {K : PySem.W.Frag} {mg : Str → Option Value} {base : Heap}

theorem ok_built (T : TX K mg) : ∀ d : Nat, FnOk P w K mg base CX0 (d + 1) T.d_built.f T.d_built.fd P_built (sp_built K d)
  | 0 => ⟨fun vs H Q E h => by obtain ⟨_, _, _, _, _, _, _, _, _, _, _, h, _⟩ := h; omega, fun _ _ _ _ _ _ _ _ _ _ _ _ _ h => by obtain ⟨_, _, _, _, _, _, _, _, _, _, _, h, _⟩ := h; omega⟩
  | d + 1 => by
    have G_built := ok_built T d
    refine T.d_built.F.ok sc_built (fun vs H Q E h => ?_) (fun cdv A outer s H vs Q E hr h => ?_)
    · obtain ⟨_, _, _, _, _, _, _, rfl, _⟩ := h
      rfl
    · obtain ⟨v, vals, kp, t, R, f, ks, rfl, him, hok, hR, hdp, hd50, hV, hK, hks, q⟩ := h
      have hu64 := hr.units
      have hu65 := hu65_of hr
      refine ⟨_, (pss_cons (ps_for PassesOwn.never rfl (pi_seq (pv 2)) (pg_name (i := 3) sc_built.nd rfl (Or.inl rfl)) (pss_one (ps_if (pt_cmpR (r := rEqG K) (op_eqG hu64) (pe_ix (r := rIx K) ix_seq (pv 1) (pv 3) (fun _ _ => rfl)) (pv 0) (nomark _)) (pss_one (ps_ret (pv 3))) pss_nil))) (pss_cons (ps_if (pt_val (pe_callB (r := rIsi K) call_isi (by rfl) T.b_isinstance bt_isinstance (pa_cons (pv 0) (pa_cons (pe_ty T.b_int bt_int) pa_nil)))) (pss_one (ps_ret pe_non)) pss_nil) (pss_cons (ps_setLc (i := 4) (own := [("part", 5)]) (g := gName 5) (by rfl) sc_built.nd rfl rfl (sw_true rfl rfl rfl (by decide +kernel)) (pi_seq (pe_slice (r := rSlG K) sl_G (pv 0) (po_some pe_int) po_none)) (blkOk_by (own := [("part", 5)]) (N := N_built) (sc := defScope s_built) (by decide +kernel)) (fun _ _ _ _ _ => pg_name (i := 5) sc_built.nd rfl (Or.inl rfl)) (fun _ _ _ _ _ => pts_nil) (fun _ _ _ _ _ => (pe_call G_built (hr.mono (by omega)) rfl T.d_built.g T.d_built.F.kp T.d_built.b .nil pass0 (pa_cons (pv 5) (pa_cons (pv 1) (pa_cons (pv 2) pa_nil)))))) (pss_one (ps_ret (pe_ifExp (pt_cmpR (r := rInG K) (op_inG hu65) pe_non (pv 4) rfl) pe_non (pe_op (r := rAddG K) op_addG (pe_slice (r := rSlG K) sl_G (pv 0) po_none (po_some pe_int)) (pe_callTy (r := rTupOf K) call_tupG (by rfl) T.b_tuple bt_tuple (pa_cons (pv 4) pa_nil))))))))), ?_⟩
      have hst := shp_tm hR hok (by omega)
      refine ⟨.ref kp, rfl, kp, rfl, ?_⟩
      refine for_seq (xs := ks.map V.int) (.inl hK) (fun i σ H1 => ∃ y, σ = [some v, some vals, some (.ref kp), y, none, none] ∧ Mv [] H H1 ∧ ∀ j ∈ ks.take i, PyData.eqv (f j).d t.d = false)
        ⟨none, rfl, .refl, fun j hj => by simp at hj⟩ (fun i σ H1 h1 => ?_) (fun i x σ H1 hx h1 => ?_) (fun σ H1 h1 => ?_)
      · obtain ⟨_, _, m, _⟩ := h1
        exact m
      · obtain ⟨y, rfl, m1, hno⟩ := h1
        rw [List.getElem?_map] at hx
        obtain ⟨k, hk, rfl⟩ := Option.map_eq_some_iff.mp hx
        obtain ⟨a, xs, rfl, hS, hV1⟩ := hV.mv m1
        obtain ⟨h0, z, hz, hzm, hzo, hzd⟩ := hV1 k (List.mem_of_getElem? hk)
        have hz2 := shp_tm hR hzo (by omega)
        refine ⟨.ref a, rfl, .int k, rfl, rd_ix hS h0 hz ⟨v, rfl, Or.inr ⟨(f k).d, t.d, hzm.dp, (him.mv m1).dp, hz2, hst, _, rfl, ite2 (fun e => ?_) (fun e => ?_)⟩⟩⟩
        · refine ⟨.int k, rfl, q _ _ m1 ?_⟩
          have hfk := fnd_hit hno hk e
          have : bld f ks t = some (.var k) := by
            cases t with
            | var j => simp [bld, hfk]
            | op x ts => simp [bld, hfk]
          rw [this]
          exact Im.int k
        · refine ⟨_, rfl, m1, fun j hj => ?_⟩
          rw [List.take_add_one, hk] at hj
          rcases List.mem_append.mp hj with hj | hj
          · exact hno j hj
          · have : j = k := by simpa using hj
            rw [this]
            simpa using e
      · obtain ⟨y, rfl, m1, hno⟩ := h1
        rw [List.length_map, List.take_length] at hno
        have hf := fnd_none hno
        refine ⟨v, rfl, ?_⟩
        walk_at "nn"
        refine rd_isInt (him.mv m1) ?_
        refine ⟨_, rfl, ?_⟩
        cases t with
        | var j =>
          refine q _ _ m1 ?_
          simp only [bld, hf, Option.map_none]
          exact Im.non
        | op x ts =>
          obtain ⟨a, xs0, rfl, ha, hxs⟩ := (him.mv m1).tupI
          obtain ⟨x', xs, rfl, hx', hys⟩ := hxs.invD
          cases hx'.strI
          have hl : xs.length = ts.length := by rw [hys.length, Tm.ds_map, List.length_map]
          refine ⟨.ref a, rfl, 1, rfl, rd_sl1 ha fun p2 H2 m2 e2 => ⟨p2, rfl, ?_⟩⟩
          refine lc_seq (xs := xs) (.inr e2) (fun i D H3 => ∃ ys, H3 D = some (.lst ys) ∧ Ims K H3 ys ((ts.take i).map fun t => oD (bld f ks t)) ∧ Mv [] H2 H3)
            (fun D nD => ⟨[], upd_same, Ims.nil, .new nD⟩) (fun i D H3 nD h3 => ?_) (fun D nD i z H3 hz h3 => ?_) (fun D H3 nD h3 => ?_)
          · obtain ⟨_, _, _, m⟩ := h3
            exact m
          · obtain ⟨ys, e3, i3, m3⟩ := h3
            obtain ⟨zd, hzd, hzi⟩ := hys.get hz
            rw [Tm.ds_map, List.getElem?_map] at hzd
            obtain ⟨zt, hzt, rfl⟩ := Option.map_eq_some_iff.mp hzd
            have hmem := List.mem_of_getElem? hzt
            have m23 := m2.trans m3
            have m13 := m1.trans m23
            refine ⟨rfl, z, rfl, vals, rfl, .ref kp, rfl, z, vals, kp, zt, R, f, ks, rfl, hzi.mv m23, Tm.oks_iff.mp hok.2.2 zt hmem, hR, ?_, by omega, hV.mv m13, m13.same.seq hK, hks, fun y H4 m4 h4 => ?_⟩
            · have h5 := Tm.deps_le.mp (show Tm.deps ts ≤ Tm.deps ts from Nat.le_refl _) zt hmem
              simp only [Tm.dep] at hdp
              omega
            · have e4 := m4.same _ _ e3
              refine ⟨_, e4, ?_, ys ++ [y], upd_same, ?_, (m3.trans m4).wr nD⟩
              · have h6 := (List.getElem?_eq_some_iff.mp hzt).1
                have h7 := hok.2.1
                rw [i3.length, List.length_map, List.length_take]
                exact small1000 (by omega)
              · rw [List.take_add_one, hzt, List.map_append]
                exact ((i3.mv m4).append (Ims.cons h4 Ims.nil)).mv (Mv.set (S := [D]) e4 (by simp))
          · obtain ⟨ys, e3, i3, m3⟩ := h3
            rw [hl, List.take_length] at i3
            have hoks := Tm.oks_iff.mp hok.2.2
            have fin : fineAll (ts.map fun t => oD (bld f ks t)) := fineAll_iff.mpr fun z hz => by
              obtain ⟨t, ht, rfl⟩ := List.mem_map.mp hz
              exact fine_oD hks (hoks t ht)
            have dpt : PyData.depthAll (ts.map fun t => oD (bld f ks t)) ≤ 60 := depthAll_le fun z hz => by
              obtain ⟨t, ht, rfl⟩ := List.mem_map.mp hz
              have h5 := Tm.deps_le.mp (show Tm.deps ts ≤ Tm.deps ts from Nat.le_refl _) t ht
              have h6 := depth_oD (ks := ks) (f := f) (hoks t ht)
              simp only [Tm.dep] at hdp
              omega
            have shp : SeqAt.shaped (.list (ts.map fun t => oD (bld f ks t))) = true := by
              show (PyData.canLay0 _ && decide (PyData.depth _ ≤ 64)) = true
              rw [(fine_lay (.list (ts.map fun t => oD (bld f ks t))) fin).1, decide_eq_true (by simp only [PyData.depth]; omega)]
              rfl
            refine ⟨.ref D, rfl, Or.inl ⟨.none, _, .non, .lst (.inl (.inl e3)) i3.dp, by decide, shp, _, rfl, ?_⟩⟩
            rw [blds_any]
            cases hb : blds f ks ts with
            | none =>
              refine q _ _ (m1.trans (m2.trans m3)) ?_
              simp only [bld, hf, hb, Option.map_none]
              exact Im.non
            | some us =>
              rw [blds_ds f ks ts us hb] at i3
              have hul := (blds_ok ts us hok.2.2 hb).2.2.2
              refine ⟨.ref a, rfl, 1, rfl, rd_slA (m3.sqT (m2.sqT ha)) fun p4 H4 m4 e4 => ⟨.ref D, rfl, ?_⟩⟩
              walk_at "nn"
              refine rd_tupOf (.inl (.inl (m4.same _ _ e3))) fun p5 H5 m5 e5 => ?_
              refine rd_cat (m5.sqT e4) e5 ?_ fun p6 H6 m6 e6 => ?_
              · have h7 := hok.2.1
                rw [i3.length, Tm.ds_map, List.length_map]
                exact Nat.le_of_lt (small1000 (by simp; omega))
              · refine q _ H6 (m1.trans (m2.trans (m3.trans (m4.trans (m5.trans m6))))) ?_
                simp only [bld, hf, hb, Option.map_some, oD]
                exact Im.tup e6 (Ims.cons (Im.str x) (((i3.mv m4).mv m5).mv m6))

theorem ok__law_built (T : TX K mg) : ∀ d : Nat, FnOk P w K mg base CX0 (d + 1) T.d__law_built.f T.d__law_built.fd P__law_built (sp_built K d)
  | 0 => ⟨fun vs H Q E h => by obtain ⟨_, _, _, _, _, _, _, _, _, _, _, h, _⟩ := h; omega, fun _ _ _ _ _ _ _ _ _ _ _ _ _ h => by obtain ⟨_, _, _, _, _, _, _, _, _, _, _, h, _⟩ := h; omega⟩
  | d + 1 => by
    have G__law_built := ok__law_built T d
    refine T.d__law_built.F.ok sc__law_built (fun vs H Q E h => ?_) (fun cdv A outer s H vs Q E hr h => ?_)
    · obtain ⟨_, _, _, _, _, _, _, rfl, _⟩ := h
      rfl
    · obtain ⟨v, vals, kp, t, R, f, ks, rfl, him, hok, hR, hdp, hd50, hV, hK, hks, q⟩ := h
      have hu64 := hr.units
      have hu65 := hu65_of hr
      refine ⟨_, (pss_cons (ps_for PassesOwn.never rfl (pi_seq (pv 2)) (pg_name (i := 3) sc__law_built.nd rfl (Or.inl rfl)) (pss_one (ps_if (pt_cmpR (r := rEqG K) (op_eqG hu64) (pe_ix (r := rIx K) ix_seq (pv 1) (pv 3) (fun _ _ => rfl)) (pv 0) (nomark _)) (pss_one (ps_ret (pv 3))) pss_nil))) (pss_cons (ps_if (pt_val (pe_callB (r := rIsi K) call_isi (by rfl) T.b_isinstance bt_isinstance (pa_cons (pv 0) (pa_cons (pe_ty T.b_int bt_int) pa_nil)))) (pss_one (ps_ret pe_non)) pss_nil) (pss_cons (ps_setLc (i := 4) (own := [("_law_part", 5)]) (g := gName 5) (by rfl) sc__law_built.nd rfl rfl (sw_true rfl rfl rfl (by decide +kernel)) (pi_seq (pe_slice (r := rSlG K) sl_G (pv 0) (po_some pe_int) po_none)) (blkOk_by (own := [("_law_part", 5)]) (N := N__law_built) (sc := defScope s__law_built) (by decide +kernel)) (fun _ _ _ _ _ => pg_name (i := 5) sc__law_built.nd rfl (Or.inl rfl)) (fun _ _ _ _ _ => pts_nil) (fun _ _ _ _ _ => (pe_call G__law_built (hr.mono (by omega)) rfl T.d__law_built.g T.d__law_built.F.kp T.d__law_built.b .nil pass0 (pa_cons (pv 5) (pa_cons (pv 1) (pa_cons (pv 2) pa_nil)))))) (pss_one (ps_ret (pe_ifExp (pt_cmpR (r := rInG K) (op_inG hu65) pe_non (pv 4) rfl) pe_non (pe_op (r := rAddG K) op_addG (pe_slice (r := rSlG K) sl_G (pv 0) po_none (po_some pe_int)) (pe_callTy (r := rTupOf K) call_tupG (by rfl) T.b_tuple bt_tuple (pa_cons (pv 4) pa_nil))))))))), ?_⟩
      have hst := shp_tm hR hok (by omega)
      refine ⟨.ref kp, rfl, kp, rfl, ?_⟩
      refine for_seq (xs := ks.map V.int) (.inl hK) (fun i σ H1 => ∃ y, σ = [some v, some vals, some (.ref kp), y, none, none] ∧ Mv [] H H1 ∧ ∀ j ∈ ks.take i, PyData.eqv (f j).d t.d = false)
        ⟨none, rfl, .refl, fun j hj => by simp at hj⟩ (fun i σ H1 h1 => ?_) (fun i x σ H1 hx h1 => ?_) (fun σ H1 h1 => ?_)
      · obtain ⟨_, _, m, _⟩ := h1
        exact m
      · obtain ⟨y, rfl, m1, hno⟩ := h1
        rw [List.getElem?_map] at hx
        obtain ⟨k, hk, rfl⟩ := Option.map_eq_some_iff.mp hx
        obtain ⟨a, xs, rfl, hS, hV1⟩ := hV.mv m1
        obtain ⟨h0, z, hz, hzm, hzo, hzd⟩ := hV1 k (List.mem_of_getElem? hk)
        have hz2 := shp_tm hR hzo (by omega)
        refine ⟨.ref a, rfl, .int k, rfl, rd_ix hS h0 hz ⟨v, rfl, Or.inr ⟨(f k).d, t.d, hzm.dp, (him.mv m1).dp, hz2, hst, _, rfl, ite2 (fun e => ?_) (fun e => ?_)⟩⟩⟩
        · refine ⟨.int k, rfl, q _ _ m1 ?_⟩
          have hfk := fnd_hit hno hk e
          have : bld f ks t = some (.var k) := by
            cases t with
            | var j => simp [bld, hfk]
            | op x ts => simp [bld, hfk]
          rw [this]
          exact Im.int k
        · refine ⟨_, rfl, m1, fun j hj => ?_⟩
          rw [List.take_add_one, hk] at hj
          rcases List.mem_append.mp hj with hj | hj
          · exact hno j hj
          · have : j = k := by simpa using hj
            rw [this]
            simpa using e
      · obtain ⟨y, rfl, m1, hno⟩ := h1
        rw [List.length_map, List.take_length] at hno
        have hf := fnd_none hno
        refine ⟨v, rfl, ?_⟩
        walk_at "nn"
        refine rd_isInt (him.mv m1) ?_
        refine ⟨_, rfl, ?_⟩
        cases t with
        | var j =>
          refine q _ _ m1 ?_
          simp only [bld, hf, Option.map_none]
          exact Im.non
        | op x ts =>
          obtain ⟨a, xs0, rfl, ha, hxs⟩ := (him.mv m1).tupI
          obtain ⟨x', xs, rfl, hx', hys⟩ := hxs.invD
          cases hx'.strI
          have hl : xs.length = ts.length := by rw [hys.length, Tm.ds_map, List.length_map]
          refine ⟨.ref a, rfl, 1, rfl, rd_sl1 ha fun p2 H2 m2 e2 => ⟨p2, rfl, ?_⟩⟩
          refine lc_seq (xs := xs) (.inr e2) (fun i D H3 => ∃ ys, H3 D = some (.lst ys) ∧ Ims K H3 ys ((ts.take i).map fun t => oD (bld f ks t)) ∧ Mv [] H2 H3)
            (fun D nD => ⟨[], upd_same, Ims.nil, .new nD⟩) (fun i D H3 nD h3 => ?_) (fun D nD i z H3 hz h3 => ?_) (fun D H3 nD h3 => ?_)
          · obtain ⟨_, _, _, m⟩ := h3
            exact m
          · obtain ⟨ys, e3, i3, m3⟩ := h3
            obtain ⟨zd, hzd, hzi⟩ := hys.get hz
            rw [Tm.ds_map, List.getElem?_map] at hzd
            obtain ⟨zt, hzt, rfl⟩ := Option.map_eq_some_iff.mp hzd
            have hmem := List.mem_of_getElem? hzt
            have m23 := m2.trans m3
            have m13 := m1.trans m23
            refine ⟨rfl, z, rfl, vals, rfl, .ref kp, rfl, z, vals, kp, zt, R, f, ks, rfl, hzi.mv m23, Tm.oks_iff.mp hok.2.2 zt hmem, hR, ?_, by omega, hV.mv m13, m13.same.seq hK, hks, fun y H4 m4 h4 => ?_⟩
            · have h5 := Tm.deps_le.mp (show Tm.deps ts ≤ Tm.deps ts from Nat.le_refl _) zt hmem
              simp only [Tm.dep] at hdp
              omega
            · have e4 := m4.same _ _ e3
              refine ⟨_, e4, ?_, ys ++ [y], upd_same, ?_, (m3.trans m4).wr nD⟩
              · have h6 := (List.getElem?_eq_some_iff.mp hzt).1
                have h7 := hok.2.1
                rw [i3.length, List.length_map, List.length_take]
                exact small1000 (by omega)
              · rw [List.take_add_one, hzt, List.map_append]
                exact ((i3.mv m4).append (Ims.cons h4 Ims.nil)).mv (Mv.set (S := [D]) e4 (by simp))
          · obtain ⟨ys, e3, i3, m3⟩ := h3
            rw [hl, List.take_length] at i3
            have hoks := Tm.oks_iff.mp hok.2.2
            have fin : fineAll (ts.map fun t => oD (bld f ks t)) := fineAll_iff.mpr fun z hz => by
              obtain ⟨t, ht, rfl⟩ := List.mem_map.mp hz
              exact fine_oD hks (hoks t ht)
            have dpt : PyData.depthAll (ts.map fun t => oD (bld f ks t)) ≤ 60 := depthAll_le fun z hz => by
              obtain ⟨t, ht, rfl⟩ := List.mem_map.mp hz
              have h5 := Tm.deps_le.mp (show Tm.deps ts ≤ Tm.deps ts from Nat.le_refl _) t ht
              have h6 := depth_oD (ks := ks) (f := f) (hoks t ht)
              simp only [Tm.dep] at hdp
              omega
            have shp : SeqAt.shaped (.list (ts.map fun t => oD (bld f ks t))) = true := by
              show (PyData.canLay0 _ && decide (PyData.depth _ ≤ 64)) = true
              rw [(fine_lay (.list (ts.map fun t => oD (bld f ks t))) fin).1, decide_eq_true (by simp only [PyData.depth]; omega)]
              rfl
            refine ⟨.ref D, rfl, Or.inl ⟨.none, _, .non, .lst (.inl (.inl e3)) i3.dp, by decide, shp, _, rfl, ?_⟩⟩
            rw [blds_any]
            cases hb : blds f ks ts with
            | none =>
              refine q _ _ (m1.trans (m2.trans m3)) ?_
              simp only [bld, hf, hb, Option.map_none]
              exact Im.non
            | some us =>
              rw [blds_ds f ks ts us hb] at i3
              have hul := (blds_ok ts us hok.2.2 hb).2.2.2
              refine ⟨.ref a, rfl, 1, rfl, rd_slA (m3.sqT (m2.sqT ha)) fun p4 H4 m4 e4 => ⟨.ref D, rfl, ?_⟩⟩
              walk_at "nn"
              refine rd_tupOf (.inl (.inl (m4.same _ _ e3))) fun p5 H5 m5 e5 => ?_
              refine rd_cat (m5.sqT e4) e5 ?_ fun p6 H6 m6 e6 => ?_
              · have h7 := hok.2.1
                rw [i3.length, Tm.ds_map, List.length_map]
                exact Nat.le_of_lt (small1000 (by simp; omega))
              · refine q _ H6 (m1.trans (m2.trans (m3.trans (m4.trans (m5.trans m6))))) ?_
                simp only [bld, hf, hb, Option.map_some, oD]
                exact Im.tup e6 (Ims.cons (Im.str x) (((i3.mv m4).mv m5).mv m6))

end
end Fm
namespace Fm
open PySem PySem.Spec PyProof.Rows L2
local macro_rules | `(tactic| walk_at "nn") => `(tactic| dsimp only [tC, tNil, tCons, tCB, tCall, gName, tSeq, tAsg, tPar, tDrop, tRet])
local macro_rules | `(tactic| walk_at "nc") => `(tactic| dsimp only [tC, tNil, tCons, tCB])
mutual
/-- a term and all that stands in it -/
def Tm.parts : Tm → List Tm
  | .var i => [.var i]
  | .op x ts => .op x ts :: Tm.partsL ts
def Tm.partsL : List Tm → List Tm
  | [] => []
  | t :: ts => t.parts ++ Tm.partsL ts
end
theorem Tm.partsL_append : ∀ ts us : List Tm, Tm.partsL (ts ++ us) = Tm.partsL ts ++ Tm.partsL us
  | [], _ => by simp [Tm.partsL]
  | t :: ts, us => by simp [Tm.partsL, Tm.partsL_append ts us]
theorem Tm.self_parts (t : Tm) : t ∈ t.parts := by cases t <;> simp [Tm.parts]
mutual
theorem Tm.parts_ok {R : Int → Prop} {n : Nat} : ∀ t : Tm, t.ok R → t.dep ≤ n → ∀ u ∈ t.parts, u.ok R ∧ u.dep ≤ n
  | .var i, h, hd, u, hu => by
    simp only [Tm.parts, List.mem_singleton] at hu
    rw [hu]
    exact ⟨h, hd⟩
  | .op x ts, h, hd, u, hu => by
    simp only [Tm.parts, List.mem_cons] at hu
    rcases hu with rfl | hu
    · exact ⟨h, hd⟩
    · exact Tm.partsL_ok ts h.2.2 (by simp only [Tm.dep] at hd; omega) u hu
theorem Tm.partsL_ok {R : Int → Prop} {n : Nat} : ∀ ts : List Tm, Tm.oks R ts → Tm.deps ts ≤ n → ∀ u ∈ Tm.partsL ts, u.ok R ∧ u.dep ≤ n
  | [], _, _, u, hu => by simp [Tm.partsL] at hu
  | t :: ts, h, hd, u, hu => by
    simp only [Tm.deps] at hd
    simp only [Tm.partsL, List.mem_append] at hu
    rcases hu with hu | hu
    · exact Tm.parts_ok t h.1 (by omega) u hu
    · exact Tm.partsL_ok ts h.2 (by omega) u hu
end
mutual
/-- parts of parts are parts -/
theorem Tm.parts_in : ∀ t : Tm, ∀ (x : Str) (us : List Tm), Tm.op x us ∈ t.parts → ∀ u ∈ us, u ∈ t.parts
  | .var i, x, us, h, u, hu => by simp [Tm.parts] at h
  | .op y ts, x, us, h, u, hu => by
    simp only [Tm.parts, List.mem_cons] at h ⊢
    rcases h with h | h
    · have e : us = ts := (Tm.op.inj h).2
      subst e
      exact .inr (Tm.mem_partsL us u hu)
    · exact .inr (Tm.partsL_in ts x us h u hu)
theorem Tm.partsL_in : ∀ ts : List Tm, ∀ (x : Str) (us : List Tm), Tm.op x us ∈ Tm.partsL ts → ∀ u ∈ us, u ∈ Tm.partsL ts
  | [], x, us, h, u, hu => by simp [Tm.partsL] at h
  | t :: ts, x, us, h, u, hu => by
    simp only [Tm.partsL, List.mem_append] at h ⊢
    rcases h with h | h
    · exact .inl (Tm.parts_in t x us h u hu)
    · exact .inr (Tm.partsL_in ts x us h u hu)
theorem Tm.mem_partsL : ∀ (ts : List Tm) (u : Tm), u ∈ ts → u ∈ Tm.partsL ts
  | [], u, h => by simp at h
  | t :: ts, u, h => by
    simp only [Tm.partsL, List.mem_append]
    rcases List.mem_cons.mp h with rfl | h
    · exact .inl (by cases u <;> simp [Tm.parts])
    · exact .inr (Tm.mem_partsL ts u h)
end
mutual
/-- few parts where the term is shallow -/
theorem Tm.parts_few {R : Int → Prop} : ∀ (n : Nat) (t : Tm), t.ok R → t.dep ≤ n → 2 * t.parts.length + 1 ≤ 3 ^ (n + 1)
  | n, .var i, _, _ => by
    have := Nat.one_le_pow n 3 (by decide)
    simp only [Tm.parts, List.length_singleton, Nat.pow_succ]
    omega
  | 0, .op x ts, _, h => by simp [Tm.dep] at h
  | n + 1, .op x ts, k, h => by
    have hd := Tm.deps_le.mp (show Tm.deps ts ≤ n by simp only [Tm.dep] at h; omega)
    have := Tm.partsL_few n ts (Tm.oks_iff.mp k.2.2) hd
    have h3 := k.2.1
    simp only [Tm.parts, List.length_cons]
    rw [Nat.pow_succ]
    have : 2 * (Tm.partsL ts).length + ts.length ≤ 3 * 3 ^ (n + 1) := Nat.le_trans this (Nat.mul_le_mul_right _ h3)
    match ts, h3, hd, k with
    | [], _, _, _ =>
      have := Nat.one_le_pow (n + 1) 3 (by decide)
      simp only [Tm.partsL, List.length_nil]
      omega
    | [a], _, hd, k =>
      have h1 := Tm.parts_few n a (Tm.oks_iff.mp k.2.2 a (by simp)) (hd a (by simp))
      simp only [Tm.partsL, List.append_nil]
      omega
    | [a, b], _, hd, k =>
      have h1 := Tm.parts_few n a (Tm.oks_iff.mp k.2.2 a (by simp)) (hd a (by simp))
      have h2 := Tm.parts_few n b (Tm.oks_iff.mp k.2.2 b (by simp)) (hd b (by simp))
      simp only [Tm.partsL, List.append_nil, List.length_append]
      omega
    | [a, b, c], _, hd, k =>
      have h1 := Tm.parts_few n a (Tm.oks_iff.mp k.2.2 a (by simp)) (hd a (by simp))
      have h2 := Tm.parts_few n b (Tm.oks_iff.mp k.2.2 b (by simp)) (hd b (by simp))
      have h4 := Tm.parts_few n c (Tm.oks_iff.mp k.2.2 c (by simp)) (hd c (by simp))
      simp only [Tm.partsL, List.append_nil, List.length_append]
      omega
theorem Tm.partsL_few {R : Int → Prop} : ∀ (n : Nat) (ts : List Tm), (∀ t ∈ ts, t.ok R) → (∀ t ∈ ts, t.dep ≤ n) → 2 * (Tm.partsL ts).length + ts.length ≤ ts.length * 3 ^ (n + 1)
  | n, [], _, _ => by simp [Tm.partsL]
  | n, t :: ts, h, hd => by
    have h1 := Tm.parts_few n t (h t (by simp)) (hd t (by simp))
    have h2 := Tm.partsL_few n ts (fun u hu => h u (by simp [hu])) (fun u hu => hd u (by simp [hu]))
    simp only [Tm.partsL, List.length_append, List.length_cons, Nat.add_mul, Nat.one_mul]
    omega
end
theorem Tm.ds_append (ts us : List Tm) : Tm.ds (ts ++ us) = Tm.ds ts ++ Tm.ds us := by simp [Tm.ds_map]
theorem Tm.partsL_take : ∀ (i : Nat) (ts : List Tm), (Tm.partsL (ts.take i)).length ≤ (Tm.partsL ts).length
  | 0, ts => by simp [Tm.partsL]
  | i + 1, [] => by simp [Tm.partsL]
  | i + 1, t :: ts => by
    have := Tm.partsL_take i ts
    simp only [List.take_succ_cons, Tm.partsL, List.length_append]
    omega
theorem Tm.parts_le : ∀ {t : Tm} {ts : List Tm}, t ∈ ts → t.parts.length ≤ (Tm.partsL ts).length
  | t, u :: ts, h => by
    rcases List.mem_cons.mp h with rfl | h
    · simp only [Tm.partsL, List.length_append]; omega
    · have := Tm.parts_le h
      simp only [Tm.partsL, List.length_append]; omega
def sp_parts (K : PySem.W.Frag) (d : Nat) : Sp := fun vs H Q _ => ∃ (v : V) (t : Tm), vs = [v] ∧ Im K H v t.d ∧ t.dep < d ∧ t.parts.length ≤ 100000 ∧ ∀ p ys H', H p = none → Mv [] H H' → H' p = some (.lst ys) → Ims K H' ys (Tm.ds t.parts) → Q (.ref p) H'
section
variable {P : Program} {w : World} {K : PySem.W.Frag} {mg : Str → Option Value} {base : Heap}
theorem ok__law_parts (T : TX K mg) : ∀ d : Nat, FnOk P w K mg base CX0 (d + 1) T.d__law_parts.f T.d__law_parts.fd P__law_parts (sp_parts K d)
  | 0 => ⟨fun vs H Q E h => by obtain ⟨_, _, _, _, h, _⟩ := h; omega, fun _ _ _ _ _ _ _ _ _ _ _ _ _ h => by obtain ⟨_, _, _, _, h, _⟩ := h; omega⟩
  | d + 1 => by
    have G__law_parts := ok__law_parts T d
    refine T.d__law_parts.F.ok sc__law_parts (fun vs H Q E h => ?_) (fun cdv A outer s H vs Q E hr h => ?_)
    · obtain ⟨_, _, rfl, _⟩ := h
      rfl
    · obtain ⟨v, t, rfl, him, hdp, hln, q⟩ := h
      refine ⟨_, (pss_cons (ps_set (i := 1) sc__law_parts.nd rfl (Or.inl rfl) (pe_lst (pa_cons (pv 0) pa_nil))) (Evl.pss_cut (ps_if (pt_not (pt_val (pe_callB (r := rIsi K) call_isi (by rfl) T.b_isinstance bt_isinstance (pa_cons (pv 0) (pa_cons (pe_ty T.b_int bt_int) pa_nil))))) (pss_one (ps_for PassesOwn.never rfl (pi_seq (pe_slice (r := rSlG K) sl_G (pv 0) (po_some pe_int) po_none)) (pg_name (i := 2) sc__law_parts.nd rfl (Or.inl rfl)) (pss_one (ps_set (i := 1) sc__law_parts.nd rfl (Or.inl rfl) (pe_op (r := rAddG K) op_addG (pv 1) (pe_call G__law_parts (hr.mono (by omega)) rfl T.d__law_parts.g T.d__law_parts.F.kp T.d__law_parts.b .nil pass0 (pa_cons (pv 2) pa_nil))))))) pss_nil) (pss_one (ps_ret (pv 1))))), ?_⟩
      refine ⟨v, rfl, (by decide : 1 ≤ sizeLine), fun p0 n0 => ?_⟩
      have m0 : Mv [] H (upd H p0 (.lst [v])) := .new n0
      have e0 : upd H p0 (.lst [v]) p0 = some (.lst [v]) := upd_same
      generalize upd H p0 (.lst [v]) = H0 at m0 e0 ⊢
      refine ⟨fun σ H' => ∃ p ys y, σ = [some v, some (.ref p), y] ∧ H p = none ∧ Mv [] H H' ∧ H' p = some (.lst ys) ∧ Ims K H' ys (Tm.ds t.parts), ?_, fun σ H' h' => ?_⟩
      · refine ⟨v, rfl, ?_⟩
        walk_at "nn"
        refine rd_isInt (him.mv m0) ?_
        refine ⟨_, rfl, ?_⟩
        cases t with
        | var i =>
          cases him.intI
          exact ⟨p0, [.int i], none, rfl, n0, m0, e0, Ims.cons (Im.int i) Ims.nil⟩
        | op x ts =>
          obtain ⟨a, xs0, rfl, ha, hxs⟩ := him.tupI
          obtain ⟨x', xs, rfl, hx', hys⟩ := hxs.invD
          have hl : xs.length = ts.length := by rw [hys.length, Tm.ds_map, List.length_map]
          refine ⟨.ref a, rfl, 1, rfl, rd_sl1 (m0.sqT ha) fun p2 H2 m2 e2 => ⟨p2, rfl, ?_⟩⟩
          have m02 := m0.trans m2
          refine for_seq (xs := xs) (.inr e2) (fun i σ H3 => ∃ p ys y, σ = [some (.ref a), some (.ref p), y] ∧ H p = none ∧ H3 p = some (.lst ys) ∧ Ims K H3 ys (Tm.ds (.op x ts :: Tm.partsL (ts.take i))) ∧ Mv [] H2 H3)
            ⟨p0, [.ref a], none, rfl, n0, m2.same _ _ e0, Ims.cons (him.mv m02) Ims.nil, .refl⟩ (fun i σ H3 h3 => ?_) (fun i z σ H3 hz h3 => ?_) (fun σ H3 h3 => ?_)
          · obtain ⟨_, _, _, _, _, _, _, m⟩ := h3
            exact m
          · obtain ⟨p, ys, y, rfl, np, e3, i3, m3⟩ := h3
            obtain ⟨zd, hzd, hzi⟩ := hys.get hz
            rw [Tm.ds_map, List.getElem?_map] at hzd
            obtain ⟨zt, hzt, rfl⟩ := Option.map_eq_some_iff.mp hzd
            have hmem := List.mem_of_getElem? hzt
            have h5 := Tm.deps_le.mp (show Tm.deps ts ≤ Tm.deps ts from Nat.le_refl _) zt hmem
            have h6 := Tm.parts_le hmem
            have mH3 := m02.trans m3
            have htake : Tm.partsL (ts.take (i + 1)) = Tm.partsL (ts.take i) ++ zt.parts := by
              rw [List.take_add_one, hzt, Tm.partsL_append]
              simp [Tm.partsL]
            have h7 := Tm.partsL_take (i + 1) ts
            rw [htake, List.length_append] at h7
            simp only [Tm.dep] at hdp
            simp only [Tm.parts, List.length_cons] at hln
            refine ⟨.ref p, rfl, z, rfl, z, zt, rfl, hzi.mv mH3, by omega, by omega, fun p4 zs H4 n4 m4 e4 i4 => ?_⟩
            refine rd_catL (m4.same _ _ e3) e4 (line5 ?_) fun p5 H5 n5 m5 e5 => ?_
            · rw [i3.length, i4.length, Tm.ds_map, Tm.ds_map, List.length_map, List.length_map, List.length_cons]
              omega
            · refine ⟨p5, _, _, rfl, (mH3.trans m4).free n5, e5, ?_, m3.trans (m4.trans m5)⟩
              rw [htake, ← List.cons_append, Tm.ds_append]
              exact ((i3.mv m4).mv m5).append (i4.mv m5)
          · obtain ⟨p, ys, y, rfl, np, e3, i3, m3⟩ := h3
            rw [hl, List.take_length] at i3
            exact ⟨p, ys, y, rfl, np, m02.trans m3, e3, i3⟩
      · obtain ⟨p, ys, y, rfl, np, m', e', i'⟩ := h'
        exact ⟨.ref p, rfl, q p ys H' np m' e' i'⟩
end
end Fm
namespace Fm
open PySem PySem.Spec PyProof.Rows L2
local macro_rules | `(tactic| walk_at "nn") => `(tactic| dsimp only [tC, tNil, tCons, tCB, tCall, gName, tSeq, tAsg, tPar, tDrop, tRet])
local macro_rules | `(tactic| walk_at "nc") => `(tactic| dsimp only [tC, tNil, tCons, tCB])
def sp_mixed (K : PySem.W.Frag) : Sp := fun vs H Q _ => ∃ (b l : Addr) (ns : List Int), vs = [.ref b, .ref l] ∧ Bag H b ∧ H l = some (.lst (ns.map V.int)) ∧ l ≠ b ∧ ns.length ≤ 1000 ∧
  ∀ p (ms : List Int) H', H p = none → H' p = some (.lst (ms.map V.int)) → ms.length = ns.length → (∀ k ∈ ms, k ∈ ns) → Dr b H H' → Q (.ref p) H'
def in3 (i : Int) : Prop := 0 ≤ i ∧ i < 3
def sp_values (K : PySem.W.Frag) : Sp := fun vs H Q _ => ∃ (b nm tl : Addr) (xs : List Str) (ys : List V) (ts : List Tm), vs = [.ref b, .ref nm, .ref tl] ∧ Bag H b ∧ Nms H b nm xs ∧ H tl = some (.lst ys) ∧ tl ≠ b ∧ Ims K H ys (Tm.ds ts) ∧ Tm.oks in3 ts ∧ Tm.deps ts ≤ 3 ∧ ts ≠ [] ∧ ts.length ≤ 3 ∧
  ∀ p zs us H', H p = none → H' p = some (.lst zs) → Ims K H' zs (Tm.ds us) → Tm.oks in3 us → Tm.deps us ≤ 3 → us.length ≤ 6 → Dr b H H' → Q (.ref p) H'
section
variable {K : PySem.W.Frag} {H : Hp}
theorem Ims.take : ∀ {ds : List PyData} {vs : List V} (n : Nat), Ims K H vs ds → Ims K H (vs.take n) (ds.take n)
  | [], _, n, h => by rw [h.nilD]; simpa using Ims.nil
  | d :: ds, _, 0, h => by simpa using Ims.nil
  | d :: ds, _, n + 1, h => by
    obtain ⟨v, vs', rfl, h1, h2⟩ := h.invD
    exact Ims.cons h1 (h2.take n)
theorem Ims.drop : ∀ {ds : List PyData} {vs : List V} (n : Nat), Ims K H vs ds → Ims K H (vs.drop n) (ds.drop n)
  | [], _, n, h => by rw [h.nilD]; simpa using Ims.nil
  | d :: ds, _, 0, h => by simpa using h
  | d :: ds, _, n + 1, h => by
    obtain ⟨v, vs', rfl, h1, h2⟩ := h.invD
    exact h2.drop n
theorem cut_im {ys : List V} {us : List Tm} (h : Ims K H ys (Tm.ds us)) (lo hi : Option Int) : ∃ ws : List Tm, Ims K H (cutV ys lo hi) (Tm.ds ws) ∧ ∀ x ∈ ws, x ∈ us := by
  unfold cutV
  refine ⟨(us.drop (HT.sIx ys.length 0 lo)).take (HT.sIx ys.length ys.length hi - HT.sIx ys.length 0 lo), ?_, fun x hx => List.mem_of_mem_drop (List.mem_of_mem_take hx)⟩
  have := (h.drop (HT.sIx ys.length 0 lo)).take (HT.sIx ys.length ys.length hi - HT.sIx ys.length 0 lo)
  simpa [Tm.ds_map, List.map_take, List.map_drop] using this
end
section
variable {P : Program} {w : World} {K : PySem.W.Frag} {mg : Str → Option Value} {base : Heap}
theorem ok__law_mixed (T : TX K mg) {k : Nat} : FnOk P w K mg base CX0 (k + 2) T.d__law_mixed.f T.d__law_mixed.fd P__law_mixed (sp_mixed K) := by
  have G__law_take : FnOk P w K mg base CX0 1 T.d__law_take.f T.d__law_take.fd P__law_take sp_take := ok__law_take T
  refine T.d__law_mixed.F.ok sc__law_mixed (fun vs H Q E h => ?_) (fun cdv A outer s H vs Q E hr h => ?_)
  · obtain ⟨_, _, _, rfl, _⟩ := h
    rfl
  · obtain ⟨b, l, ns, rfl, hB, hl, hlb, hln, q⟩ := h
    refine ⟨_, (pss_cons (ps_set (i := 2) sc__law_mixed.nd rfl (Or.inl rfl) (pe_lst pa_nil)) (pss_cons (ps_for PassesOwn.never rfl (pi_seq (pv 1)) (pg_name (i := 3) sc__law_mixed.nd rfl (Or.inl rfl)) (pss_one (ps_expr (pe_bm PySem.F.plainAttrs_list PySem.F.slot_list_insert PySem.F.type_list_insert mt_insert (pv 2) (pa_cons (pe_call G__law_take (hr.mono (by omega)) rfl T.d__law_take.g T.d__law_take.F.kp T.d__law_take.b .nil pass0 (pa_cons (pv 0) (pa_cons (pe_op (r := rAddG K) op_addG (pe_callB (r := rLenG K) call_lenG (by rfl) T.b_len bt_len (pa_cons (pv 2) pa_nil)) pe_int) pa_nil))) (pa_cons (pv 3) pa_nil)))))) (pss_one (ps_ret (pv 2))))), ?_⟩
    refine ⟨Nat.zero_le _, fun p np => ⟨.ref l, rfl, l, rfl, Or.inl ⟨⟨_, .inl (.inl (same_new np _ _ hl))⟩, ?_⟩⟩⟩
    have hpb : p ≠ b := hB.fneq np
    refine for_list (K := K) (a := l) (xs := ns.map V.int) (fun i σ H2 => ∃ (ms : List Int) (y : Option V), σ = [some (.ref b), some (.ref l), some (.ref p), y] ∧ H2 p = some (.lst (ms.map V.int)) ∧ ms.length = i ∧ (∀ k ∈ ms, k ∈ ns) ∧ Dr b H H2)
      ⟨[], none, rfl, upd_same, rfl, fun k hk => by simp at hk, Dr.new np⟩ (fun i σ H2 _ h2 => ?_) (fun i x σ H2 hx h2 => ?_) (fun σ H2 h2 => ?_)
    · obtain ⟨_, _, _, _, _, _, d⟩ := h2
      exact .inl (.inl (d.get hlb hl))
    · obtain ⟨ms, y, rfl, e2, l2, s2, d2⟩ := h2
      rw [List.getElem?_map] at hx
      obtain ⟨u, hu, rfl⟩ := Option.map_eq_some_iff.mp hx
      have hi := (List.getElem?_eq_some_iff.mp hu).1
      refine ⟨.ref p, rfl, .inl ⟨rfl, _, .inl (.inl e2)⟩, .ref b, rfl, .ref p, rfl, ?_⟩
      walk_at "nn"
      refine rd_len (.inl (.inl (.inl e2))) ?_
      refine Or.inl ⟨_, 1, rfl, rfl, b, _, rfl, d2.bag hB, by omega, by rw [List.length_map]; omega, fun j H3 hj0 hj1 d3 => ?_⟩
      have e3 := d3.get hpb e2
      refine ⟨.int u, rfl, p, _, j, .int u, rfl, rfl, e3, by rw [List.length_map]; exact small1000 (by omega), hj0, by rw [List.length_map] at hj1; omega, ?_⟩
      refine ⟨ms.take j.toNat ++ [u] ++ ms.drop j.toNat, _, rfl, ?_, ?_, fun k hk => ?_, (d2.trans d3).wr np⟩
      · rw [upd_same]
        simp [List.map_take, List.map_drop]
      · simp only [List.length_append, List.length_take, List.length_drop, List.length_singleton]
        omega
      · simp only [List.mem_append, List.mem_singleton] at hk
        rcases hk with (hk | hk) | hk
        · exact s2 k (List.mem_of_mem_take hk)
        · rw [hk]
          exact List.mem_of_getElem? hu
        · exact s2 k (List.mem_of_mem_drop hk)
    · obtain ⟨ms, y, rfl, e2, l2, s2, d2⟩ := h2
      exact ⟨.ref p, rfl, q p ms H2 np e2 (by rw [l2, List.length_map]) s2 d2⟩
theorem ok__law_values (T : TX K mg) : FnOk P w K mg base CX0 6 T.d__law_values.f T.d__law_values.fd P__law_values (sp_values K) := by
  have G__law_take : FnOk P w K mg base CX0 1 T.d__law_take.f T.d__law_take.fd P__law_take sp_take := ok__law_take T
  have G__law_term : FnOk P w K mg base CX0 5 T.d__law_term.f T.d__law_term.fd P__law_term (sp_term K 3) := ok__law_term T 3
  have G__law_parts : FnOk P w K mg base CX0 5 T.d__law_parts.f T.d__law_parts.fd P__law_parts (sp_parts K 4) := ok__law_parts T 4
  refine T.d__law_values.F.ok sc__law_values (fun vs H Q E h => ?_) (fun cdv A outer s H vs Q E hr h => ?_)
  · obtain ⟨_, _, _, _, _, _, rfl, _⟩ := h
    rfl
  · obtain ⟨b, nm, tl, xs, ys, ts, rfl, hB, hN, ht, htb, hys, hok, hdp, hne, hln, q⟩ := h
    refine ⟨_, (pss_cons (ps_par (i := 3) (j := 4) rfl sc__law_values.nd rfl rfl (by decide) rfl rfl (pa_cons (pe_lst pa_nil) (pa_cons (pe_lst pa_nil) pa_nil)) rfl) (pss_cons (ps_for PassesOwn.never rfl (pi_seq (pv 2)) (pg_name (i := 5) sc__law_values.nd rfl (Or.inl rfl)) (pss_one (ps_set (i := 3) sc__law_values.nd rfl (Or.inl rfl) (pe_op (r := rAddG K) op_addG (pv 3) (pe_call G__law_parts (hr.mono (by omega)) rfl T.d__law_parts.g T.d__law_parts.F.kp T.d__law_parts.b .nil pass0 (pa_cons (pv 5) pa_nil)))))) (pss_cons (ps_for PassesOwn.never rfl (pi_range1 (by rfl) T.b_range (pa_cons (pe_call G__law_take (hr.mono (by omega)) rfl T.d__law_take.g T.d__law_take.F.kp T.d__law_take.b .nil pass0 (pa_cons (pv 0) (pa_cons pe_int pa_nil))) pa_nil)) (pg_name (i := 6) sc__law_values.nd rfl (Or.inl rfl)) (pss_cons (ps_set (i := 7) sc__law_values.nd rfl (Or.inl rfl) (pe_lst (pa_cons (pe_ix (r := rIx K) ix_seq (pv 3) (pe_call G__law_take (hr.mono (by omega)) rfl T.d__law_take.g T.d__law_take.F.kp T.d__law_take.b .nil pass0 (pa_cons (pv 0) (pa_cons (pe_callB (r := rLenG K) call_lenG (by rfl) T.b_len bt_len (pa_cons (pv 3) pa_nil)) pa_nil))) (fun _ _ => rfl)) (pa_cons (pe_call G__law_term (hr.mono (by omega)) rfl T.d__law_term.g T.d__law_term.F.kp T.d__law_term.b .nil pass0 (pa_cons (pv 0) (pa_cons (pv 1) (pa_cons pe_int (pa_cons pe_int pa_nil))))) pa_nil)))) (pss_one (ps_expr (pe_bm PySem.F.plainAttrs_list PySem.F.slot_list_append PySem.F.type_list_append mt_append (pv 4) (pa_cons (pe_ix (r := rIx K) ix_seq (pe_op (r := rAddG K) op_addG (pv 7) (pe_slice (r := rSlG K) sl_G (pv 4) (po_some (pe_un un_neg pe_int)) po_none)) (pe_call G__law_take (hr.mono (by omega)) rfl T.d__law_take.g T.d__law_take.F.kp T.d__law_take.b .nil pass0 (pa_cons (pv 0) (pa_cons (pe_op (r := rAddG K) op_addG pe_int (pe_callB (r := rLenG K) call_lenG (by rfl) T.b_len bt_len (pa_cons (pe_slice (r := rSlG K) sl_G (pv 4) (po_some (pe_un un_neg pe_int)) po_none) pa_nil))) pa_nil))) (fun _ _ => rfl)) pa_nil)))))) (pss_one (ps_ret (pv 4)))))), ?_⟩
    have hl : ys.length = ts.length := by rw [hys.length, Tm.ds_map, List.length_map]
    have hfew := Tm.partsL_few 3 ts (Tm.oks_iff.mp hok) (Tm.deps_le.mp hdp)
    have hpl : (Tm.partsL ts).length ≤ 1000 := by
      have : ts.length * 3 ^ (3 + 1) ≤ 3 * 3 ^ (3 + 1) := Nat.mul_le_mul_right _ hln
      have e : 3 * 3 ^ (3 + 1) = 243 := by decide
      omega
    refine ⟨Nat.zero_le _, fun p0 np0 => ⟨Nat.zero_le _, fun f nf => ⟨_, _, rfl, ?_⟩⟩⟩
    have m0 : Mv [] H (upd H p0 (.lst [])) := .new np0
    have hp0f : p0 ≠ f := ne_of_none (H := upd H p0 (.lst [])) upd_same nf
    have hfH : H f = none := m0.free nf
    have m1 : Mv [] H (upd (upd H p0 (.lst [])) f (.lst [])) := m0.trans (.new nf)
    have ep1 : upd (upd H p0 (.lst [])) f (.lst []) p0 = some (.lst []) := by rw [upd_ne hp0f]; exact upd_same
    have ef1 : upd (upd H p0 (.lst [])) f (.lst []) f = some (.lst []) := upd_same
    generalize upd (upd H p0 (.lst [])) f (.lst []) = H1 at m1 ep1 ef1 ⊢
    refine ⟨.ref tl, rfl, tl, rfl, ?_⟩
    refine for_seq (xs := ys) (.inl (.inl (.inl (m1.same _ _ ht)))) (fun i σ H2 => ∃ p zs y, σ = [some (.ref b), some (.ref nm), some (.ref tl), some (.ref p), some (.ref f), y, none, none] ∧ H p = none ∧ p ≠ f ∧ H2 p = some (.lst zs) ∧ Ims K H2 zs (Tm.ds (Tm.partsL (ts.take i))) ∧ Mv [] H1 H2)
      ⟨p0, [], none, rfl, np0, hp0f, ep1, Ims.nil, .refl⟩ (fun i σ H2 h2 => ?_) (fun i z σ H2 hz h2 => ?_) (fun σ H2 h2 => ?_)
    · obtain ⟨_, _, _, _, _, _, _, _, m⟩ := h2
      exact m
    · obtain ⟨p, zs, y, rfl, np, hpf, e2, i2, m2⟩ := h2
      have m02 := m1.trans m2
      obtain ⟨zd, hzd, hzi⟩ := hys.get hz
      rw [Tm.ds_map, List.getElem?_map] at hzd
      obtain ⟨zt, hzt, rfl⟩ := Option.map_eq_some_iff.mp hzd
      have hmem := List.mem_of_getElem? hzt
      have h5 := Tm.deps_le.mp hdp zt hmem
      have h6 := Tm.parts_le hmem
      have htake : Tm.partsL (ts.take (i + 1)) = Tm.partsL (ts.take i) ++ zt.parts := by
        rw [List.take_add_one, hzt, Tm.partsL_append]
        simp [Tm.partsL]
      have h7 := Tm.partsL_take (i + 1) ts
      rw [htake, List.length_append] at h7
      refine ⟨.ref p, rfl, z, rfl, z, zt, rfl, hzi.mv m02, by omega, by omega, fun p4 us H4 n4 m4 e4 i4 => ?_⟩
      refine rd_catL (m4.same _ _ e2) e4 (line5 ?_) fun p5 H5 n5 m5 e5 => ?_
      · rw [i2.length, i4.length, Tm.ds_map, Tm.ds_map, List.length_map, List.length_map]
        omega
      · have hp5f : p5 ≠ f := (ne_of_none ((m2.trans m4).same _ _ ef1) n5).symm
        refine ⟨p5, _, _, rfl, (m02.trans m4).free n5, hp5f, e5, ?_, m2.trans (m4.trans m5)⟩
        rw [htake, Tm.ds_append]
        exact ((i2.mv m4).mv m5).append (i4.mv m5)
    · obtain ⟨p, zs, y, rfl, np, hpf, e2, i2, m2⟩ := h2
      rw [hl, List.take_length] at i2
      have m02 := m1.trans m2
      have hB2 := hB.mv m02
      have hN2 := hN.dr (Dr.of m02)
      have ef2 := m2.same _ _ ef1
      have hfb : f ≠ b := hB.fneq hfH
      have hpb : p ≠ b := hB.fneq np
      have hzl : zs.length = (Tm.partsL ts).length := by rw [i2.length, Tm.ds_map, List.length_map]
      have hpos : 0 < (Tm.partsL ts).length := by
        cases ts with
        | nil => exact absurd rfl hne
        | cons t ts =>
          have := List.length_pos_of_mem (Tm.self_parts t)
          simp only [Tm.partsL, List.length_append]
          omega
      have hpok := Tm.partsL_ok ts hok hdp
      refine ⟨.ref b, rfl, b, 7, rfl, hB2, by decide, by decide, fun n H3 hn0 hn1 d3 => ⟨n, rfl, by omega, by omega, ?_⟩⟩
      have dH3 := (Dr.of (b := b) m02).trans d3
      refine for_range (lo := 0) (n := n.toNat) (fun i σ H4 => ∃ (fs : List V) (us : List Tm) (y5 y6 y7 : Option V), σ = [some (.ref b), some (.ref nm), some (.ref tl), some (.ref p), some (.ref f), y5, y6, y7] ∧ H4 f = some (.lst fs) ∧ Ims K H4 fs (Tm.ds us) ∧ us.length = i ∧ (∀ u ∈ us, u.ok in3 ∧ u.dep ≤ 3) ∧
          H4 p = some (.lst zs) ∧ Ims K H4 zs (Tm.ds (Tm.partsL ts)) ∧ Dr b H H4)
        ⟨[], [], _, _, _, rfl, d3.get hfb ef2, Ims.nil, rfl, fun u hu => by simp at hu, d3.get hpb e2, i2.mv d3.mv, dH3⟩ (fun i σ H4 hi h4 => ?_) (fun σ H4 h4 => ?_)
      · obtain ⟨fs, us, y5, y6, y7, rfl, ef4, if4, lu, hu, ep4, ip4, dH4⟩ := h4
        have hB4 := dH4.bag hB
        have hN4 := hN.dr dH4
        -- some
        refine ⟨.ref p, rfl, .ref b, rfl, .ref p, rfl, ?_⟩
        walk_at "nn"
        refine rd_len (.inl (.inl (.inl ep4))) ?_
        refine ⟨b, _, rfl, hB4, by omega, by omega, fun j H5 hj0 hj1 d5 => ?_⟩
        have hjl : j.toNat < zs.length := by omega
        have ep5 := d5.get hpb ep4
        have ip5 := ip4.mv d5.mv
        obtain ⟨pd, hpd, hpi⟩ := ip5.get (List.getElem?_eq_getElem hjl)
        rw [Tm.ds_map, List.getElem?_map] at hpd
        obtain ⟨pt, hpt, rfl⟩ := Option.map_eq_some_iff.mp hpd
        have hptm := hpok pt (List.mem_of_getElem? hpt)
        refine rd_ixL (.inl (.inl ep5)) hj0 (List.getElem?_eq_getElem hjl) ?_
        have hB5 := d5.bag hB4
        have hN5 := hN4.dr d5
        refine ⟨.ref b, rfl, .ref nm, rfl, b, nm, xs, 3, 2, rfl, hB5, hN5.at_, hN5.ne, hN5.some_, hN5.few, hN5.ok, by decide, by decide, by decide, fun v t H6 ho hx1 hx2 him d6 => ⟨(by decide : 2 ≤ sizeLine), fun sp nsp => ?_⟩⟩
        have hx3 : t.dep ≤ 3 := by have := hx2 (by decide); simp at this; omega
        have d46 := d5.trans d6
        have m7 : Mv [] H6 (upd H6 sp (.lst [zs[j.toNat], v])) := .new nsp
        have e7 : upd H6 sp (.lst [zs[j.toNat], v]) sp = some (.lst [zs[j.toNat], v]) := upd_same
        generalize upd H6 sp (.lst [zs[j.toNat], v]) = H7 at m7 e7 ⊢
        have d47 := d46.trans (Dr.of m7)
        have ef7 := d47.get hfb ef4
        have if7 := if4.mv d47.mv
        have hB7 := d47.bag hB4
        have is7 : Ims K H7 [zs[j.toNat], v] (Tm.ds [pt, t]) := Ims.cons ((hpi.mv d6.mv).mv m7) (Ims.cons (him.mv m7) Ims.nil)
        have hspb : sp ≠ b := (d46.bag hB4).fneq nsp
        obtain ⟨ws, hws, hwu⟩ := cut_im if7 (some (-1)) none
        have hcl := cutV_length fs (some (-1)) none
        have hfl : fs.length = i := by rw [if4.length, Tm.ds_map, List.length_map, lu]
        -- append
        refine ⟨.ref f, rfl, .inl ⟨rfl, _, .inl (.inl ef7)⟩, .ref sp, rfl, .ref f, rfl, 1, rfl, -1, rfl, Or.inl ⟨f, _, rfl, .inl (.inl ef7), fun c1 nc1 => ?_⟩⟩
        have m8 : Mv [] H7 (upd H7 c1 (.lst (cutV fs (some (-1)) none))) := .new nc1
        have e8 : upd H7 c1 (.lst (cutV fs (some (-1)) none)) c1 = some (.lst (cutV fs (some (-1)) none)) := upd_same
        generalize upd H7 c1 (.lst (cutV fs (some (-1)) none)) = H8 at m8 e8 ⊢
        refine rd_catL (m8.same _ _ e7) e8 (line5 (by simp only [List.length_cons, List.length_nil]; omega)) fun c2 H9 nc2 m9 e9 => ?_
        have m79 := m8.trans m9
        have ef9 := m79.same _ _ ef7
        refine ⟨.ref b, rfl, .ref f, rfl, 1, rfl, -1, rfl, Or.inl ⟨f, _, rfl, .inl (.inl ef9), fun c3 nc3 => ?_⟩⟩
        have m10 : Mv [] H9 (upd H9 c3 (.lst (cutV fs (some (-1)) none))) := .new nc3
        have e10 : upd H9 c3 (.lst (cutV fs (some (-1)) none)) c3 = some (.lst (cutV fs (some (-1)) none)) := upd_same
        generalize upd H9 c3 (.lst (cutV fs (some (-1)) none)) = H10 at m10 e10 ⊢
        walk_at "nn"
        refine rd_len (.inl (.inl (.inl e10))) ?_
        have m710 := m79.trans m10
        have hB10 := hB7.mv m710
        refine Or.inl ⟨2, _, rfl, rfl, b, _, rfl, hB10, by omega, by omega, fun q1 H11 hq0 hq1 d11 => ?_⟩
        have hc2b : c2 ≠ b := ((hB7.mv m8)).fneq nc2
        have e11 := d11.get hc2b (m10.same _ _ e9)
        have hq2 : q1.toNat < ([zs[j.toNat], v] ++ cutV fs (some (-1)) none).length := by
          simp only [List.length_append, List.length_cons, List.length_nil]
          omega
        have d711 := (Dr.of (b := b) m710).trans d11
        have all11 : Ims K H11 ([zs[j.toNat], v] ++ cutV fs (some (-1)) none) (Tm.ds ([pt, t] ++ ws)) := by
          rw [Tm.ds_append]
          exact (is7.append hws).mv d711.mv
        obtain ⟨rd, hrd, hri⟩ := all11.get (List.getElem?_eq_getElem hq2)
        rw [Tm.ds_map, List.getElem?_map] at hrd
        obtain ⟨rt, hrt, rfl⟩ := Option.map_eq_some_iff.mp hrd
        have hrok : rt.ok in3 ∧ rt.dep ≤ 3 := by
          have hm := List.mem_of_getElem? hrt
          simp only [List.cons_append, List.nil_append, List.mem_cons] at hm
          rcases hm with rfl | rfl | hm
          · exact hptm
          · exact ⟨ho, hx3⟩
          · exact hu rt (hwu rt hm)
        refine rd_ixL (.inl (.inl e11)) hq0 (List.getElem?_eq_getElem hq2) ?_
        have d411 := d47.trans d711
        have ef11 := d411.get hfb ef4
        refine ⟨f, _, _, rfl, rfl, ef11, small1000 (by omega), ?_⟩
        have if11 := (if4.mv d411.mv).append (Ims.cons hri Ims.nil)
        refine ⟨_, us ++ [rt], _, _, _, rfl, upd_same, ?_, by simp [lu], ?_, ?_, ?_, (dH4.trans d411).wr hfH⟩
        · rw [Tm.ds_append]
          exact if11.mv (Mv.set (S := [f]) ef11 (by simp))
        · intro x hx
          rcases List.mem_append.mp hx with hx | hx
          · exact hu x hx
          · rw [List.mem_singleton.mp hx]
            exact hrok
        · rw [upd_ne hpf]
          exact d411.get hpb ep4
        · exact (ip4.mv d411.mv).mv (Mv.set (S := [f]) ef11 (by simp))
      · obtain ⟨fs, us, y5, y6, y7, rfl, ef4, if4, lu, hu, ep4, ip4, dH4⟩ := h4
        exact ⟨.ref f, rfl, q f fs us H4 hfH ef4 if4 (Tm.oks_iff.mpr fun u h => (hu u h).1) (Tm.deps_le.mpr fun u h => (hu u h).2) (by omega) dH4⟩
end
end Fm
namespace Fm
open PySem PySem.Spec PyProof.Rows L2
/-! what can be built, told by texts -/
theorem in3_fig {i : Int} (h : in3 i) : fig i := ⟨h.1, by have := h.2; omega⟩
theorem in3_fit {i : Int} (h : in3 i) : i.natAbs < 10 ^ 40 := by
  have h1 := h.1
  have h2 := h.2
  have : i.natAbs < 3 := by omega
  exact Nat.lt_of_lt_of_le this (by decide)
mutual
theorem sg_low : ∀ t : Tm, t.ok fig → ∀ c ∈ t.sg, c < 1000
  | .var i, h, c, hc => by
    rw [fig_sg h] at hc
    have e := List.mem_singleton.mp hc
    have := h.1
    have := h.2
    omega
  | .op x [], h, c, hc => by
    simp only [Tm.sg, List.mem_append, List.mem_cons, List.not_mem_nil, or_false] at hc
    rcases hc with (h1 | h1) | h1
    · omega
    · have := h.1.2.2 c h1
      omega
    · omega
  | .op x (t :: ts), h, c, hc => by
    simp only [Tm.sg, List.mem_append, List.mem_cons, List.not_mem_nil, or_false] at hc
    rcases hc with ((h1 | h1) | h1) | ((h1 | h1) | h1)
    · omega
    · have := h.1.2.2 c h1
      omega
    · omega
    · omega
    · exact sg_low t h.2.2.1 c h1
    · exact sgs_low ts h.2.2.2 c h1
theorem sgs_low : ∀ ts : List Tm, Tm.oks fig ts → ∀ c ∈ Tm.sgs ts, c < 1000
  | [], _, c, hc => by
    simp only [Tm.sgs, List.mem_singleton] at hc
    omega
  | t :: ts, h, c, hc => by
    simp only [Tm.sgs, List.mem_append, List.mem_cons, List.not_mem_nil, or_false] at hc
    rcases hc with (h1 | h1) | h1
    · omega
    · exact sg_low t h.1 c h1
    · exact sgs_low ts h.2 c h1
end
theorem text_ok {t : Tm} (h : t.ok in3) : PyData.strOk t.d.shown = true := by
  show t.d.shown.cps.all (· < 0x110000) = true
  rw [Array.all_eq_true_iff_forall_mem]
  intro c hc
  have h1 := Tm.ok_mono (fun i => in3_fig) t h
  have hm : c ∈ t.sg := by
    rw [← sg_d t h1]
    simpa using hc
  have := sg_low t h1 c hm
  simp
  omega
theorem shw3 {t : Tm} (h : t.ok in3) (hd : t.dep ≤ 3) : Shw t.d := by
  have h1 := Tm.small 3 t h hd
  have h2 := wl_d t h
  have e : 3 ^ 3 = 27 := by decide
  rw [e] at h1
  exact ⟨fine_d (fun i => in3_fit) t h, by rw [depth_d]; omega, by omega⟩
/-! one round -/
def Tm.isOp : Tm → Bool
  | .var _ => false
  | .op _ _ => true
def Tm.args : Tm → List Tm
  | .var _ => []
  | .op _ ts => ts
/-- whether a part is told anew -/
def news (kn : List Str) (p : Tm) : Bool := p.isOp && !decide (p.d.shown ∈ kn) && p.args.all fun t => decide (t.d.shown ∈ kn)
def more (kn : List Str) (p : Tm) : List Str := if news kn p = true then kn ++ [p.d.shown] else kn
theorem more_len (kn : List Str) (p : Tm) : kn.length ≤ (more kn p).length := by
  unfold more
  split <;> simp
theorem fold_len : ∀ (ps : List Tm) (kn : List Str), kn.length ≤ (ps.foldl more kn).length
  | [], kn => Nat.le_refl _
  | p :: ps, kn => Nat.le_trans (more_len kn p) (fold_len ps (more kn p))
theorem fold_fix : ∀ (ps : List Tm) (kn : List Str), (ps.foldl more kn).length = kn.length → ps.foldl more kn = kn ∧ ∀ p ∈ ps, news kn p = false
  | [], kn, _ => ⟨rfl, fun p hp => by simp at hp⟩
  | p :: ps, kn, h => by
    rw [List.foldl_cons] at h ⊢
    have h1 := fold_len ps (more kn p)
    cases e : news kn p with
    | true =>
      have e2 : (more kn p).length = kn.length + 1 := by
        unfold more
        rw [if_pos e, List.length_append]
        rfl
      omega
    | false =>
      have e2 : more kn p = kn := by
        unfold more
        rw [e]
        rfl
      rw [e2] at h ⊢
      obtain ⟨h3, h4⟩ := fold_fix ps kn h
      refine ⟨h3, fun q hq => ?_⟩
      rcases List.mem_cons.mp hq with rfl | hq
      · exact e
      · exact h4 q hq
theorem nd_fewS : ∀ {ks l : List Str}, ks.Nodup → (∀ k ∈ ks, k ∈ l) → ks.length ≤ l.length
  | [], l, _, _ => Nat.zero_le l.length
  | k :: ks, l, h, hs => by
    have hn := List.nodup_cons.mp h
    have hk := hs k (by simp)
    have h1 := nd_fewS (l := l.erase k) hn.2 fun j hj => by
      have hjk : j ≠ k := fun e => hn.1 (by rw [← e]; exact hj)
      exact (List.mem_erase_of_ne hjk).mpr (hs j (by simp [hj]))
    rw [List.length_erase_of_mem hk] at h1
    have hp : 0 < l.length := List.length_pos_of_mem hk
    simp only [List.length_cons]
    omega
/-- what is known on the way -/
structure Knw (f : Int → Tm) (ks : List Int) (inner : List Tm) (kn : List Str) : Prop where
  sound : ∀ s ∈ kn, ∃ t : Tm, t.ok in3 ∧ s = t.d.shown ∧ (bld f ks t).isSome = true
  base : ∀ k ∈ ks, (f k).d.shown ∈ kn
  few : ∃ add : List Str, kn = ks.map (fun k => (f k).d.shown) ++ add ∧ add.Nodup ∧ ∀ s ∈ add, s ∈ inner.map fun p => p.d.shown
theorem Knw.len {f : Int → Tm} {ks : List Int} {inner : List Tm} {kn : List Str} (h : Knw f ks inner kn) : kn.length ≤ ks.length + inner.length := by
  obtain ⟨add, e, nd, hs⟩ := h.few
  have := nd_fewS nd hs
  rw [e, List.length_append, List.length_map]
  rw [List.length_map] at this
  omega
theorem blds_all {f : Int → Tm} {ks : List Int} : ∀ ts : List Tm, (blds f ks ts).isSome = true ↔ ∀ t ∈ ts, (bld f ks t).isSome = true
  | [] => by simp [blds]
  | t :: ts => by
    have e : blds f ks (t :: ts) = match bld f ks t, blds f ks ts with
      | some a, some b => some (a :: b)
      | _, _ => none := by (rw [blds]; try rfl)
    rw [e]
    have ih := blds_all (f := f) (ks := ks) ts
    cases h1 : bld f ks t with
    | none => simp [h1]
    | some a =>
      cases h2 : blds f ks ts with
      | none =>
        rw [h2] at ih
        simp only [List.mem_cons, forall_eq_or_imp, h1, ← ih]
        simp
      | some b =>
        rw [h2] at ih
        simp only [List.mem_cons, forall_eq_or_imp, h1, ← ih]
        simp
theorem bld_var {f : Int → Tm} {ks : List Int} (i : Int) : (bld f ks (.var i)).isSome = (fnd f ks (.var i)).isSome := by
  simp [bld]
theorem bld_op {f : Int → Tm} {ks : List Int} (x : Str) (ts : List Tm) : (bld f ks (.op x ts)).isSome = ((fnd f ks (.op x ts)).isSome || (blds f ks ts).isSome) := by
  rw [bld]
  cases fnd f ks (.op x ts) <;> simp
theorem bld_kept {f : Int → Tm} {ks : List Int} {k : Int} (hk : k ∈ ks) (hc : PyData.eqv (f k).d (f k).d = true) : (bld f ks (f k)).isSome = true := by
  have h1 : (fnd f ks (f k)).isSome = true := by
    unfold fnd
    rw [List.find?_isSome]
    exact ⟨k, hk, hc⟩
  cases e : f k with
  | var i =>
    rw [e] at h1
    rw [bld_var]
    exact h1
  | op x ts =>
    rw [e] at h1
    rw [bld_op, h1]
    rfl
theorem Knw.more {f : Int → Tm} {ks : List Int} {inner : List Tm} {kn : List Str} {p : Tm} (h : Knw f ks inner kn) (hp : p ∈ inner) (hok : ∀ q ∈ p.args, q.ok in3) (ho : p.ok in3) : Knw f ks inner (Fm.more kn p) := by
  unfold Fm.more
  split
  · rename_i e
    unfold news at e
    simp only [Bool.and_eq_true, Bool.not_eq_true', decide_eq_false_iff_not, List.all_eq_true, decide_eq_true_eq] at e
    obtain ⟨⟨e1, e2⟩, e3⟩ := e
    refine ⟨fun s hs => ?_, fun k hk => List.mem_append_left _ (h.base k hk), ?_⟩
    · rcases List.mem_append.mp hs with hs | hs
      · exact h.sound s hs
      · refine ⟨p, ho, List.mem_singleton.mp hs, ?_⟩
        cases p with
        | var i => simp [Tm.isOp] at e1
        | op x ts =>
          rw [bld_op, (blds_all ts).mpr fun t ht => ?_, Bool.or_true]
          obtain ⟨u, hu, eu, hb⟩ := h.sound _ (e3 t ht)
          have : t = u := shown_inj (Tm.ok_mono (fun i => in3_fig) t (hok t ht)) (Tm.ok_mono (fun i => in3_fig) u hu) eu
          rw [this]
          exact hb
    · obtain ⟨add, ea, nd, hs⟩ := h.few
      refine ⟨add ++ [p.d.shown], by rw [ea, List.append_assoc], ?_, fun s hs' => ?_⟩
      · rw [List.nodup_append]
        refine ⟨nd, by simp, fun a ha c hc => ?_⟩
        rintro rfl
        rw [List.mem_singleton.mp hc] at ha
        exact e2 (by rw [ea]; exact List.mem_append_right _ ha)
      · rcases List.mem_append.mp hs' with hs' | hs'
        · exact hs s hs'
        · rw [List.mem_singleton.mp hs']
          exact List.mem_map.mpr ⟨p, hp, rfl⟩
  · exact h
/-- at the end -/
theorem Knw.told {f : Int → Tm} {ks : List Int} {ts : List Tm} {kn : List Str} (h : Knw f ks (Tm.partsL ts) kn) (fix : ∀ p ∈ Tm.partsL ts, news kn p = false) (hok : ∀ p ∈ Tm.partsL ts, p.ok in3) :
    ∀ (n : Nat) (p : Tm), p.dep < n → p ∈ Tm.partsL ts → (p.d.shown ∈ kn ↔ (bld f ks p).isSome = true)
  | 0, p, hd, _ => by omega
  | n + 1, p, hd, hp => by
    constructor
    · intro hm
      obtain ⟨u, hu, eu, hb⟩ := h.sound _ hm
      have : p = u := shown_inj (Tm.ok_mono (fun i => in3_fig) p (hok p hp)) (Tm.ok_mono (fun i => in3_fig) u hu) eu
      rw [this]
      exact hb
    · intro hb
      have found : ∀ k, fnd f ks p = some k → p.d.shown ∈ kn := fun k hk => by
        obtain ⟨h1, h2⟩ := fnd_mem hk
        have := h.base k h1
        rw [h2] at this
        exact this
      cases p with
      | var i =>
        rw [bld_var] at hb
        obtain ⟨k, hk⟩ := Option.isSome_iff_exists.mp hb
        exact found k hk
      | op x us =>
        rw [bld_op, Bool.or_eq_true] at hb
        rcases hb with hb | hb
        · obtain ⟨k, hk⟩ := Option.isSome_iff_exists.mp hb
          exact found k hk
        · have hall := (blds_all us).mp hb
          have hin : ∀ t ∈ us, t.d.shown ∈ kn := fun t ht => by
            have hd' := Tm.deps_le.mp (show Tm.deps us ≤ Tm.deps us from Nat.le_refl _) t ht
            simp only [Tm.dep] at hd
            exact (h.told fix hok n t (by omega) (Tm.partsL_in ts x us hp t ht)).mpr (hall t ht)
          have hf := fix _ hp
          by_cases hm : (Tm.op x us).d.shown ∈ kn
          · exact hm
          · unfold news at hf
            have : ((Tm.op x us).args.all fun t => decide (t.d.shown ∈ kn)) = true := by
              rw [List.all_eq_true]
              intro t ht
              exact decide_eq_true (hin t ht)
            rw [this, decide_eq_false hm] at hf
            simp [Tm.isOp] at hf
theorem args_ok {R : Int → Prop} {p : Tm} (h : p.ok R) : ∀ q ∈ p.args, q.ok R := by
  cases p with
  | var i => intro q hq; simp [Tm.args] at hq
  | op x ts => exact Tm.oks_iff.mp h.2.2
theorem fold_knw {f : Int → Tm} {ks : List Int} {inner : List Tm} (hok : ∀ p ∈ inner, p.ok in3) : ∀ (ps : List Tm) (kn : List Str), (∀ p ∈ ps, p ∈ inner) → Knw f ks inner kn → Knw f ks inner (ps.foldl Fm.more kn)
  | [], kn, _, h => h
  | p :: ps, kn, hs, h => fold_knw hok ps _ (fun q hq => hs q (by simp [hq])) (h.more (hs p (by simp)) (args_ok (hok p (hs p (by simp)))) (hok p (hs p (by simp))))
end Fm
namespace Fm
open PySem PySem.Spec PyProof.Rows L2
local macro_rules | `(tactic| walk_at "nn") => `(tactic| dsimp only [tC, tNil, tCons, tCB, tCall, gName, tSeq, tAsg, tPar, tDrop, tRet])
local macro_rules | `(tactic| walk_at "nc") => `(tactic| dsimp only [tC, tNil, tCons, tCB])
def fU (us : List Tm) (k : Int) : Tm := us.getD k.toNat (.var 0)
theorem fU_mem {us : List Tm} {k : Int} (h : k.toNat < us.length) : fU us k ∈ us ∧ us[k.toNat]? = some (fU us k) := by
  have e := List.getElem?_eq_getElem h
  have e2 : fU us k = us[k.toNat] := by
    unfold fU
    rw [List.getD_eq_getElem?_getD, e]
    rfl
  rw [e2]
  exact ⟨List.getElem_mem h, e⟩
def sp_can (K : PySem.W.Frag) : Sp := fun vs H Q _ => ∃ (tl vl kp : Addr) (ys zs : List V) (ts us : List Tm) (ks : List Int), vs = [.ref tl, .ref vl, .ref kp] ∧ H tl = some (.lst ys) ∧ Ims K H ys (Tm.ds ts) ∧ Tm.oks in3 ts ∧ Tm.deps ts ≤ 3 ∧ ts.length ≤ 3 ∧
  H vl = some (.lst zs) ∧ Ims K H zs (Tm.ds us) ∧ Tm.oks in3 us ∧ Tm.deps us ≤ 3 ∧ H kp = some (.lst (ks.map V.int)) ∧ ks.length ≤ 100 ∧ (∀ k ∈ ks, 0 ≤ k ∧ k.toNat < us.length) ∧
  ∀ (p : Addr) (kn : List Str) H', H p = none → Mv [] H H' → H' p = some (.lst (kn.map V.str)) → (∀ t ∈ ts, t.d.shown ∈ kn ↔ (bld (fU us) ks t).isSome = true) → (∀ s ∈ kn, PyData.strOk s = true) → Q (.ref p) H'
section
variable {K : PySem.W.Frag} {H : Hp}
theorem dp_strs : ∀ o : List Str, DpAll K H (o.map V.str) (o.map PyData.str)
  | [] => .nil
  | x :: o => .cons (.str x) (dp_strs o)
theorem strs_any (o : List Str) (u : Str) : ((o.map PyData.str).any fun z => PyData.eqv z (.str u)) = decide (u ∈ o) := by
  rw [List.any_map]
  have e : ((fun z => PyData.eqv z (.str u)) ∘ PyData.str) = fun z => z == u := by
    funext z
    simp [PyData.eqv]
  rw [e, Bool.eq_iff_iff]
  simp
theorem strs_shaped {o : List Str} (h : ∀ s ∈ o, PyData.strOk s = true) : SeqAt.shaped (.list (o.map PyData.str)) = true := by
  have h1 : ∀ o : List Str, (∀ s ∈ o, PyData.strOk s = true) → PyData.canLayAll0 (o.map PyData.str) = true := fun o => by
    induction o with
    | nil => intro _; rfl
    | cons x o ih =>
      intro h
      simp [PyData.canLayAll0, PyData.canLay0, ih fun s hs => h s (by simp [hs]), h x (by simp)]
  have h2 : ∀ o : List Str, PyData.depthAll (o.map PyData.str) = 0 := fun o => by
    induction o with
    | nil => rfl
    | cons x o ih => simp [PyData.depthAll, PyData.depth, ih]
  show (PyData.canLay0 (.list (o.map PyData.str)) && decide (PyData.depth (.list (o.map PyData.str)) ≤ 64)) = true
  simp only [PyData.canLay0, PyData.depth, h1 o h, h2]
  rfl
theorem str_shaped {x : Str} (h : PyData.strOk x = true) : SeqAt.shaped (.str x) = true := by
  show (PyData.canLay0 (.str x) && decide (PyData.depth (.str x) ≤ 64)) = true
  simp only [PyData.canLay0, PyData.depth, h]
  rfl
theorem rd_inS {a : Addr} {kn : List Str} {s : Str} {Q : VK} (ha : H a = some (.lst (kn.map V.str))) (hk : ∀ s ∈ kn, PyData.strOk s = true) (hs : PyData.strOk s = true) (h : Q (.bl (decide (s ∈ kn))) H) : rInG K (.str s) (.ref a) H Q :=
  Or.inl ⟨.str s, _, .str s, .lst (.inl (.inl ha)) (dp_strs kn), str_shaped hs, strs_shaped hk, by rw [strs_any]; exact h⟩
theorem rd_notInS {a : Addr} {kn : List Str} {s : Str} {Q : VK} (ha : H a = some (.lst (kn.map V.str))) (hk : ∀ s ∈ kn, PyData.strOk s = true) (hs : PyData.strOk s = true) (h : Q (.bl (!decide (s ∈ kn))) H) : rNotInG K (.str s) (.ref a) H Q :=
  Or.inl ⟨.str s, _, .str s, .lst (.inl (.inl ha)) (dp_strs kn), str_shaped hs, strs_shaped hk, by rw [strs_any]; exact h⟩
theorem rd_repr {v : V} {t : Tm} {Q : VK} (hv : Im K H v t.d) (ho : t.ok in3) (hd : t.dep ≤ 3) (h : Q (.str t.d.shown) H) : rReprG K [v] H Q := by
  have hs := shw3 ho hd
  have hf := fine_lay t.d hs.fi
  exact ⟨v, t.d, rfl, hv.dp, hf.2.1, hf.2.2, hs.dp, hs.len, h⟩
end
theorem Knw.strs {f : Int → Tm} {ks : List Int} {inner : List Tm} {kn : List Str} (h : Knw f ks inner kn) : ∀ s ∈ kn, PyData.strOk s = true := fun s hs => by
  obtain ⟨t, ht, rfl, _⟩ := h.sound s hs
  exact text_ok ht
section
variable {P : Program} {w : World} {K : PySem.W.Frag} {mg : Str → Option Value} {base : Heap}
theorem ok__law_can (T : TX K mg) : FnOkG P w K mg base CX0 6 T.d__law_can.f T.d__law_can.fd P__law_can (sp_can K) := by
  have G__law_parts : FnOk P w K mg base CX0 5 T.d__law_parts.f T.d__law_parts.fd P__law_parts (sp_parts K 4) := ok__law_parts T 4
  refine okG T.d__law_can.F sc__law_can (fun vs H Q E h => ?_) (fun cdv A outer s H vs Q E hgd hr h => ?_)
  · obtain ⟨_, _, _, _, _, _, _, _, rfl, _⟩ := h
    rfl
  · obtain ⟨tl, vl, kp, ys, zs, ts, us, ks, rfl, ht, hys, hok, hdp, hln, hv, hzs, huk, hud, hk, hkl, hkb, q⟩ := h
    have hu64 := hr.units
    have hu65 := hu65_of hr
    refine ⟨_, (pss_cons (ps_asg (pe_tup (pa_cons (pe_lc (own := [("_law_at", 8)]) (g := gName 8) (by rfl) sc__law_can.nd (pi_seq (pv 2)) (blkOk_by (own := [("_law_at", 8)]) (N := N__law_can) (sc := defScope s__law_can) (by decide +kernel)) (fun _ _ _ _ _ => pg_name (i := 8) sc__law_can.nd rfl (Or.inl rfl)) (fun _ _ _ _ _ => pts_nil) (fun _ _ _ _ _ => (pe_callB (r := rReprG K) (call_reprG hgd hu64) (by rfl) T.b_repr bt_repr (pa_cons (pe_ix (r := rIx K) ix_seq (pv 1) (pv 8) (fun _ _ => rfl)) pa_nil)))) (pa_cons (pe_un un_neg pe_int) pa_nil))) (pg_tup rfl (pgs_cons (pg_name (i := 3) sc__law_can.nd rfl (Or.inr rfl)) (pgs_cons (pg_name (i := 4) sc__law_can.nd rfl (Or.inl rfl)) pgs_nil)))) (pss_cons (ps_set (i := 5) sc__law_can.nd rfl (Or.inl rfl) (pe_lst pa_nil)) (pss_cons (ps_for PassesOwn.never rfl (pi_seq (pv 0)) (pg_name (i := 6) sc__law_can.nd rfl (Or.inl rfl)) (pss_one (ps_set (i := 5) sc__law_can.nd rfl (Or.inl rfl) (pe_op (r := rAddG K) op_addG (pv 5) (pe_call G__law_parts (hr.mono (by omega)) rfl T.d__law_parts.g T.d__law_parts.F.kp T.d__law_parts.b .nil pass0 (pa_cons (pv 6) pa_nil)))))) (pss_cons (ps_while PassesOwn.never (pt_cmpR (r := rNeG K) (op_neG hu64) (pv 4) (pe_callB (r := rLenG K) call_lenG (by rfl) T.b_len bt_len (pa_cons (pv 3) pa_nil)) (nomark _)) (pss_cons (ps_set (i := 4) sc__law_can.nd rfl (Or.inl rfl) (pe_callB (r := rLenG K) call_lenG (by rfl) T.b_len bt_len (pa_cons (pv 3) pa_nil))) (pss_one (ps_for PassesOwn.never rfl (pi_seq (pv 5)) (pg_name (i := 7) sc__law_can.nd rfl (Or.inl rfl)) (pss_one (ps_if (PW.pt (pw_and (pt_not (pt_val (pe_callB (r := rIsi K) call_isi (by rfl) T.b_isinstance bt_isinstance (pa_cons (pv 7) (pa_cons (pe_ty T.b_int bt_int) pa_nil))))) (pw_and1 (pt_cmpR (r := rNotInG K) (op_notInG hu65) (pe_callB (r := rReprG K) (call_reprG hgd hu64) (by rfl) T.b_repr bt_repr (pa_cons (pv 7) pa_nil)) (pv 3) rfl)))) (pss_one (ps_if (pt_val (pe_callB (r := rAll K) (cr_all rfl) (by rfl) T.b_all bt_all (pa_cons (pe_lc (own := [("_law_one", 9)]) (g := gName 9) (by rfl) sc__law_can.nd (pi_seq (pe_slice (r := rSlG K) sl_G (pv 7) (po_some pe_int) po_none)) (blkOk_by (own := [("_law_one", 9)]) (N := N__law_can) (sc := defScope s__law_can) (by decide +kernel)) (fun _ _ _ _ _ => pg_name (i := 9) sc__law_can.nd rfl (Or.inl rfl)) (fun _ _ _ _ _ => pts_nil) (fun _ _ _ _ _ => (pe_cmpR (r := rInG K) (op_inG hu65) (pe_callB (r := rReprG K) (call_reprG hgd hu64) (by rfl) T.b_repr bt_repr (pa_cons (pv 9) pa_nil)) (pv 3) rfl))) pa_nil))) (pss_one (ps_expr (pe_bm PySem.F.plainAttrs_list PySem.F.slot_list_append PySem.F.type_list_append mt_append (pv 3) (pa_cons (pe_callB (r := rReprG K) (call_reprG hgd hu64) (by rfl) T.b_repr bt_repr (pa_cons (pv 7) pa_nil)) pa_nil)))) pss_nil)) pss_nil)))))) (pss_one (ps_ret (pv 3))))))), ?_⟩
    have hl : ys.length = ts.length := by rw [hys.length, Tm.ds_map, List.length_map]
    have hfew := Tm.partsL_few 3 ts (Tm.oks_iff.mp hok) (Tm.deps_le.mp hdp)
    have hpl : (Tm.partsL ts).length ≤ 1000 := by
      have : ts.length * 3 ^ (3 + 1) ≤ 3 * 3 ^ (3 + 1) := Nat.mul_le_mul_right _ hln
      have e : 3 * 3 ^ (3 + 1) = 243 := by decide
      omega
    have hpok := Tm.partsL_ok ts hok hdp
    have hfok : ∀ k ∈ ks, (fU us k).ok in3 ∧ (fU us k).dep ≤ 3 := fun k hk1 => by
      have hm := (fU_mem (hkb k hk1).2).1
      exact ⟨Tm.oks_iff.mp huk _ hm, Tm.deps_le.mp hud _ hm⟩
    -- known, before
    refine ⟨.ref kp, rfl, kp, rfl, ?_⟩
    refine lc_seq (xs := ks.map V.int) (.inl (.inl (.inl hk))) (fun i D H1 => H1 D = some (.lst (((ks.take i).map fun k => (fU us k).d.shown).map V.str)) ∧ Mv [] H H1)
      (fun D nD => ⟨upd_same, .new nD⟩) (fun i D H1 nD h1 => h1.2) (fun D nD i x H1 hx h1 => ?_) (fun D H1 nD h1 => ?_)
    · obtain ⟨e1, m1⟩ := h1
      rw [List.getElem?_map] at hx
      obtain ⟨k, hk1, rfl⟩ := Option.map_eq_some_iff.mp hx
      have hkm := List.mem_of_getElem? hk1
      obtain ⟨h0, hkl1⟩ := hkb k hkm
      have hi := (List.getElem?_eq_some_iff.mp hk1).1
      obtain ⟨z, hz, hzi⟩ := hzs.getD (i := k.toNat) (d := (fU us k).d) (by rw [Tm.ds_map, List.getElem?_map, (fU_mem hkl1).2]; rfl)
      refine ⟨rfl, .ref vl, rfl, .int k, rfl, rd_ixL (.inl (.inl (m1.same _ _ hv))) h0 hz ?_⟩
      walk_at "nc"
      refine rd_repr (hzi.mv m1) (hfok k hkm).1 (hfok k hkm).2 ⟨_, e1, ?_, ?_, m1.wr nD⟩
      · rw [List.length_map, List.length_map, List.length_take]
        exact line5lt (by omega)
      · rw [upd_same, List.take_add_one, hk1]
        simp
    · obtain ⟨e1, m1⟩ := h1
      rw [List.length_map, List.take_length] at e1
      refine ⟨1, rfl, (by decide : 2 ≤ sizeLine), fun p np => ⟨p, _, rfl, .inl (.inl upd_same), rfl, _, _, rfl, _, _, rfl, rfl, ?_⟩⟩
      have m2 := m1.trans (.new (o := .tup [.ref D, .int (-1)]) np)
      have e2 : upd H1 p (.tup [.ref D, .int (-1)]) D = _ := (same_new np _ _ e1)
      generalize upd H1 p (.tup [.ref D, .int (-1)]) = H2 at m2 e2 ⊢
      -- inner
      refine ⟨Nat.zero_le _, fun n0 nn0 => ⟨.ref tl, rfl, tl, rfl, ?_⟩⟩
      have m3 : Mv [] H2 (upd H2 n0 (.lst [])) := .new nn0
      have e3 : upd H2 n0 (.lst []) n0 = some (.lst []) := upd_same
      generalize upd H2 n0 (.lst []) = H3 at m3 e3 ⊢
      have m03 := m2.trans m3
      have hDn0 : n0 ≠ D := (ne_of_none e2 nn0).symm
      refine for_seq (xs := ys) (.inl (.inl (.inl (m03.same _ _ ht)))) (fun i σ H4 => ∃ q1 ws y, σ = [some (.ref tl), some (.ref vl), some (.ref kp), some (.ref D), some (.int (-1)), some (.ref q1), y, none, none, none] ∧ q1 ≠ D ∧ H4 q1 = some (.lst ws) ∧ Ims K H4 ws (Tm.ds (Tm.partsL (ts.take i))) ∧ Mv [] H3 H4)
        ⟨n0, [], none, rfl, hDn0, e3, Ims.nil, .refl⟩ (fun i σ H4 h4 => ?_) (fun i z σ H4 hz h4 => ?_) (fun σ H4 h4 => ?_)
      · obtain ⟨_, _, _, _, _, _, _, m⟩ := h4
        exact m
      · obtain ⟨q1, ws, y, rfl, hqD, e4, i4, m4⟩ := h4
        have m04 := m03.trans m4
        obtain ⟨zd, hzd, hzi⟩ := hys.get hz
        rw [Tm.ds_map, List.getElem?_map] at hzd
        obtain ⟨zt, hzt, rfl⟩ := Option.map_eq_some_iff.mp hzd
        have hmem := List.mem_of_getElem? hzt
        have h5 := Tm.deps_le.mp hdp zt hmem
        have h6 := Tm.parts_le hmem
        have htake : Tm.partsL (ts.take (i + 1)) = Tm.partsL (ts.take i) ++ zt.parts := by
          rw [List.take_add_one, hzt, Tm.partsL_append]
          simp [Tm.partsL]
        have h7 := Tm.partsL_take (i + 1) ts
        rw [htake, List.length_append] at h7
        refine ⟨.ref q1, rfl, z, rfl, z, zt, rfl, hzi.mv m04, by omega, by omega, fun p5 vs5 H5 n5 m5 e5 i5 => ?_⟩
        refine rd_catL (m5.same _ _ e4) e5 (line5 ?_) fun p6 H6 n6 m6 e6 => ?_
        · rw [i4.length, i5.length, Tm.ds_map, Tm.ds_map, List.length_map, List.length_map]
          omega
        · have hpD : p6 ≠ D := (ne_of_none ((m3.trans (m4.trans m5)).same _ _ e2) n6).symm
          refine ⟨p6, _, _, rfl, hpD, e6, ?_, m4.trans (m5.trans m6)⟩
          rw [htake, Tm.ds_append]
          exact ((i4.mv m5).mv m6).append (i5.mv m6)
      · obtain ⟨q1, ws, y, rfl, hqD, e4, i4, m4⟩ := h4
        rw [hl, List.take_length] at i4
        have m04 := m03.trans m4
        have e4D := (m3.trans m4).same _ _ e2
        obtain ⟨kn0, hkn0⟩ : ∃ kn0, kn0 = ks.map fun k => (fU us k).d.shown := ⟨_, rfl⟩
        rw [← hkn0] at e4D
        have K0 : Knw (fU us) ks (Tm.partsL ts) kn0 := by
          subst hkn0
          refine ⟨fun s hs => ?_, fun k hk1 => List.mem_map.mpr ⟨k, hk1, rfl⟩, [], by simp, List.nodup_nil, fun s hs => by simp at hs⟩
          obtain ⟨k, hk1, rfl⟩ := List.mem_map.mp hs
          exact ⟨_, (hfok k hk1).1, rfl, bld_kept hk1 (shw3 (hfok k hk1).1 (hfok k hk1).2).eqv⟩
        -- while
        refine ⟨fun m σ H5 => ∃ (kn : List Str) (bf : Int) (y6 y7 : Option V), σ = [some (.ref tl), some (.ref vl), some (.ref kp), some (.ref D), some (.int bf), some (.ref q1), y6, y7, none, none] ∧ H5 D = some (.lst (kn.map V.str)) ∧ H5 q1 = some (.lst ws) ∧ Ims K H5 ws (Tm.ds (Tm.partsL ts)) ∧ Mv [] H H5 ∧
            Knw (fU us) ks (Tm.partsL ts) kn ∧ -1 ≤ bf ∧ bf ≤ kn.length ∧ (bf = kn.length → ∀ p ∈ Tm.partsL ts, news kn p = false) ∧ m = (2000 - bf).toNat, ⟨_, kn0, -1, y, none, rfl, e4D, e4, i4, m04, K0, by omega, by omega, fun e => by omega, rfl⟩, fun m σ H5 hW => ?_⟩
        obtain ⟨kn, bf, y6, y7, rfl, e5, eq5, i5, m5, K5, hb0, hb1, hfix, rfl⟩ := hW
        have hkl5 := K5.len
        refine ⟨.int bf, rfl, .ref D, rfl, ?_⟩
        walk_at "nc"
        refine rd_len (.inl (.inl (.inl e5))) ?_
        refine Or.inl ⟨rfl, ?_⟩
        refine ⟨_, rfl, ite2 (fun e => ?_) (fun e => ?_)⟩
        · refine ⟨fun σ' H' => ∃ m', m' < (2000 - bf).toNat ∧ _, fun _ _ h => h, ?_⟩
          have hne : bf ≠ kn.length := by
            intro z
            rw [z] at e
            simp at e
          refine ⟨.ref D, rfl, ?_⟩
          walk_at "nn"
          refine rd_len (.inl (.inl (.inl e5))) ?_
          refine ⟨.ref q1, rfl, q1, rfl, Or.inl ⟨⟨_, .inl (.inl eq5)⟩, ?_⟩⟩
          have hwl : ws.length = (Tm.partsL ts).length := by rw [i5.length, Tm.ds_map, List.length_map]
          have hpm : ∀ p ∈ Tm.partsL ts, p.ok in3 := fun p hp => (hpok p hp).1
          have hKn : ∀ i, Knw (fU us) ks (Tm.partsL ts) (((Tm.partsL ts).take i).foldl more kn) := fun i => fold_knw hpm _ kn (fun p hp => List.mem_of_mem_take hp) K5
          refine for_list (K := K) (a := q1) (xs := ws) (fun i σ H6 => ∃ y7 : Option V, σ = [some (.ref tl), some (.ref vl), some (.ref kp), some (.ref D), some (.int ((kn.map V.str).length : Nat)), some (.ref q1), y6, y7, none, none] ∧ H6 D = some (.lst ((((Tm.partsL ts).take i).foldl more kn).map V.str)) ∧ H6 q1 = some (.lst ws) ∧ Ims K H6 ws (Tm.ds (Tm.partsL ts)) ∧ Mv [] H H6)
            ⟨_, rfl, e5, eq5, i5, m5⟩ (fun i σ H6 _ h6 => ?_) (fun i z σ H6 hz h6 => ?_) (fun σ H6 h6 => ?_)
          · obtain ⟨_, _, _, h, _⟩ := h6
            exact .inl (.inl h)
          · obtain ⟨y7', rfl, e6, eq6, i6, m6⟩ := h6
            obtain ⟨zd, hzd, hzi⟩ := i6.get hz
            rw [Tm.ds_map, List.getElem?_map] at hzd
            obtain ⟨zt, hzt, rfl⟩ := Option.map_eq_some_iff.mp hzd
            have hmem := List.mem_of_getElem? hzt
            have hKi := hKn i
            have hKi1 := hKn (i + 1)
            have hli := hKi.len
            have estep : ((Tm.partsL ts).take (i + 1)).foldl more kn = more (((Tm.partsL ts).take i).foldl more kn) zt := by
              rw [List.take_add_one, hzt, List.foldl_append]
              rfl
            rw [estep] at hKi1 ⊢
            generalize ((Tm.partsL ts).take i).foldl more kn = kni at e6 hKi hKi1 hli ⊢
            obtain ⟨zo, zdp⟩ := hpok zt hmem
            refine ⟨z, rfl, ?_⟩
            walk_at "nn"
            refine rd_isInt hzi ?_
            refine ⟨_, rfl, ?_⟩
            cases zt with
            | var j => exact ⟨_, rfl, e6, eq6, i6, m6⟩
            | op x as =>
              have hno : more kni (Tm.op x as) = kni ∨ news kni (.op x as) = true := by
                unfold more
                cases news kni (.op x as) with
                | true => exact .inr rfl
                | false => exact .inl rfl
              refine ⟨z, rfl, ?_⟩
              walk_at "nc"
              refine rd_repr hzi zo zdp ⟨.ref D, rfl, rd_notInS e6 hKi.strs (text_ok zo) ⟨_, rfl, ite2 (fun e1 => ?_) (fun e1 => ?_)⟩⟩
              · obtain ⟨a, xs0, rfl, ha, hxs⟩ := hzi.tupI
                obtain ⟨x', xs, rfl, hx', has⟩ := hxs.invD
                have hxl : xs.length = as.length := by rw [has.length, Tm.ds_map, List.length_map]
                have hasok := Tm.oks_iff.mp zo.2.2
                have hasd : Tm.deps as ≤ 2 := by simp only [Tm.dep] at zdp; omega
                refine ⟨.ref a, rfl, 1, rfl, rd_sl1 ha fun p7 H7 m7 e7 => ⟨p7, rfl, ?_⟩⟩
                refine lc_seq (xs := xs) (.inr e7) (fun j D2 H8 => H8 D2 = some (.lst (((as.take j).map fun t => decide (t.d.shown ∈ kni)).map V.bl)) ∧ Mv [] H7 H8)
                  (fun D2 nD2 => ⟨upd_same, .new nD2⟩) (fun j D2 H8 nD2 h8 => h8.2) (fun D2 nD2 j y H8 hy h8 => ?_) (fun D2 H8 nD2 h8 => ?_)
                · obtain ⟨e8, m8⟩ := h8
                  obtain ⟨yd, hyd, hyi⟩ := has.get hy
                  rw [Tm.ds_map, List.getElem?_map] at hyd
                  obtain ⟨yt, hyt, rfl⟩ := Option.map_eq_some_iff.mp hyd
                  have hym := List.mem_of_getElem? hyt
                  have hj := (List.getElem?_eq_some_iff.mp hyt).1
                  have hy3 := zo.2.1
                  have m78 := m7.trans m8
                  refine ⟨rfl, y, rfl, ?_⟩
                  walk_at "nc"
                  refine rd_repr (hyi.mv m78) (hasok yt hym) (Nat.le_trans (Tm.deps_le.mp hasd yt hym) (by decide)) ⟨.ref D, rfl, rd_inS (m78.same _ _ e6) hKi.strs (text_ok (hasok yt hym)) ⟨_, e8, ?_, ?_, m8.wr nD2⟩⟩
                  · rw [List.length_map, List.length_map, List.length_take]
                    exact line5lt (by omega)
                  · rw [upd_same, List.take_add_one, hyt]
                    simp
                · obtain ⟨e8, m8⟩ := h8
                  rw [hxl, List.take_length] at e8
                  have m78 := m7.trans m8
                  have e8D := m78.same _ _ e6
                  refine ⟨D2, _, rfl, .inl (.inl e8), ⟨_, rfl, ite2 (fun e2 => ?_) (fun e2 => ?_)⟩⟩
                  · have hnew : news kni (.op x as) = true := by
                      unfold news
                      rw [e1]
                      rw [List.all_map] at e2
                      exact e2
                    refine ⟨.ref D, rfl, .inl ⟨rfl, _, .inl (.inl e8D)⟩, .ref a, rfl, ?_⟩
                    walk_at "nc"
                    refine rd_repr (hzi.mv m78) zo zdp ⟨D, _, _, rfl, rfl, e8D, ?_, ?_⟩
                    · rw [List.length_map]
                      exact line5lt (by omega)
                    · refine ⟨_, rfl, ?_, ?_, ?_, (m6.trans m78).wr nD⟩
                      · rw [upd_same]
                        unfold more
                        rw [if_pos hnew, List.map_append]
                        rfl
                      · rw [upd_ne hqD]
                        exact m78.same _ _ eq6
                      · exact (i6.mv m78).mv (Mv.set (S := [D]) e8D (by simp))
                  · refine ⟨_, rfl, ?_, m78.same _ _ eq6, i6.mv m78, m6.trans m78⟩
                    rcases hno with hno | hno
                    · rw [hno]
                      exact e8D
                    · unfold news at hno
                      simp only [Bool.and_eq_true] at hno
                      rw [List.all_map] at e2
                      exact absurd hno.2 e2
              · refine ⟨_, rfl, ?_, eq6, i6, m6⟩
                rcases hno with hno | hno
                · rw [hno]
                  exact e6
                · unfold news at hno
                  simp only [Bool.and_eq_true] at hno
                  exact absurd hno.1.2 e1
          · obtain ⟨y7', rfl, e6, eq6, i6, m6⟩ := h6
            have hKe := hKn ws.length
            rw [hwl, List.take_length] at e6 hKe
            have hge := fold_len (Tm.partsL ts) kn
            refine ⟨(2000 - (kn.length : Int)).toNat, by omega, (Tm.partsL ts).foldl more kn, kn.length, y6, y7', ?_, e6, eq6, i6, m6, hKe, by omega, by omega, fun z => ?_, rfl⟩
            · rw [List.length_map]
            · obtain ⟨f1, f2⟩ := fold_fix (Tm.partsL ts) kn (by omega)
              rw [f1]
              exact f2
        · have hz : bf = kn.length := by
            rw [List.length_map] at e
            simpa using e
          refine ⟨.ref D, rfl, q D kn H5 nD m5 e5 (fun t ht1 => ?_) K5.strs⟩
          have hdt := Tm.deps_le.mp hdp t ht1
          exact K5.told (hfix hz) (fun p hp => (hpok p hp).1) 4 t (by omega) (Tm.mem_partsL ts t ht1)
end
end Fm
namespace Fm
open PySem PySem.Spec PyProof.Rows L2
local macro_rules | `(tactic| walk_at "nn") => `(tactic| dsimp only [tC, tNil, tCons, tCB, tCall, gName, tSeq, tAsg, tPar, tDrop, tRet])
local macro_rules | `(tactic| walk_at "nc") => `(tactic| dsimp only [tC, tNil, tCons, tCB])
def sp_law (K : PySem.W.Frag) : Sp := fun vs H Q _ => ∃ (a : Addr) (ns : List Int), vs = [.ref a] ∧ SqL K H a (ns.map V.int) ∧ ns.length ≤ 63 ∧ ∀ H', Q (.bl true) H'
theorem cut_ints (ms : List Int) (lo hi : Option Int) : ∃ ls : List Int, cutV (ms.map V.int) lo hi = ls.map V.int ∧ ls.length ≤ ms.length ∧ ∀ k ∈ ls, k ∈ ms := by
  unfold cutV
  refine ⟨(ms.drop (HT.sIx (ms.map V.int).length 0 lo)).take (HT.sIx (ms.map V.int).length (ms.map V.int).length hi - HT.sIx (ms.map V.int).length 0 lo), by simp [List.map_take, List.map_drop], ?_, fun k hk => List.mem_of_mem_drop (List.mem_of_mem_take hk)⟩
  rw [List.length_take, List.length_drop]
  omega
theorem rg_ints (n : Nat) : rgV 0 (n : Int) = ((List.range n).map fun i : Nat => (i : Int)).map V.int := by
  unfold rgV
  rw [List.map_map, Int.sub_zero, Int.toNat_natCast]
  refine List.map_congr_left fun i _ => ?_
  show V.int (0 + (i : Int)) = V.int (i : Int)
  rw [Int.zero_add]
theorem few_ok {R : Int → Prop} {n : Nat} : ∀ (ts : List Tm), (∀ t ∈ ts, t.ok R ∧ t.dep ≤ 3) → Tm.csts ts ≤ 1300 * ts.length ∧ Tm.lvs ts ≤ 27 * ts.length
  | [], _ => by simp [Tm.csts, Tm.lvs]
  | t :: ts, h => by
    have h1 := Tm.small 3 t (h t (by simp)).1 (h t (by simp)).2
    have h2 := few_ok (n := n) ts fun u hu => h u (by simp [hu])
    have e : 3 ^ 3 = 27 := by decide
    rw [e] at h1
    simp only [Tm.csts, Tm.lvs, List.length_cons]
    omega
theorem wls_ints : ∀ o : List Int, wls (o.map PyData.int) = 43 * o.length
  | [] => by simp [wls]
  | x :: o => by
    simp only [List.map_cons, wls, wl, wls_ints o, List.length_cons]
    omega
theorem fine_ints : ∀ o : List Int, (∀ k ∈ o, k.natAbs < 10 ^ 40) → fineAll (o.map PyData.int)
  | [], _ => trivial
  | x :: o, h => ⟨h x (by simp), fine_ints o fun k hk => h k (by simp [hk])⟩
theorem depth_ints : ∀ o : List Int, PyData.depthAll (o.map PyData.int) = 0
  | [] => by simp [PyData.depthAll]
  | x :: o => by simp [PyData.depthAll, PyData.depth, depth_ints o]
/-- all that is kept -/
def keptD (us ts : List Tm) (ks : List Int) : PyData := .list [.list (Tm.ds us), .list (ks.map .int), .list (Tm.ds ts)]
theorem kept_shw {us ts : List Tm} {ks : List Int} (hu : Tm.oks in3 us) (hud : Tm.deps us ≤ 3) (ht : Tm.oks in3 ts) (htd : Tm.deps ts ≤ 3) (hul : us.length ≤ 100) (htl : ts.length ≤ 100) (hkl : ks.length ≤ 100) (hk : ∀ k ∈ ks, k.natAbs < 10 ^ 40) : Shw (keptD us ts ks) := by
  have h1 := few_ok (n := 0) us fun t h => ⟨Tm.oks_iff.mp hu t h, Tm.deps_le.mp hud t h⟩
  have h2 := few_ok (n := 0) ts fun t h => ⟨Tm.oks_iff.mp ht t h, Tm.deps_le.mp htd t h⟩
  have w1 := wl_ds us hu
  have w2 := wl_ds ts ht
  refine ⟨⟨fine_ds (fun i => in3_fit) us hu, fine_ints ks hk, fine_ds (fun i => in3_fit) ts ht, trivial⟩, ?_, ?_⟩
  · simp only [keptD, PyData.depth, PyData.depthAll, depth_ds, depth_ints]
    omega
  · simp only [keptD, wl, wls, wls_ints]
    omega
theorem shw_oD {f : Int → Tm} {ks : List Int} {t : Tm} (hk : ∀ k ∈ ks, k.natAbs < 10 ^ 40) (ho : t.ok in3) (hd : t.dep ≤ 3) : Shw (oD (bld f ks t)) := by
  cases e : bld f ks t with
  | none => exact ⟨trivial, by simp [oD, PyData.depth], by simp [oD, wl]⟩
  | some u =>
    obtain ⟨h1, _, h3⟩ := bld_ok t u ho e
    have h4 := Tm.small 3 u h1 (by omega)
    have h5 := wl_d u h1
    have e3 : 3 ^ 3 = 27 := by decide
    rw [e3] at h4
    exact ⟨fine_d (P := (· ∈ ks)) hk u h1, by simp only [oD]; rw [depth_d]; omega, by simp only [oD]; omega⟩
section
variable {P : Program} {w : World} {K : PySem.W.Frag} {mg : Str → Option Value} {base : Heap}
theorem ok_law (T : TX K mg) : FnOkG P w K mg base CX0 10 T.d_law.f T.d_law.fd P_law (sp_law K) := by
  have G__law_bag : FnOk P w K mg base CX0 1 T.d__law_bag.f T.d__law_bag.fd P__law_bag (sp_bag K) := ok__law_bag T
  have G__law_names : FnOk P w K mg base CX0 2 T.d__law_names.f T.d__law_names.fd P__law_names sp_names := ok__law_names T
  have G__law_take : FnOk P w K mg base CX0 1 T.d__law_take.f T.d__law_take.fd P__law_take sp_take := ok__law_take T
  have G__law_term : FnOk P w K mg base CX0 6 T.d__law_term.f T.d__law_term.fd P__law_term (sp_term K 4) := ok__law_term T 4
  have G__law_values : FnOk P w K mg base CX0 6 T.d__law_values.f T.d__law_values.fd P__law_values (sp_values K) := ok__law_values T
  have G__law_mixed : FnOk P w K mg base CX0 2 T.d__law_mixed.f T.d__law_mixed.fd P__law_mixed (sp_mixed K) := ok__law_mixed T
  have G__law_can : FnOkG P w K mg base CX0 6 T.d__law_can.f T.d__law_can.fd P__law_can (sp_can K) := ok__law_can T
  have G_built : FnOk P w K mg base CX0 5 T.d_built.f T.d_built.fd P_built (sp_built K 4) := ok_built T 4
  have G__law_built : FnOk P w K mg base CX0 5 T.d__law_built.f T.d__law_built.fd P__law_built (sp_built K 4) := ok__law_built T 4
  have G__law_leaves : FnOk P w K mg base CX0 5 T.d__law_leaves.f T.d__law_leaves.fd P__law_leaves (sp_leavesR K 4) := ok__law_leaves T 4
  have G__law_put : FnOk P w K mg base CX0 5 T.d__law_put.f T.d__law_put.fd P__law_put (sp_put K 4) := ok__law_put T 4
  have G__law_alike : FnOkG P w K mg base CX0 1 T.d__law_alike.f T.d__law_alike.fd P__law_alike (sp_alike K) := ok__law_alike T
  refine okG T.d_law.F sc_law (fun vs H Q E h => ?_) (fun cdv A outer s H vs Q E hgd hr h => ?_)
  · obtain ⟨_, _, rfl, _⟩ := h
    rfl
  · obtain ⟨a, sns, rfl, hS, hl63, q⟩ := h
    have hu64 := hr.units
    have hu65 := hu65_of hr
    refine ⟨_, (pss_cons (ps_set (i := 1) sc_law.nd rfl (Or.inr rfl) (pe_call G__law_bag (hr.mono (by omega)) rfl T.d__law_bag.g T.d__law_bag.F.kp T.d__law_bag.b .nil pass0 (pa_cons (pv 0) pa_nil))) (pss_cons (ps_set (i := 2) sc_law.nd rfl (Or.inr rfl) (pe_call G__law_names (hr.mono (by omega)) rfl T.d__law_names.g T.d__law_names.F.kp T.d__law_names.b .nil pass0 (pa_cons (pv 1) (pa_cons pe_int pa_nil)))) (pss_cons (ps_for PassesOwn.never rfl (pi_range1 (by rfl) T.b_range (pa_cons pe_int pa_nil)) (pg_name (i := 3) sc_law.nd rfl (Or.inl rfl)) (pss_cons (ps_setLc (i := 4) (own := [("_law_k", 14)]) (g := gName 14) (by rfl) sc_law.nd rfl rfl (sw_true rfl rfl rfl (by decide +kernel)) (pi_range1 (by rfl) T.b_range (pa_cons pe_int pa_nil)) (blkOk_by (own := [("_law_k", 14)]) (N := N_law) (sc := defScope s_law) (by decide +kernel)) (fun _ _ _ _ _ => pg_name (i := 14) sc_law.nd rfl (Or.inl rfl)) (fun _ _ _ _ _ => pts_nil) (fun _ _ _ _ _ => (pe_call G__law_term (hr.mono (by omega)) rfl T.d__law_term.g T.d__law_term.F.kp T.d__law_term.b .nil pass0 (pa_cons (pv 1) (pa_cons (pv 2) (pa_cons pe_int (pa_cons (pe_op (r := rAddG K) op_addG pe_int (pe_call G__law_take (hr.mono (by omega)) rfl T.d__law_take.g T.d__law_take.F.kp T.d__law_take.b .nil pass0 (pa_cons (pv 1) (pa_cons pe_int pa_nil)))) pa_nil))))))) (pss_cons (ps_set (i := 5) sc_law.nd rfl (Or.inl rfl) (pe_call G__law_values (hr.mono (by omega)) rfl T.d__law_values.g T.d__law_values.F.kp T.d__law_values.b .nil pass0 (pa_cons (pv 1) (pa_cons (pv 2) (pa_cons (pv 4) pa_nil))))) (pss_cons (ps_set (i := 6) sc_law.nd rfl (Or.inr rfl) (pe_callB (cr_sortedG rfl) (by rfl) T.b_sorted bt_sorted (pa_cons (pe_slice (r := rSlG K) sl_G (pe_call G__law_mixed (hr.mono (by omega)) rfl T.d__law_mixed.g T.d__law_mixed.F.kp T.d__law_mixed.b .nil pass0 (pa_cons (pv 1) (pa_cons (pe_listRg rfl rfl T.b_list (prg_1 rfl T.b_range (pe_callB (r := rLenG K) call_lenG (by rfl) T.b_len bt_len (pa_cons (pv 5) pa_nil)))) pa_nil))) po_none (po_some (pe_call G__law_take (hr.mono (by omega)) rfl T.d__law_take.g T.d__law_take.F.kp T.d__law_take.b .nil pass0 (pa_cons (pv 1) (pa_cons (pe_op (r := rAddG K) op_addG (pe_callB (r := rLenG K) call_lenG (by rfl) T.b_len bt_len (pa_cons (pv 5) pa_nil)) pe_int) pa_nil))))) pa_nil))) (pss_cons (ps_set (i := 7) sc_law.nd rfl (Or.inl rfl) (pe_callG G__law_can hgd (hr.mono (by omega)) rfl T.d__law_can.g T.d__law_can.F.kp T.d__law_can.b .nil pass0 (pa_cons (pv 4) (pa_cons (pv 5) (pa_cons (pv 6) pa_nil))))) (pss_cons (ps_par (i := 8) (j := 9) rfl sc_law.nd rfl rfl (by decide) rfl rfl (pa_cons (pe_ix (r := rIx K) ix_seq (pe_lst (pa_cons (pv 5) (pa_cons (pe_callTy (r := rTupOf K) call_tupG (by rfl) T.b_tuple bt_tuple (pa_cons (pv 5) pa_nil)) pa_nil))) (pe_call G__law_take (hr.mono (by omega)) rfl T.d__law_take.g T.d__law_take.F.kp T.d__law_take.b .nil pass0 (pa_cons (pv 1) (pa_cons pe_int pa_nil))) (fun _ _ => rfl)) (pa_cons (pe_callB (r := rReprG K) (call_reprG hgd hu64) (by rfl) T.b_repr bt_repr (pa_cons (pe_lst (pa_cons (pv 5) (pa_cons (pv 6) (pa_cons (pv 4) pa_nil)))) pa_nil)) pa_nil)) rfl) (pss_cons (ps_for PassesOwn.never rfl (pi_seq (pv 4)) (pg_name (i := 10) sc_law.nd rfl (Or.inl rfl)) (pss_cons (ps_for PassesOwn.never rfl (pi_range1 (by rfl) T.b_range (pa_cons pe_int pa_nil)) (pg_name (i := 11) sc_law.nd rfl (Or.inl rfl)) (pss_cons (ps_set (i := 12) sc_law.nd rfl (Or.inl rfl) (pe_call G_built (hr.mono (by omega)) rfl T.d_built.g T.d_built.F.kp T.d_built.b .nil pass0 (pa_cons (pv 10) (pa_cons (pv 8) (pa_cons (pv 6) pa_nil))))) (pss_one (ps_if (pt_not (pt_val (pe_callG G__law_alike hgd (hr.mono (by omega)) rfl T.d__law_alike.g T.d__law_alike.F.kp T.d__law_alike.b .nil pass0 (pa_cons (pv 12) (pa_cons (pe_call G__law_built (hr.mono (by omega)) rfl T.d__law_built.g T.d__law_built.F.kp T.d__law_built.b .nil pass0 (pa_cons (pv 10) (pa_cons (pv 5) (pa_cons (pv 6) pa_nil)))) pa_nil))))) (pss_one (ps_ret pe_bl)) pss_nil)))) (pss_cons (ps_if (pt_cmpR (r := rEqG K) (op_eqG hu64) (pe_cmpR op_isN (pv 12) pe_non (nomark _)) (pe_cmpR (r := rInG K) (op_inG hu65) (pe_callB (r := rReprG K) (call_reprG hgd hu64) (by rfl) T.b_repr bt_repr (pa_cons (pv 10) pa_nil)) (pv 7) rfl) (nomark _)) (pss_one (ps_ret pe_bl)) pss_nil) (pss_one (ps_if (pt_cmpR op_notN (pv 12) pe_non (nomark _)) (pss_cons (ps_setLc (i := 13) (own := [("_law_at", 15)]) (g := gName 15) (by rfl) sc_law.nd rfl rfl (sw_true rfl rfl rfl (by decide +kernel)) (pi_seq (pe_call G__law_leaves (hr.mono (by omega)) rfl T.d__law_leaves.g T.d__law_leaves.F.kp T.d__law_leaves.b .nil pass0 (pa_cons (pe_lst (pa_cons (pv 12) pa_nil)) pa_nil))) (blkOk_by (own := [("_law_at", 15)]) (N := N_law) (sc := defScope s_law) (by decide +kernel)) (fun _ _ _ _ _ => pg_name (i := 15) sc_law.nd rfl (Or.inl rfl)) (fun _ _ _ _ _ => (pts_one (pt_cmpR (r := rNotInG K) (op_notInG hu65) (pv 15) (pv 6) rfl))) (fun _ _ _ _ _ => (pv 15))) (pss_one (ps_if (PW.pt (pw_or (pt_cmpR (r := rNeG K) (op_neG hu64) (pv 13) (pe_lst pa_nil) (nomark _)) (pw_or1 (pt_not (pt_val (pe_callG G__law_alike hgd (hr.mono (by omega)) rfl T.d__law_alike.g T.d__law_alike.F.kp T.d__law_alike.b .nil pass0 (pa_cons (pe_call G__law_put (hr.mono (by omega)) rfl T.d__law_put.g T.d__law_put.F.kp T.d__law_put.b .nil pass0 (pa_cons (pv 12) (pa_cons (pv 5) pa_nil))) (pa_cons (pv 10) pa_nil)))))))) (pss_one (ps_ret pe_bl)) pss_nil))) pss_nil))))) (pss_one (ps_if (pt_cmpR (r := rNeG K) (op_neG hu64) (pe_callB (r := rReprG K) (call_reprG hgd hu64) (by rfl) T.b_repr bt_repr (pa_cons (pe_lst (pa_cons (pv 5) (pa_cons (pv 6) (pa_cons (pv 4) pa_nil)))) pa_nil)) (pv 9) (nomark _)) (pss_one (ps_ret pe_bl)) pss_nil))))))))) (pss_one (ps_ret pe_bl))))), ?_⟩
    refine ⟨.ref a, rfl, a, sns, rfl, hS, hl63, fun H1 b m1 nb hB1 => ?_⟩
    refine ⟨.ref b, rfl, b, 3, rfl, hB1, by decide, by decide, fun nm xs H2 hxl hxN nn en d2 => ?_⟩
    have hN2 : Nms H2 b nm xs := ⟨en, hB1.fneq nn, by rintro rfl; simp at hxl, by omega, hxN⟩
    have hB2 := d2.bag hB1
    refine ⟨6, rfl, by decide, by decide, ?_⟩
    refine for_range (lo := 0) (n := (6 : Int).toNat) (fun i σ H3 => ∃ (y3 y4 y5 y6 y7 y8 y9 y10 y11 y12 y13 : Option V), σ = [some (.ref a), some (.ref b), some (.ref nm), y3, y4, y5, y6, y7, y8, y9, y10, y11, y12, y13, none, none] ∧ Bag H3 b ∧ Nms H3 b nm xs)
      ⟨_, _, _, _, _, _, _, _, _, _, _, rfl, hB2, hN2⟩ (fun i σ H3 hi h3 => ?_) (fun σ H3 h3 => q H3)
    obtain ⟨y3, y4, y5, y6, y7, y8, y9, y10, y11, y12, y13, rfl, hB3, hN3⟩ := h3
    -- terms
    refine ⟨3, rfl, by decide, by decide, fun tl nt => ?_⟩
    have htb : tl ≠ b := hB3.fneq nt
    refine lc_range (lo := 0) (n := (3 : Int).toNat) (fun i H5 => ∃ (vs : List V) (us : List Tm), H5 tl = some (.lst vs) ∧ Ims K H5 vs (Tm.ds us) ∧ us.length = i ∧ Tm.oks in3 us ∧ Tm.deps us ≤ 3 ∧ Dr b H3 H5)
      ⟨[], [], upd_same, Ims.nil, rfl, trivial, Nat.zero_le _, Dr.new nt⟩ (fun i H5 hi h5 => ?_) (fun H5 h5 => ?_)
    · obtain ⟨vs, us, e5, i5, l5, g5, p5, d5⟩ := h5
      have hB5 := d5.bag hB3
      refine ⟨rfl, .ref b, rfl, .ref nm, rfl, .ref b, rfl, b, 3, rfl, hB5, by decide, by decide, fun j H6 hj0 hj1 d6 => Or.inl ⟨1, j, rfl, rfl, ?_⟩⟩
      have d56 := d5.trans d6
      have hN6 := hN3.dr d56
      refine ⟨b, nm, xs, 3, 1 + j, rfl, d6.bag hB5, hN6.at_, hN6.ne, hN6.some_, hN6.few, hN6.ok, by decide, by decide, by omega, fun v t H7 ho hx1 hx2 him d7 => ?_⟩
      have hx3 : t.dep ≤ 3 := by have := hx2 (by decide); omega
      have e7 := (d6.trans d7).get htb e5
      refine ⟨_, e7, ?_, vs ++ [v], us ++ [t], upd_same, ?_, by simp [l5], ?_, ?_, (d56.trans d7).wr nt⟩
      · rw [i5.length, Tm.ds_map, List.length_map, l5]
        exact small1000 (by have : (3 : Int).toNat = 3 := rfl; omega)
      · rw [Tm.ds_append]
        exact ((i5.mv (d6.trans d7).mv).append (Ims.cons him Ims.nil)).mv (Mv.set (S := [tl]) e7 (by simp))
      · rw [Tm.oks_iff] at g5 ⊢
        intro z hz
        rcases List.mem_append.mp hz with hz | hz
        · exact g5 z hz
        · rw [List.mem_singleton.mp hz]
          exact ho
      · rw [Tm.deps_le] at p5 ⊢
        intro z hz
        rcases List.mem_append.mp hz with hz | hz
        · exact p5 z hz
        · rw [List.mem_singleton.mp hz]
          exact hx3
    obtain ⟨ys, ts, e5, i5, l5, hto, htd, d5⟩ := h5
    have l3 : ts.length = 3 := l5
    have hB5 := d5.bag hB3
    have hN5 := hN3.dr d5
    -- values
    refine ⟨.ref b, rfl, .ref nm, rfl, .ref tl, rfl, b, nm, tl, xs, ys, ts, rfl, hB5, hN5, e5, htb, i5, hto, htd, by rintro rfl; simp at l3, by omega, fun vl zs us H6 nv e6 i6 huo hud hul d6 => ?_⟩
    have hB6 := d6.bag hB5
    have hvb : vl ≠ b := hB5.fneq nv
    have hzl : zs.length = us.length := by rw [i6.length, Tm.ds_map, List.length_map]
    -- keep
    refine ⟨.ref b, rfl, .ref vl, rfl, ?_⟩
    walk_at "nc"
    refine rd_len (.inl (.inl (.inl e6))) ?_
    refine ⟨_, rfl, RgOk.of_le (by decide) (by omega) (by decide) (by omega), fun rl nrl => ?_⟩
    rw [rg_ints]
    have hrb : rl ≠ b := hB6.fneq nrl
    have m7 : Mv [] H6 (upd H6 rl (.lst (((List.range zs.length).map fun i : Nat => (i : Int)).map V.int))) := .new nrl
    have e7 : upd H6 rl (.lst (((List.range zs.length).map fun i : Nat => (i : Int)).map V.int)) rl = some (.lst (((List.range zs.length).map fun i : Nat => (i : Int)).map V.int)) := upd_same
    generalize upd H6 rl (.lst (((List.range zs.length).map fun i : Nat => (i : Int)).map V.int)) = H7 at m7 e7 ⊢
    have hB7 := hB6.mv m7
    refine ⟨b, rl, _, rfl, hB7, e7, hrb, by rw [List.length_map, List.length_range]; omega, fun mp ms H8 nmp e8 hml hmm d8 => ?_⟩
    rw [List.length_map, List.length_range] at hml
    have hB8 := d8.bag hB7
    have d68 := (Dr.of (b := b) m7).trans d8
    have ev8 := d68.get hvb e6
    have hmb : mp ≠ b := hB7.fneq nmp
    refine ⟨.ref b, rfl, .ref vl, rfl, ?_⟩
    walk_at "nc"
    refine rd_len (.inl (.inl (.inl ev8))) ?_
    refine Or.inl ⟨_, 1, rfl, rfl, b, _, rfl, hB8, by omega, by omega, fun j H9 hj0 hj1 d9 => ?_⟩
    have e9 := d9.get hmb e8
    refine ⟨j, rfl, Or.inl ⟨mp, _, rfl, .inl (.inl e9), fun cp ncp => ?_⟩⟩
    obtain ⟨ls, hls, hll, hlm⟩ := cut_ints ms none (some j)
    rw [hls]
    have m10 : Mv [] H9 (upd H9 cp (.lst (ls.map V.int))) := .new ncp
    have e10 : upd H9 cp (.lst (ls.map V.int)) cp = some (.lst (ls.map V.int)) := upd_same
    generalize upd H9 cp (.lst (ls.map V.int)) = H10 at m10 e10 ⊢
    refine Or.inr ⟨cp, ls, rfl, .inl (.inl e10), by omega, fun ks kp hperm _ nkp => ?_⟩
    have m11 : Mv [] H10 (upd H10 kp (.lst (ks.map V.int))) := .new nkp
    have e11 : upd H10 kp (.lst (ks.map V.int)) kp = some (.lst (ks.map V.int)) := upd_same
    generalize upd H10 kp (.lst (ks.map V.int)) = H11 at m11 e11 ⊢
    have hkl : ks.length ≤ 6 := by
      have := hperm.length_eq
      omega
    have hkb : ∀ k ∈ ks, 0 ≤ k ∧ k.toNat < us.length := fun k hk => by
      have h1 := hmm k (hlm k (hperm.mem_iff.mp hk))
      obtain ⟨z, hz, rfl⟩ := List.mem_map.mp h1
      rw [List.mem_range] at hz
      exact ⟨Int.natCast_nonneg z, by rw [Int.toNat_natCast]; omega⟩
    have hkf : ∀ k ∈ ks, k.natAbs < 10 ^ 40 := fun k hk => by
      obtain ⟨h1, h2⟩ := hkb k hk
      have h3 : k.natAbs < 100 := by omega
      exact Nat.lt_of_lt_of_le h3 (by decide)
    have d611 := d68.trans (d9.trans (Dr.of (m10.trans m11)))
    have d511 := d6.trans d611
    have d311 := d5.trans d511
    have hB11 := d611.bag hB6
    have ev11 := d611.get hvb e6
    have iv11 := i6.mv d611.mv
    have et11 := d511.get htb e5
    have it11 := i5.mv d511.mv
    have hyl : ys.length = ts.length := by rw [i5.length, Tm.ds_map, List.length_map]
    -- known
    refine ⟨.ref tl, rfl, .ref vl, rfl, .ref kp, rfl, tl, vl, kp, ys, zs, ts, us, ks, rfl, et11, it11, hto, htd, by omega, ev11, iv11, huo, hud, e11, by omega, hkb, fun kd kn H12 nkd m12 e12 htold hstr => ?_⟩
    have ev12 := m12.same _ _ ev11
    have iv12 := iv11.mv m12
    -- handed
    refine ⟨.ref vl, rfl, .ref vl, rfl, ?_⟩
    walk_at "nc"
    refine rd_tupOf (.inl (.inl ev12)) fun tp H13 m13 e13 => ⟨(by decide : 2 ≤ sizeLine), fun lp nl => ?_⟩
    have m14 : Mv [] H13 (upd H13 lp (.lst [.ref vl, .ref tp])) := .new nl
    have e14 : upd H13 lp (.lst [.ref vl, .ref tp]) lp = some (.lst [.ref vl, .ref tp]) := upd_same
    have m1114 := m12.trans (m13.trans m14)
    have hB14 := hB11.mv m1114
    have hlb : lp ≠ b := (hB11.mv (m12.trans m13)).fneq nl
    generalize upd H13 lp (.lst [.ref vl, .ref tp]) = H14 at m14 e14 m1114 hB14 ⊢
    refine ⟨.ref b, rfl, b, 2, rfl, hB14, by decide, by decide, fun w1 H15 hw0 hw1 d15 => ?_⟩
    have e15 := d15.get hlb e14
    have d1115 := (Dr.of (b := b) m1114).trans d15
    have d315 := d311.trans d1115
    have ev15 := d1115.get hvb ev11
    have iv15 := iv11.mv d1115.mv
    have et15 := d1115.get htb et11
    have it15 := it11.mv d1115.mv
    have hkpb : kp ≠ b := ((d6.trans (d68.trans (d9.trans (Dr.of m10)))).bag hB5).fneq nkp
    have ek15 := d1115.get hkpb e11
    have hkdb : kd ≠ b := hB11.fneq nkd
    have ekd15 := ((Dr.of (b := b) (m13.trans m14)).trans d15).get hkdb e12
    have eT15 : SqT K H15 tp zs := d15.mv.sqT (m14.sqT e13)
    have hat : ∀ k ∈ ks, 0 ≤ k ∧ ∃ y, zs[k.toNat]? = some y ∧ Im K H15 y (fU us k).d ∧ (fU us k).ok in3 ∧ (fU us k).dep ≤ 50 := fun k hk => by
      obtain ⟨h0, h1⟩ := hkb k hk
      obtain ⟨hm, hu⟩ := fU_mem h1
      obtain ⟨v, hv, hi1⟩ := iv15.getD (i := k.toNat) (d := (fU us k).d) (by rw [Tm.ds_map, List.getElem?_map, hu]; rfl)
      exact ⟨h0, v, hv, hi1, Tm.oks_iff.mp huo _ hm, Nat.le_trans (Tm.deps_le.mp hud _ hm) (by decide)⟩
    have hVl : Vls K H15 (.ref vl) ks in3 (fU us) := ⟨vl, zs, rfl, .inl (.inl (.inl ev15)), hat⟩
    have hlk : Look1 K H15 (.ref vl) (· ∈ ks) (fU us) := ⟨vl, rfl, .inl ⟨zs, .inl (.inl ev15), fun k hk => by
      obtain ⟨h0, y, hy, hi1, _⟩ := hat k hk
      exact ⟨h0, y, hy, hi1⟩⟩⟩
    obtain ⟨hv, hx, hVh⟩ : ∃ hv : V, [V.ref vl, V.ref tp][w1.toNat]? = some hv ∧ Vls K H15 hv ks in3 (fU us) := by
      have hcases : w1 = 0 ∨ w1 = 1 := by omega
      rcases hcases with rfl | rfl
      · exact ⟨.ref vl, rfl, hVl⟩
      · exact ⟨.ref tp, rfl, tp, zs, rfl, .inr eT15, hat⟩
    refine rd_ixL (.inl (.inl e15)) hw0 hx ?_
    -- kept
    have hsk := kept_shw huo hud hto htd (by omega) (by omega) (by omega) hkf
    have hfk := fine_lay (keptD us ts ks) hsk.fi
    have dpk : ∀ {H' : Hp} {rp : Addr}, Mv [] H15 H' → H' rp = some (.lst [.ref vl, .ref kp, .ref tl]) → Dp K H' (.ref rp) (keptD us ts ks) := fun {H' rp} m e =>
      .lst (.inl (.inl e)) (.cons (.lst (.inl (.inl (m.same _ _ ev15))) (iv15.mv m).dp) (.cons (.lst (.inl (.inl (m.same _ _ ek15))) (dp_ints ks)) (.cons (.lst (.inl (.inl (m.same _ _ et15))) (it15.mv m).dp) .nil)))
    refine ⟨.ref vl, rfl, .ref kp, rfl, .ref tl, rfl, (by decide : 3 ≤ sizeLine), fun rp nr => ?_⟩
    have m16 : Mv [] H15 (upd H15 rp (.lst [.ref vl, .ref kp, .ref tl])) := .new nr
    have e16 : upd H15 rp (.lst [.ref vl, .ref kp, .ref tl]) rp = some (.lst [.ref vl, .ref kp, .ref tl]) := upd_same
    generalize upd H15 rp (.lst [.ref vl, .ref kp, .ref tl]) = H16 at m16 e16 ⊢
    refine ⟨.ref rp, keptD us ts ks, rfl, dpk m16 e16, hfk.2.1, hfk.2.2, hsk.dp, hsk.len, _, _, rfl, ?_⟩
    obtain ⟨kt, hkt⟩ : ∃ kt, kt = (keptD us ts ks).shown := ⟨_, rfl⟩
    rw [← hkt]
    -- each term
    refine ⟨.ref tl, rfl, tl, rfl, ?_⟩
    refine for_seq (xs := ys) (.inl (.inl (.inl (m16.same _ _ et15)))) (fun i σ H17 => ∃ (y3 y10 y11 y12 y13 : Option V), σ = [some (.ref a), some (.ref b), some (.ref nm), y3, some (.ref tl), some (.ref vl), some (.ref kp), some (.ref kd), some hv, some (.str kt), y10, y11, y12, y13, none, none] ∧ Mv [] H16 H17)
      ⟨_, _, _, _, _, rfl, .refl⟩ (fun i σ H17 h17 => ?_) (fun i x σ H17 hx17 h17 => ?_) (fun σ H17 h17 => ?_)
    · obtain ⟨_, _, _, _, _, _, m⟩ := h17
      exact m
    · obtain ⟨y3, y10, y11, y12, y13, rfl, m17⟩ := h17
      have m1517 := m16.trans m17
      obtain ⟨xd, hxd, him⟩ := it15.get hx17
      rw [Tm.ds_map, List.getElem?_map] at hxd
      obtain ⟨t, ht, rfl⟩ := Option.map_eq_some_iff.mp hxd
      have hmem := List.mem_of_getElem? ht
      have hok := Tm.oks_iff.mp hto t hmem
      have hdt := Tm.deps_le.mp htd t hmem
      have htl := htold t hmem
      refine ⟨2, rfl, by decide, by decide, ?_⟩
      refine for_range (lo := 0) (n := (2 : Int).toNat) (fun i σ H18 => ∃ (y11 y12 : Option V), σ = [some (.ref a), some (.ref b), some (.ref nm), y3, some (.ref tl), some (.ref vl), some (.ref kp), some (.ref kd), some hv, some (.str kt), some x, y11, y12, y13, none, none] ∧ Mv [] H16 H18 ∧ (0 < i → ∃ fv, y12 = some fv ∧ Im K H18 fv (oD (bld (fU us) ks t))))
        ⟨_, _, rfl, m17, fun z => absurd z (Nat.lt_irrefl 0)⟩ (fun i2 σ H18 hi2 h18 => ?_) (fun σ H18 h18 => ?_)
      · obtain ⟨y11', y12', rfl, m18', _⟩ := h18
        have m18 := m16.trans m18'
        refine ⟨x, rfl, hv, rfl, .ref kp, rfl, x, hv, kp, t, in3, fU us, ks, rfl, him.mv m18, hok, fun i => in3_fit, by omega, by decide, hVh.mv m18, .inl (.inl (m18.same _ _ ek15)), hkf, fun fv H19 m19 h19 => ?_⟩
        have m1519 := m18.trans m19
        refine ⟨fv, rfl, x, rfl, .ref vl, rfl, .ref kp, rfl, x, .ref vl, kp, t, in3, fU us, ks, rfl, him.mv m1519, hok, fun i => in3_fit, by omega, by decide, hVl.mv m1519, .inl (.inl (m1519.same _ _ ek15)), hkf, fun fv2 H20 m20 h20 => ?_⟩
        exact ⟨fv, fv2, _, rfl, (h19.mv m20).dp, h20.dp, shw_oD hkf hok hdt, true, rfl, _, _, rfl, m18'.trans (m19.trans m20), fun _ => ⟨fv, rfl, h19.mv m20⟩⟩
      · obtain ⟨y11', y12', rfl, m18', hfnd⟩ := h18
        have m18 := m16.trans m18'
        obtain ⟨fv, rfl, hfv⟩ := hfnd (by decide)
        have ekd18 := m18.same _ _ ekd15
        refine ⟨fv, rfl, rfl, x, rfl, ?_⟩
        walk_at "nc"
        refine rd_repr (him.mv m18) hok hdt ⟨.ref kd, rfl, rd_inS ekd18 hstr (text_ok hok) (Or.inl ⟨rfl, ?_⟩)⟩
        cases hb : bld (fU us) ks t with
        | none =>
          rw [hb] at htl hfv
          have e1 : fv = .non := by
            obtain ⟨h1, _⟩ := hfv
            cases h1
            rfl
          subst e1
          have e2 : decide (t.d.shown ∈ kn) = false := decide_eq_false fun z => by simpa using htl.mp z
          rw [e2]
          exact ⟨false, rfl, .non, rfl, rfl, false, rfl, _, _, _, _, _, rfl, m18'⟩
        | some u =>
          rw [hb] at htl hfv
          have e1 : decide (fv = .non) = false := decide_eq_false fun z => by
            subst z
            obtain ⟨h1, _⟩ := hfv
            cases u <;> (simp only [oD, Tm.d] at h1; cases h1)
          have e2 : decide (t.d.shown ∈ kn) = true := decide_eq_true (htl.mpr rfl)
          rw [e1, e2]
          refine ⟨false, rfl, fv, rfl, rfl, ?_⟩
          rw [e1]
          refine ⟨true, rfl, ?_⟩
          obtain ⟨huo1, hup, hudp⟩ := bld_ok t u hok hb
          have hsm := Tm.small 3 u huo1 (by omega)
          have e27 : 3 ^ 3 = 27 := by decide
          rw [e27] at hsm
          -- used
          refine ⟨fv, rfl, (by decide : 1 ≤ sizeLine), fun l1 n1 => ?_⟩
          have m19 : Mv [] H18 (upd H18 l1 (.lst [fv])) := .new n1
          have e19 : upd H18 l1 (.lst [fv]) l1 = some (.lst [fv]) := upd_same
          generalize upd H18 l1 (.lst [fv]) = H19 at m19 e19 ⊢
          refine ⟨l1, [fv], [u], rfl, .inl (.inl (.inl e19)), Ims.cons (hfv.mv m19) Ims.nil, by simp only [Tm.deps]; omega, by simp only [Tm.lvs]; omega, fun l2 H20 n2 m20 e20 => ⟨l2, rfl, ?_⟩⟩
          have m1820 := m19.trans m20
          have m1620 := m18'.trans m1820
          have m1520 := m16.trans m1620
          have hlv : ∀ k ∈ Tm.leavesL [u], k ∈ ks := fun k hk => Tm.ok_leaves u huo1 k (by simpa [Tm.leavesL] using hk)
          refine lc_seq (xs := (Tm.leavesL [u]).map V.int) (.inl (.inl (.inl e20))) (fun i D H21 => H21 D = some (.lst []) ∧ Mv [] H20 H21)
            (fun D nD => ⟨upd_same, .new nD⟩) (fun i D H21 nD h21 => h21.2) (fun D nD i z H21 hz h21 => ?_) (fun D H21 nD h21 => ?_)
          · obtain ⟨e21, m21⟩ := h21
            rw [List.getElem?_map] at hz
            obtain ⟨k, hk, rfl⟩ := Option.map_eq_some_iff.mp hz
            have hkm := hlv k (List.mem_of_getElem? hk)
            refine ⟨rfl, .int k, rfl, .ref kp, rfl, Or.inl ⟨.int k, ks.map PyData.int, .int k, .lst (.inl (.inl ((m1520.trans m21).same _ _ ek15))) (dp_ints ks), rfl, ints_shaped ks, ?_⟩⟩
            rw [ints_any, decide_eq_true hkm]
            exact ⟨false, rfl, e21, m21⟩
          · obtain ⟨e21, m21⟩ := h21
            refine ⟨.ref D, rfl, Nat.zero_le _, fun l3 n3 => Or.inr ⟨.list [], .list [], .lst (.inl (.inl (same_new n3 _ _ e21))) .nil, .lst (.inl (.inl upd_same)) .nil, by decide, by decide, ?_⟩⟩
            rw [eqv_nil]
            have m22 : Mv [] H20 (upd H21 l3 (.lst [])) := m21.trans (.new n3)
            generalize upd H21 l3 (.lst []) = H22 at m22 ⊢
            have m1622 := m1620.trans m22
            have m1522 := m16.trans m1622
            refine ⟨false, rfl, fv, rfl, .ref vl, rfl, fv, .ref vl, u, (· ∈ ks), fU us, rfl, hfv.mv (m1820.trans m22), huo1, by omega, hlk.mv m1522, fun v2 H23 m23 h23 => ⟨x, rfl, ?_⟩⟩
            rw [hup] at h23
            exact ⟨v2, x, t.d, rfl, h23.dp, (him.mv (m1522.trans m23)).dp, shw3 hok hdt, true, rfl, _, _, _, _, _, rfl, m1622.trans m23⟩
    · obtain ⟨y3, y10, y11, y12, y13, rfl, m17⟩ := h17
      refine ⟨.ref vl, rfl, .ref kp, rfl, .ref tl, rfl, (by decide : 3 ≤ sizeLine), fun rp2 nr2 => ?_⟩
      have m18 : Mv [] H17 (upd H17 rp2 (.lst [.ref vl, .ref kp, .ref tl])) := .new nr2
      have e18 : upd H17 rp2 (.lst [.ref vl, .ref kp, .ref tl]) rp2 = some (.lst [.ref vl, .ref kp, .ref tl]) := upd_same
      generalize upd H17 rp2 (.lst [.ref vl, .ref kp, .ref tl]) = H18 at m18 e18 ⊢
      have m1518 := m16.trans (m17.trans m18)
      refine ⟨.ref rp2, keptD us ts ks, rfl, dpk m1518 e18, hfk.2.1, hfk.2.2, hsk.dp, hsk.len, .str kt, rfl, Or.inl ⟨rfl, ?_⟩⟩
      rw [← hkt, decide_eq_true rfl]
      have d318 := d315.trans (Dr.of m1518)
      exact ⟨false, rfl, _, _, _, _, _, _, _, _, _, _, _, rfl, d318.bag hB3, hN3.dr d318⟩
end
end Fm
namespace Fm
open PySem PySem.Spec PyProof.Rows L2
section
variable {l : PySem.W.OpenLaw} {w : World} {K : PySem.W.Frag} {mg : Str → Option Value} {fa : Addr}
theorem all_mk {h : Heap} (X : K.In h) (G : h.Ns mainGlobals mg) (hfa : mg "law" = some (.ref fa))
    {f0 : Addr} {od0 an0 : Option Addr} {sl0 : Array (Option Value)} {oc0 kV0 dc0 pm0 cd0 ct0 : Value}
    (a0 : PySem.W.nsIn K mainGlobals "built" = some (some (.ref f0))) (l0 : K.lookup f0 = some ⟨oc0, od0, .func (PySem.W.fnOf "built" "built" (defArgs s_built) (defBody s_built) (defScope s_built) .none kV0 dc0 pm0 an0 cd0 ct0), sl0⟩) (c0 : PySem.W.codeIn K cd0 "built" = true) (k0 : PySem.W.keepIn K (.ref f0) = true)
    {f1 : Addr} {od1 an1 : Option Addr} {sl1 : Array (Option Value)} {oc1 kV1 dc1 pm1 cd1 ct1 : Value}
    (a1 : PySem.W.nsIn K mainGlobals "_law_bag" = some (some (.ref f1))) (l1 : K.lookup f1 = some ⟨oc1, od1, .func (PySem.W.fnOf "_law_bag" "_law_bag" (defArgs s__law_bag) (defBody s__law_bag) (defScope s__law_bag) .none kV1 dc1 pm1 an1 cd1 ct1), sl1⟩) (c1 : PySem.W.codeIn K cd1 "_law_bag" = true) (k1 : PySem.W.keepIn K (.ref f1) = true)
    {f2 : Addr} {od2 an2 : Option Addr} {sl2 : Array (Option Value)} {oc2 kV2 dc2 pm2 cd2 ct2 : Value}
    (a2 : PySem.W.nsIn K mainGlobals "_law_take" = some (some (.ref f2))) (l2 : K.lookup f2 = some ⟨oc2, od2, .func (PySem.W.fnOf "_law_take" "_law_take" (defArgs s__law_take) (defBody s__law_take) (defScope s__law_take) .none kV2 dc2 pm2 an2 cd2 ct2), sl2⟩) (c2 : PySem.W.codeIn K cd2 "_law_take" = true) (k2 : PySem.W.keepIn K (.ref f2) = true)
    {f3 : Addr} {od3 an3 : Option Addr} {sl3 : Array (Option Value)} {oc3 kV3 dc3 pm3 cd3 ct3 : Value}
    (a3 : PySem.W.nsIn K mainGlobals "_law_alike" = some (some (.ref f3))) (l3 : K.lookup f3 = some ⟨oc3, od3, .func (PySem.W.fnOf "_law_alike" "_law_alike" (defArgs s__law_alike) (defBody s__law_alike) (defScope s__law_alike) .none kV3 dc3 pm3 an3 cd3 ct3), sl3⟩) (c3 : PySem.W.codeIn K cd3 "_law_alike" = true) (k3 : PySem.W.keepIn K (.ref f3) = true)
    {f4 : Addr} {od4 an4 : Option Addr} {sl4 : Array (Option Value)} {oc4 kV4 dc4 pm4 cd4 ct4 : Value}
    (a4 : PySem.W.nsIn K mainGlobals "_law_mixed" = some (some (.ref f4))) (l4 : K.lookup f4 = some ⟨oc4, od4, .func (PySem.W.fnOf "_law_mixed" "_law_mixed" (defArgs s__law_mixed) (defBody s__law_mixed) (defScope s__law_mixed) .none kV4 dc4 pm4 an4 cd4 ct4), sl4⟩) (c4 : PySem.W.codeIn K cd4 "_law_mixed" = true) (k4 : PySem.W.keepIn K (.ref f4) = true)
    {f5 : Addr} {od5 an5 : Option Addr} {sl5 : Array (Option Value)} {oc5 kV5 dc5 pm5 cd5 ct5 : Value}
    (a5 : PySem.W.nsIn K mainGlobals "_law_names" = some (some (.ref f5))) (l5 : K.lookup f5 = some ⟨oc5, od5, .func (PySem.W.fnOf "_law_names" "_law_names" (defArgs s__law_names) (defBody s__law_names) (defScope s__law_names) .none kV5 dc5 pm5 an5 cd5 ct5), sl5⟩) (c5 : PySem.W.codeIn K cd5 "_law_names" = true) (k5 : PySem.W.keepIn K (.ref f5) = true)
    {f6 : Addr} {od6 an6 : Option Addr} {sl6 : Array (Option Value)} {oc6 kV6 dc6 pm6 cd6 ct6 : Value}
    (a6 : PySem.W.nsIn K mainGlobals "_law_term" = some (some (.ref f6))) (l6 : K.lookup f6 = some ⟨oc6, od6, .func (PySem.W.fnOf "_law_term" "_law_term" (defArgs s__law_term) (defBody s__law_term) (defScope s__law_term) .none kV6 dc6 pm6 an6 cd6 ct6), sl6⟩) (c6 : PySem.W.codeIn K cd6 "_law_term" = true) (k6 : PySem.W.keepIn K (.ref f6) = true)
    {f7 : Addr} {od7 an7 : Option Addr} {sl7 : Array (Option Value)} {oc7 kV7 dc7 pm7 cd7 ct7 : Value}
    (a7 : PySem.W.nsIn K mainGlobals "_law_put" = some (some (.ref f7))) (l7 : K.lookup f7 = some ⟨oc7, od7, .func (PySem.W.fnOf "_law_put" "_law_put" (defArgs s__law_put) (defBody s__law_put) (defScope s__law_put) .none kV7 dc7 pm7 an7 cd7 ct7), sl7⟩) (c7 : PySem.W.codeIn K cd7 "_law_put" = true) (k7 : PySem.W.keepIn K (.ref f7) = true)
    {f8 : Addr} {od8 an8 : Option Addr} {sl8 : Array (Option Value)} {oc8 kV8 dc8 pm8 cd8 ct8 : Value}
    (a8 : PySem.W.nsIn K mainGlobals "_law_leaves" = some (some (.ref f8))) (l8 : K.lookup f8 = some ⟨oc8, od8, .func (PySem.W.fnOf "_law_leaves" "_law_leaves" (defArgs s__law_leaves) (defBody s__law_leaves) (defScope s__law_leaves) .none kV8 dc8 pm8 an8 cd8 ct8), sl8⟩) (c8 : PySem.W.codeIn K cd8 "_law_leaves" = true) (k8 : PySem.W.keepIn K (.ref f8) = true)
    {f9 : Addr} {od9 an9 : Option Addr} {sl9 : Array (Option Value)} {oc9 kV9 dc9 pm9 cd9 ct9 : Value}
    (a9 : PySem.W.nsIn K mainGlobals "_law_built" = some (some (.ref f9))) (l9 : K.lookup f9 = some ⟨oc9, od9, .func (PySem.W.fnOf "_law_built" "_law_built" (defArgs s__law_built) (defBody s__law_built) (defScope s__law_built) .none kV9 dc9 pm9 an9 cd9 ct9), sl9⟩) (c9 : PySem.W.codeIn K cd9 "_law_built" = true) (k9 : PySem.W.keepIn K (.ref f9) = true)
    {f10 : Addr} {od10 an10 : Option Addr} {sl10 : Array (Option Value)} {oc10 kV10 dc10 pm10 cd10 ct10 : Value}
    (a10 : PySem.W.nsIn K mainGlobals "_law_parts" = some (some (.ref f10))) (l10 : K.lookup f10 = some ⟨oc10, od10, .func (PySem.W.fnOf "_law_parts" "_law_parts" (defArgs s__law_parts) (defBody s__law_parts) (defScope s__law_parts) .none kV10 dc10 pm10 an10 cd10 ct10), sl10⟩) (c10 : PySem.W.codeIn K cd10 "_law_parts" = true) (k10 : PySem.W.keepIn K (.ref f10) = true)
    {f11 : Addr} {od11 an11 : Option Addr} {sl11 : Array (Option Value)} {oc11 kV11 dc11 pm11 cd11 ct11 : Value}
    (a11 : PySem.W.nsIn K mainGlobals "_law_can" = some (some (.ref f11))) (l11 : K.lookup f11 = some ⟨oc11, od11, .func (PySem.W.fnOf "_law_can" "_law_can" (defArgs s__law_can) (defBody s__law_can) (defScope s__law_can) .none kV11 dc11 pm11 an11 cd11 ct11), sl11⟩) (c11 : PySem.W.codeIn K cd11 "_law_can" = true) (k11 : PySem.W.keepIn K (.ref f11) = true)
    {f12 : Addr} {od12 an12 : Option Addr} {sl12 : Array (Option Value)} {oc12 kV12 dc12 pm12 cd12 ct12 : Value}
    (a12 : PySem.W.nsIn K mainGlobals "_law_values" = some (some (.ref f12))) (l12 : K.lookup f12 = some ⟨oc12, od12, .func (PySem.W.fnOf "_law_values" "_law_values" (defArgs s__law_values) (defBody s__law_values) (defScope s__law_values) .none kV12 dc12 pm12 an12 cd12 ct12), sl12⟩) (c12 : PySem.W.codeIn K cd12 "_law_values" = true) (k12 : PySem.W.keepIn K (.ref f12) = true)
    {f13 : Addr} {od13 an13 : Option Addr} {sl13 : Array (Option Value)} {oc13 kV13 dc13 pm13 cd13 ct13 : Value}
    (a13 : PySem.W.nsIn K mainGlobals "law" = some (some (.ref f13))) (l13 : K.lookup f13 = some ⟨oc13, od13, .func (PySem.W.fnOf "law" "law" (defArgs s_law) (defBody s_law) (defScope s_law) .none kV13 dc13 pm13 an13 cd13 ct13), sl13⟩) (c13 : PySem.W.codeIn K cd13 "law" = true) (k13 : PySem.W.keepIn K (.ref f13) = true)
    (z0 : PySem.W.nsIn K mainGlobals "abs" = some none)
    (z1 : PySem.W.nsIn K mainGlobals "all" = some none)
    (z2 : PySem.W.nsIn K mainGlobals "int" = some none)
    (z3 : PySem.W.nsIn K mainGlobals "isinstance" = some none)
    (z4 : PySem.W.nsIn K mainGlobals "len" = some none)
    (z5 : PySem.W.nsIn K mainGlobals "list" = some none)
    (z6 : PySem.W.nsIn K mainGlobals "range" = some none)
    (z7 : PySem.W.nsIn K mainGlobals "repr" = some none)
    (z8 : PySem.W.nsIn K mainGlobals "sorted" = some none)
    (z9 : PySem.W.nsIn K mainGlobals "tuple" = some none)
    : ∃ fd : FuncData, (∀ (t : Shared) (u : Value), BindsTo t fd ⟨[u], []⟩ [("_law_script", u)]) ∧ ∀ base : Heap, K.In base → base.Ns mainGlobals mg → FnOkG l.prog w K mg base CX0 10 fa fd P_law (sp_law K) := by
  have e := hfa.symm.trans (PySem.W.mg_of X G a13)
  cases e
  exact ⟨_, fun s v => .of_eq rfl, fun base _ _ => ok_law (T := {
    d_built := ⟨_, _, fun_mk l0 c0 k0, PySem.W.mg_of X G a0, (fun_mk l0 c0 k0).binds fun _ _ _ _ _ _ us hl => match us, hl with | [_, _, _], _ => rfl⟩
    d__law_bag := ⟨_, _, fun_mk l1 c1 k1, PySem.W.mg_of X G a1, (fun_mk l1 c1 k1).binds fun _ _ _ _ _ _ us hl => match us, hl with | [_], _ => rfl⟩
    d__law_take := ⟨_, _, fun_mk l2 c2 k2, PySem.W.mg_of X G a2, (fun_mk l2 c2 k2).binds fun _ _ _ _ _ _ us hl => match us, hl with | [_, _], _ => rfl⟩
    d__law_alike := ⟨_, _, fun_mk l3 c3 k3, PySem.W.mg_of X G a3, (fun_mk l3 c3 k3).binds fun _ _ _ _ _ _ us hl => match us, hl with | [_, _], _ => rfl⟩
    d__law_mixed := ⟨_, _, fun_mk l4 c4 k4, PySem.W.mg_of X G a4, (fun_mk l4 c4 k4).binds fun _ _ _ _ _ _ us hl => match us, hl with | [_, _], _ => rfl⟩
    d__law_names := ⟨_, _, fun_mk l5 c5 k5, PySem.W.mg_of X G a5, (fun_mk l5 c5 k5).binds fun _ _ _ _ _ _ us hl => match us, hl with | [_, _], _ => rfl⟩
    d__law_term := ⟨_, _, fun_mk l6 c6 k6, PySem.W.mg_of X G a6, (fun_mk l6 c6 k6).binds fun _ _ _ _ _ _ us hl => match us, hl with | [_, _, _, _], _ => rfl⟩
    d__law_put := ⟨_, _, fun_mk l7 c7 k7, PySem.W.mg_of X G a7, (fun_mk l7 c7 k7).binds fun _ _ _ _ _ _ us hl => match us, hl with | [_, _], _ => rfl⟩
    d__law_leaves := ⟨_, _, fun_mk l8 c8 k8, PySem.W.mg_of X G a8, (fun_mk l8 c8 k8).binds fun _ _ _ _ _ _ us hl => match us, hl with | [_], _ => rfl⟩
    d__law_built := ⟨_, _, fun_mk l9 c9 k9, PySem.W.mg_of X G a9, (fun_mk l9 c9 k9).binds fun _ _ _ _ _ _ us hl => match us, hl with | [_, _, _], _ => rfl⟩
    d__law_parts := ⟨_, _, fun_mk l10 c10 k10, PySem.W.mg_of X G a10, (fun_mk l10 c10 k10).binds fun _ _ _ _ _ _ us hl => match us, hl with | [_], _ => rfl⟩
    d__law_can := ⟨_, _, fun_mk l11 c11 k11, PySem.W.mg_of X G a11, (fun_mk l11 c11 k11).binds fun _ _ _ _ _ _ us hl => match us, hl with | [_, _, _], _ => rfl⟩
    d__law_values := ⟨_, _, fun_mk l12 c12 k12, PySem.W.mg_of X G a12, (fun_mk l12 c12 k12).binds fun _ _ _ _ _ _ us hl => match us, hl with | [_, _, _], _ => rfl⟩
    d_law := ⟨_, _, fun_mk l13 c13 k13, PySem.W.mg_of X G a13, (fun_mk l13 c13 k13).binds fun _ _ _ _ _ _ us hl => match us, hl with | [_], _ => rfl⟩
    b_abs := PySem.W.mg_none_of X G z0
    b_all := PySem.W.mg_none_of X G z1
    b_int := PySem.W.mg_none_of X G z2
    b_isinstance := PySem.W.mg_none_of X G z3
    b_len := PySem.W.mg_none_of X G z4
    b_list := PySem.W.mg_none_of X G z5
    b_range := PySem.W.mg_none_of X G z6
    b_repr := PySem.W.mg_none_of X G z7
    b_sorted := PySem.W.mg_none_of X G z8
    b_tuple := PySem.W.mg_none_of X G z9
  })⟩
end
end Fm
open PySem PySem.W PyProof.Rows
set_option maxHeartbeats 0 in
theorem PySem.Challenge.cw_framemoves_k13_whole_terms_built_holds : PySem.Challenge.rw_framemoves_k13_whole_terms_built.Holds := by
  w_on; o_law; k_head; (case hw => w_witness2)
  k_fill
  refine Fm.walk_G (l := PySem.Challenge.rw_framemoves_k13_whole_terms_built) (n := 63) (k := 10) (x := "_law_script") (sp := Fm.sp_law) rfl (by decide) rfl ⟨rfl, by decide, by decide⟩ (fun w h Y => PySem.W.kIn_of Y) ?F (fun K H a ns hl hS => ⟨a, ns, rfl, hS, hl, fun _ => rfl⟩)
  case F =>
    intro w mg fa h KX G hmg
    refine' Fm.all_mk KX G hmg ?a0 ?l0 ?c0 ?k0 ?a1 ?l1 ?c1 ?k1 ?a2 ?l2 ?c2 ?k2 ?a3 ?l3 ?c3 ?k3 ?a4 ?l4 ?c4 ?k4 ?a5 ?l5 ?c5 ?k5 ?a6 ?l6 ?c6 ?k6 ?a7 ?l7 ?c7 ?k7 ?a8 ?l8 ?c8 ?k8 ?a9 ?l9 ?c9 ?k9 ?a10 ?l10 ?c10 ?k10 ?a11 ?l11 ?c11 ?k11 ?a12 ?l12 ?c12 ?k12 ?a13 ?l13 ?c13 ?k13 ?z0 ?z1 ?z2 ?z3 ?z4 ?z5 ?z6 ?z7 ?z8 ?z9
    (case a0 => k_is); (case l0 => k_is); (case c0 => k_is); (case k0 => k_is); (case a1 => k_is); (case l1 => k_is); (case c1 => k_is); (case k1 => k_is); (case a2 => k_is); (case l2 => k_is); (case c2 => k_is); (case k2 => k_is); (case a3 => k_is); (case l3 => k_is); (case c3 => k_is); (case k3 => k_is); (case a4 => k_is); (case l4 => k_is); (case c4 => k_is); (case k4 => k_is); (case a5 => k_is); (case l5 => k_is); (case c5 => k_is); (case k5 => k_is); (case a6 => k_is); (case l6 => k_is); (case c6 => k_is); (case k6 => k_is); (case a7 => k_is); (case l7 => k_is); (case c7 => k_is); (case k7 => k_is); (case a8 => k_is); (case l8 => k_is); (case c8 => k_is); (case k8 => k_is); (case a9 => k_is); (case l9 => k_is); (case c9 => k_is); (case k9 => k_is); (case a10 => k_is); (case l10 => k_is); (case c10 => k_is); (case k10 => k_is); (case a11 => k_is); (case l11 => k_is); (case c11 => k_is); (case k11 => k_is); (case a12 => k_is); (case l12 => k_is); (case c12 => k_is); (case k12 => k_is); (case a13 => k_is); (case l13 => k_is); (case c13 => k_is); (case k13 => k_is); (case z0 => k_is); (case z1 => k_is); (case z2 => k_is); (case z3 => k_is); (case z4 => k_is); (case z5 => k_is); (case z6 => k_is); (case z7 => k_is); (case z8 => k_is); (case z9 => k_is)
