import PyProof.Rows.All
import Wide.All
import OpenK.AllK
import Wide.FinOn
import HandS.ForMost
import HandS.IsInst
import HandS.TupAny
import HandS.Wide
import HandS.Deep
import HandS.SetKeys
import HandS.Style
import HandS.Conv
import PyProof.ReprRoads
import HandS.SetFor
import HandS.Strs
import HandS.Evl
import PySem.Challenge.RW_framemoves_k12_terms_put_in
set_option Elab.async false
set_option linter.all false
set_option maxRecDepth 100000
set_option maxHeartbeats 8000000
namespace Fm
open PySem PySem.Spec PyProof.Rows L2

/-! built-in names -/
theorem bt_len : bootBuiltins "len" = some (.builtin "len") := by decide +kernel
theorem bt_abs : bootBuiltins "abs" = some (.builtin "abs") := by decide +kernel
theorem bt_isinstance : bootBuiltins "isinstance" = some (.builtin "isinstance") := by decide +kernel
theorem bt_repr : bootBuiltins "repr" = some (.builtin "repr") := by decide +kernel
theorem bt_sum : bootBuiltins "sum" = some (.builtin "sum") := by decide +kernel
theorem bt_sorted : bootBuiltins "sorted" = some (.builtin "sorted") := by decide +kernel
theorem bt_all : bootBuiltins "all" = some (.builtin "all") := by decide +kernel
theorem bt_int : bootBuiltins "int" = some (.type "int") := by decide +kernel
theorem bt_tuple : bootBuiltins "tuple" = some (.type "tuple") := by decide +kernel
theorem bt_list : bootBuiltins "list" = some (.type "list") := by decide +kernel
theorem bt_dict : bootBuiltins "dict" = some (.type "dict") := by decide +kernel
theorem bt_set : bootBuiltins "set" = some (.type "set") := by decide +kernel
theorem bt_str : bootBuiltins "str" = some (.type "str") := by decide +kernel
theorem bt_bool : bootBuiltins "bool" = some (.type "bool") := by decide +kernel

section
variable {X : Cx} {e l : Expr} {pos : Pos}
theorem pe_ty {x : Str} {n : String} (hm : X.mg x = none) (hv : bootBuiltins x = some (.type n)) (hg : Gl X x := by rfl)
    (h1 : x ≠ "__name__" := by decide) (h2 : (x == ("__debug__" : Str)) = false := by decide) : PE X (.Name x pos) (tC (.ty n)) :=
  pe_bltn hg hm hv rfl h1 h2
/-- one of two readings, chosen ahead -/
theorem pe_or2 {t u : TE} (h : PE X e t) (k : PE X e u) : PE X e (fun σ H Q => t σ H Q ∨ u σ H Q) :=
  ⟨fun pins s σ H Q I q => q.elim (h.run pins s σ H Q I) (k.run pins s σ H Q I)⟩
theorem pi_or2 {tg : Expr} {t u : TI} (h : PI X tg e t) (k : PI X tg e u) : PI X tg e (fun σ H R => t σ H R ∨ u σ H R) :=
  ⟨fun pins s σ H R I q => q.elim (h.run pins s σ H R I) (k.run pins s σ H R I)⟩

def iSeq (K : PySem.W.Frag) (tl : TE) : TI := fun σ H R => tl σ H fun x H1 => ∃ a, x = .ref a ∧
  (((∃ xs, SqL K H1 a xs) ∧ R (Itl K a) H1) ∨ ((∃ xs, SqT K H1 a xs) ∧ R (Itt K a) H1))
theorem pi_seq {tg : Expr} {tl : TE} (hl : PE X l tl) : PI X tg l (iSeq X.K tl) := by
  refine ⟨fun pins s σ H R I h => thn (hl.run pins s σ H _ I h) ?_⟩
  rintro v s1 ⟨x, H1, I1, r1, a, rfl, q⟩
  cases r1
  have fp : ∀ b ∈ [s1.heap.objs.size], FpOk X pins H1 b := fun b hb => by
    rw [List.mem_singleton.mp hb]
    exact I1.fpOk (Nat.le_refl _) (I1.hok.fresh (Nat.le_refl _))
  rcases q with ⟨⟨xs, hq⟩, q⟩ | ⟨⟨xs, hq⟩, q⟩
  · obtain ⟨its, rv, p, hz⟩ := I1.list hq
    exact wpAny_pyIter_list p.isList ⟨_, _, _, _, H1, rfl, I1.kept (t' := s1.toks) fun b o e => Heap.get?_push_of_some _ e, turn_list a _,
      ⟨_, Heap.get?_push_size _ rfl, rfl, rfl⟩, fp, q⟩
  · obtain ⟨its, rv, p, hz⟩ := I1.tuple hq
    exact wpAny_pyIter_tuple (show s1.heap.IsTuple a its.toArray from p) ⟨_, _, _, _, H1, rfl, I1.kept (t' := s1.toks) fun b o e => Heap.get?_push_of_some _ e, turn_tuple a _,
      ⟨_, Heap.get?_push_size _ rfl, rfl, rfl⟩, fp, q⟩

/-! operators by what stands there -/
def rAddS : R2 := fun x y H Q => ∃ i j, x = .str i ∧ y = .str j ∧ i.length + j.length ≤ sizeLine ∧ Q (.str (i ++ j)) H
def rAddG (K : PySem.W.Frag) : R2 := fun x y H Q => rI0 (fun i j => .int (i + j)) x y H Q ∨ (rAddS x y H Q ∨ (rCatA K x y H Q ∨ rCat x y H Q))
theorem op_addG : OpR X (binaryOp .Add) (rAddG X.K) := OpR.or op_add (OpR.or op_add_str (OpR.or op_catA op_cat))
def rMulG : R2 := fun x y H Q => rI CMul (fun i j => .int (i * j)) x y H Q ∨ rRep x y H Q
theorem op_mulG : OpR X (binaryOp .Mult) rMulG := OpR.or op_mul op_rep
def rEqG (K : PySem.W.Frag) : R2 := fun x y H Q => rEq x y H Q ∨ rEqD K x y H Q
theorem op_eqG (hu : X.A.units + 64 < cLine) : OpR X (compareOp .Eq) (rEqG X.K) := OpR.or op_eq (op_eqD hu)
def rNeG (K : PySem.W.Frag) : R2 := fun x y H Q => rNe x y H Q ∨ rNeD K x y H Q
theorem op_neG (hu : X.A.units + 64 < cLine) : OpR X (compareOp .NotEq) (rNeG X.K) := OpR.or op_ne (op_neD hu)
def rInSig : R2 := fun x y H Q => ∃ (c : Nat) (z : Str), x = .str ⟨#[c]⟩ ∧ y = .str z ∧ Q (.bl (decide (c ∈ z.cps.toList))) H
def rInG (K : PySem.W.Frag) : R2 := fun x y H Q => rInD K x y H Q ∨ rInSig x y H Q
theorem op_inG (hu : X.A.units + 65 < cLine) : OpR X (compareOp .In) (rInG X.K) := OpR.or (op_inD hu) op_in_sign
def rNotInSig : R2 := fun x y H Q => ∃ (c : Nat) (z : Str), x = .str ⟨#[c]⟩ ∧ y = .str z ∧ Q (.bl (!decide (c ∈ z.cps.toList))) H
def rNotInG (K : PySem.W.Frag) : R2 := fun x y H Q => rNotInD K x y H Q ∨ rNotInSig x y H Q
theorem op_notInG (hu : X.A.units + 65 < cLine) : OpR X (compareOp .NotIn) (rNotInG X.K) := OpR.or (op_notInD hu) op_notIn_sign
/-- len -/
def rLenG (K : PySem.W.Frag) : List V → Hp → VK → Prop := fun xs H Q =>
  (∃ p ys, xs = [.ref p] ∧ (SqL K H p ys ∨ SqT K H p ys) ∧ Q (.int ys.length) H) ∨ ((∃ z : Str, xs = [.str z] ∧ z.length ≤ sizeLine ∧ Q (.int z.length) H) ∨
    (∃ a kvs, xs = [V.ref a] ∧ H a = some (.dK kvs) ∧ Q (.int kvs.length) H))
theorem call_lenG : CallR X (.builtin "len") (rLenG X.K) := CallR.or call_len_seq (CallR.or call_len_str call_lenD)
/-- tuple(x), list(x) -/
def rTupOf (K : PySem.W.Frag) : List V → Hp → VK → Prop := fun xs H Q => ∃ p ys, xs = [.ref p] ∧ ((SqL K H p ys ∧ ∀ l, H l = none → Q (.ref l) (upd H l (.tup ys))) ∨ (SqT K H p ys ∧ Q (.ref p) H))
theorem call_tupG : CallR X (.type "tuple") (rTupOf X.K) := call_tuple_of
def rListOf (K : PySem.W.Frag) : List V → Hp → VK → Prop := fun xs H Q => ∃ p ys, xs = [.ref p] ∧ (SqL K H p ys ∨ SqT K H p ys) ∧ ∀ l, H l = none → Q (.ref l) (upd H l (.lst ys))
theorem call_listG : CallR X (.type "list") (rListOf X.K) := call_list_of
/-- slices -/
def rSlG (K : PySem.W.Frag) : V → Option Int → Option Int → Hp → VK → Prop := fun x lo hi H Q => rSlL K x lo hi H Q ∨ (rSlA K x lo hi H Q ∨ rSlS x lo hi H Q)
theorem sl_G : SlR X (rSlG X.K) := SlR.or sl_list (SlR.or sl_tupA sl_str)
end
end Fm
namespace Fm
open PySem PySem.Spec PyProof.Rows L2
/-! list.extend by a tuple, whatever its own dict and slots -/
theorem ext_tup (l b : Addr) (as bs : Array Value) (n m : Nat) (dd : Option Addr) (sl : Array (Option Value))
    (h0 : ¬(!as.isEmpty && Builtin.List.listTooLong (as.size + bs.size)) = true) (h1 : as.size ≤ sizeLine) (h2 : as.size + bs.size ≤ sizeLine + 1) :
    Meets (Builtin.«list.extend» ⟨[.ref l, .ref b], []⟩) (fun _ R s =>
      s.heap.get? l = some { cls := .type "list", dict := none, data := .seq as n, slots := #[] } ∧
      s.heap.get? b = some { cls := .type "tuple", dict := dd, data := .seq bs m, slots := sl } ∧
      R (.ok (.ret Value.none)) { s with heap := s.heap.update l (Obj.mapSeq fun x => x ++ bs), toks := s.toks }) := by
  refine .of_wp fun prog w A R s h => ?_
  obtain ⟨hp, g, d, tk, os⟩ := s
  obtain ⟨ha, hb, hr⟩ := h
  have q1 := AutoSeq1.idx_int
  have q2 := AutoSeq1.sub_tuple_tuple
  have q3 := AutoSeq1.sub_list_list
  have q4 := AutoSeq1.sub_tuple_list
  have q5 := AutoSeq1.sub_list_tuple
  have hz : (as ++ bs).size ≤ sizeLine + 1 := by
    rw [Array.size_append]
    exact h2
  wp_walk using (wpAny_updateSeq ha rfl (hz := h1) (_hz' := hz)), AutoSeq1.wpAny_loadPart' ha, AutoSeq1.wpAny_loadPart' hb
  exact ⟨_, rfl, hr⟩
section
variable {X : Cx}
def rExtT (K : PySem.W.Frag) : V → List V → Hp → VK → Prop := fun x vs H Q => ∃ l b xs zs, x = .ref l ∧ vs = [.ref b] ∧ H l = some (.lst xs) ∧ SqT K H b zs ∧
  xs.length + zs.length ≤ sizeLine ∧ Q .non (upd H l (.lst (xs ++ zs)))
theorem mt_extT : MtR X "list.extend" (rExtT X.K) := by
  intro pins s σ H x vs v us Q I rx rv h
  obtain ⟨l, b, xs, zs, rfl, rfl, hH, hB, hz, q⟩ := h
  cases rx
  obtain ⟨u, rfl, ru⟩ := rv.one
  cases ru
  obtain ⟨z, its, n, r, hl, e⟩ := I.lstM hH
  obtain ⟨its2, r2, ⟨⟨cls, dd, data, sl⟩, ho, hc, m, hd⟩, hz2⟩ := I.tuple hB
  simp only at hc hd
  subst hc hd
  have e1 := r.length
  have e2 := r2.length
  have hs : its.toArray.size + its2.toArray.size ≤ sizeLine := by
    rw [List.size_toArray, List.size_toArray]
    omega
  have hlong : ¬ (!its.toArray.isEmpty && Builtin.List.listTooLong (its.toArray.size + its2.toArray.size)) = true := by
    rw [notLongL hs, Bool.and_false]
    exact Bool.false_ne_true
  refine call_meets PySem.F.slot_list_extend ⟨_, e, rfl⟩ PySem.F.entry_list_extend (PySem.F.args_list_extend_2 _ _)
    (ext_tup l b its.toArray its2.toArray n m dd sl hlong (by rw [List.size_toArray]; omega) (by omega)) ⟨e, ho, ?_⟩
  refine ⟨.non, _, I.lset (its' := its ++ its2) hH e (by simp) (r.append r2) ?_, rfl, q⟩
  rw [List.length_append]
  omega
def rExtG (K : PySem.W.Frag) : V → List V → Hp → VK → Prop := fun x vs H Q => rExtend x vs H Q ∨ rExtT K x vs H Q
theorem mt_extendG : MtR X "list.extend" (rExtG X.K) := MtR.or mt_extend mt_extT

/-! repr of data, where no repr is under way -/
def rReprG (K : PySem.W.Frag) : List V → Hp → VK → Prop := fun xs H Q => ∃ (x : V) (d : PyData), xs = [x] ∧ Dp K H x d ∧ d.showable = true ∧ d.hasDict = false ∧ d.depth ≤ 60 ∧ d.shown.length ≤ sizeLine ∧ Q (.str d.shown) H
theorem call_reprG (hg : X.A.guards = some []) (hu : X.A.units + 64 < cLine) : CallR X (.builtin "repr") (rReprG X.K) := by
  intro pins s σ H xs us Q I rv h
  obtain ⟨x, d, rfl, hd, hs, hn, hdp, hz, q⟩ := h
  obtain ⟨u, rfl, ru⟩ := rv.one
  obtain ⟨as, R⟩ := Dp.reads I d x u hd ru
  have fin : ∀ h' (t : Tok) tk, (∀ b o, s.heap.get? b = some o → h'.get? b = some o) → EP X pins σ Q (.str d.shown t) { s with heap := h', toks := tk } := fun h' t tk hk =>
    ⟨.str d.shown, H, I.kept (h' := h') (t' := tk) hk, ⟨t, rfl⟩, q⟩
  cases hd with
  | non =>
    cases ru
    exact PySem.P.repr_of_none (fin s.heap _ _ fun _ _ e => e)
  | bl b =>
    cases ru
    exact PySem.P.repr_of_bool (fin s.heap _ _ fun _ _ e => e)
  | int i =>
    obtain ⟨t, rfl⟩ := ru
    exact PySem.P.repr_of_int (by simpa [PyData.showable] using hs) (fin s.heap _ _ fun _ _ e => e)
  | str y =>
    obtain ⟨t, rfl⟩ := ru
    exact PySem.P.repr_of_str (fin s.heap _ _ fun _ _ e => e) hz
  | lst h1 h2 =>
    cases ru
    exact PySem.repr_of_reads' R hs (fun c => by rw [hn] at c; cases c) hg (by omega) (fun _ _ e => e) (fun h' t tk hk => fin h' t tk hk) hz
  | tup h1 h2 =>
    cases ru
    exact PySem.repr_of_reads' R hs (fun c => by rw [hn] at c; cases c) hg (by omega) (fun _ _ e => e) (fun h' t tk hk => fin h' t tk hk) hz
end

/-! defs that may ask for a repr: called where none is under way -/
structure FnOkG (P : Program) (w : World) (K : PySem.W.Frag) (mg : Str → Option Value) (base : Heap) (CX : CXT) (k : Nat) (f : Addr) (fd : FuncData) (ps : List Str) (sp : Sp) : Prop where
  len : ∀ vs H Q E, sp vs H Q E → vs.length = ps.length
  run : ∀ (A : Around) (outer : List Env) (s : Shared) (H : Hp) (args : Args) (us : List Value) (vs : List V) (Q : VK) (E : XK), A.guards = some [] → Room k A →
    Env0 P w K mg base A outer s H → BindsTo s fd args (ps.zip us) → Vals vs us → sp vs H Q E → codeAny (model P w) A (.call (.ref f) args) (CR CX outer P w H s Q E) s
section
variable {P : Program} {w : World} {K : PySem.W.Frag} {mg : Str → Option Value} {base : Heap} {CX : CXT}
theorem FnOkG.mono {j k : Nat} {f : Addr} {fd : FuncData} {ps : List Str} {sp : Sp} (F : FnOkG P w K mg base CX j f fd ps sp) (h : j ≤ k) : FnOkG P w K mg base CX k f fd ps sp :=
  ⟨F.len, fun A outer s H args us vs Q E hg hr => F.run A outer s H args us vs Q E hg (hr.mono h)⟩
theorem guards_deeper (A : Around) (env : Env) (h : A.guards = some []) : (A.deeper env).guards = some [] := by
  first | exact h | simpa [Around.deeper] using h
/-- a def's promise by its body, as Fun.ok says it, with the guards known -/
theorem okG {x qual : Str} {st : Stmt} {f : Addr} {fd : FuncData} {N ps : List Str} {k : Nat} {sp : Sp} (F : Fun K x qual st f fd) (S : FnScope N ps (defScope st))
    (len : ∀ vs H Q E, sp vs H Q E → vs.length = ps.length)
    (body : ∀ (cdv : Value) (A : Around) (outer : List Env) (s : Shared) (H : Hp) (vs : List V) (Q : VK) (E : XK),
      (A.deeper (envOfC qual (defScope st) s.heap.objs.size f cdv)).guards = some [] → Room k (A.deeper (envOfC qual (defScope st) s.heap.objs.size f cdv)) → sp vs H Q E →
      ∃ t, PSs (cxOf CX0 P w K mg base N qual (defScope st) f cdv A outer s H E).nox (defBody st) t ∧ t { nx := fun _ H' => Q .non H', rt := Q } (start N vs) H) :
    FnOkG P w K mg base CX0 (k + 1) f fd ps sp := by
  obtain ⟨oc, od, kV, doc, pm, an, cdv, ct, osl, rfl, lk, hcd⟩ := F.ex
  refine ⟨len, fun A outer s H args us vs Q E hg hr e0 hb rv hsp => ?_⟩
  have KX : K.In s.heap := e0.mod.kin.keeps fun b o e => (e0.bs b o e).1
  have lim : s.heap.NoLimit := e0.mod.nolimit.keeps fun b o e => (e0.bs b o e).1
  refine codeAny_call_function hr.depth (KX _ _ lk) rfl S.co S.gen rfl (PySem.W.codeRec_of KX hcd) (hb _ _ _ _ ?_)
  refine wpAny_newFunctionEnv_cells S.kind (fun y hy => ?_) fun env he s1 ic => ?_
  · rcases S.par y.1 (List.of_mem_zip (show (y.1, y.2) ∈ ps.zip us from hy)).1 with q | q
    · exact .inl q
    · exact .inr ⟨q, PySem.W.cellsFrom_some _ _ _ (.inl q)⟩
  · subst he
    refine ⟨lim.keeps ic.toInCall.keep, codeAny_func ?_⟩
    obtain ⟨t, ht, hq⟩ := body cdv A outer s H vs Q E (guards_deeper A _ hg) (hr.deeper _) hsp
    have I := inv_start (CX := CX0) (N := N) (E := E) S hr.hd e0 (len _ _ _ _ hsp) rv ic
    refine wpAny_mono (ht.nox.run [] s1 (start N vs) H _ I hq) (fun fl s' hs => ?_) fun e s' hs => hs
    cases fl with
    | ret u =>
      obtain ⟨v, σ', H', J, r', q⟩ := hs
      exact ⟨v, H', J.os, J.bare, J.base, J.hok, r', q⟩
    | next =>
      obtain ⟨σ', H', J, q⟩ := hs
      exact ⟨.non, H', J.os, J.bare, J.base, J.hok, rfl, q⟩
    | brk =>
      obtain ⟨_, _, _, q⟩ := hs
      exact q.elim
    | cont =>
      obtain ⟨_, _, _, q⟩ := hs
      exact q.elim
end
section
variable {X : Cx} {CX : CXT} {k : Nat} {f : Addr} {fd : FuncData} {ps : List Str} {sp : Sp} {dvs : List V} {ds : List Value} {E : XK} {x : Str} {p pos : Pos} {e : Expr} {es : List Expr} {t : TA}
theorem pe_callG (F : FnOkG X.prog X.w X.K X.mg X.base CX k f fd ps sp) (hgd : X.A.guards = some []) (hr : Room k X.A) (hg : Gl X x) (hm : X.mg x = some (.ref f))
    (hk : PySem.W.keepIn X.K (.ref f) = true) (hb : Binds X.K fd ps ds) (hd : Vals dvs ds) (hx : Passes CX X E) (ha : PA X (e :: es) t) (hdb : (x == ("__debug__" : Str)) = false := by decide)
    (he : starEach (e :: es) X.env = (false, eval e X.env) :: starEach es X.env := by rfl) (hpl : (backTo pos (starEach es X.env)).any (·.1) = false := by rfl) :
    PE X (.Call (.Name x p) (e :: es) [] pos) (tCall sp dvs E t) := by
  refine ⟨fun pins s σ H Q I h => wpAny_Call_Name_kw (ld_glob I hg hm ?_ hdb)⟩
  refine PySem.W.callWith_K (h₀ := X.base) I.ok.mod.kin hk (thn (ha.run pos pins s σ H _ I h) ?_) he hpl
  rintro us s1 ⟨vs, H1, I1, rv, q⟩
  refine ⟨I1.kIn, ?_⟩
  have r2 := rv.append hd
  have hl : (us ++ ds).length = ps.length := by
    rw [← r2.length]
    exact F.len _ _ _ _ q
  refine wpAny_call (codeAny_mono (F.run X.A X.stack s1 H1 ⟨us, []⟩ _ _ Q E hgd hr I1.env0 (hb s1 us I1.kIn hl) r2 q) fun r s' hq => ?_)
  match r, hq with
  | .error e, hq => exact hx pins σ H1 s1 e s' I1 hq
  | .ok (.ret u), hq => exact I1.after hq
end
end Fm
namespace Fm
open PySem PySem.Spec PyProof.Rows L2

/-! heaps: what a step leaves -/
/-- tuples stay; all else stays but what stands in S -/
structure Mv (S : List Addr) (H H' : Hp) : Prop where
  tk : ∀ a xs, Rd H a (.tup xs) → Rd H' a (.tup xs)
  keep : ∀ a o, a ∉ S → H a = some o → H' a = some o
section
variable {S T : List Addr} {H H1 H2 : Hp} {p : Addr} {o : HO}
theorem Mv.refl : Mv S H H := ⟨fun _ _ h => h, fun _ _ _ h => h⟩
theorem Mv.trans (a : Mv S H H1) (b : Mv S H1 H2) : Mv S H H2 := ⟨fun c xs h => b.tk c xs (a.tk c xs h), fun c u n h => b.keep c u n (a.keep c u n h)⟩
theorem Mv.mono (a : Mv S H H1) (h : ∀ x ∈ S, x ∈ T) : Mv T H H1 := ⟨a.tk, fun c u n e => a.keep c u (fun z => n (h c z)) e⟩
theorem Mv.of_same (h : Same H H1) : Mv S H H1 := ⟨fun a xs r => r.elim (fun r => .inl (h _ _ r)) fun ⟨o, r⟩ => .inr ⟨o, h _ _ r⟩, fun a o _ e => h a o e⟩
theorem same_new (h : H p = none) : Same H (upd H p o) := fun a u e => by
  rw [upd_ne (ne_of_none e h)]
  exact e
theorem Mv.new (h : H p = none) : Mv S H (upd H p o) := .of_same (same_new h)
theorem Mv.free (a : Mv [] H H1) (h : H1 p = none) : H p = none := by
  cases q : H p with
  | none => rfl
  | some u =>
    rw [a.keep p u (List.not_mem_nil) q] at h
    cases h
theorem Mv.same (a : Mv [] H H1) : Same H H1 := fun c u e => a.keep c u List.not_mem_nil e
/-- what H does not know may be written -/
theorem Mv.wr (a : Mv S H H1) (h : H p = none) : Mv S H (upd H1 p o) := by
  refine ⟨fun c xs r => ?_, fun c u n e => ?_⟩
  · have hc : c ≠ p := by
      rintro rfl
      rcases r with r | ⟨u, r⟩ <;> (rw [h] at r; cases r)
    rcases a.tk c xs r with r | ⟨u, r⟩
    · exact .inl (by rw [upd_ne hc]; exact r)
    · exact .inr ⟨u, by rw [upd_ne hc]; exact r⟩
  · rw [upd_ne (ne_of_none e h)]
    exact a.keep c u n e
/-- a list that stands in S may be written -/
theorem Mv.set {xs : List V} (h : H p = some (.lst xs)) (hp : p ∈ S) : Mv S H (upd H p o) := by
  refine ⟨fun c ys r => ?_, fun c u n e => ?_⟩
  · have hc : c ≠ p := by
      rintro rfl
      rcases r with r | ⟨u, r⟩ <;> (rw [h] at r; cases r)
    rcases r with r | ⟨u, r⟩
    · exact .inl (by rw [upd_ne hc]; exact r)
    · exact .inr ⟨u, by rw [upd_ne hc]; exact r⟩
  · have hc : c ≠ p := fun z => n (by rw [z]; exact hp)
    rw [upd_ne hc]
    exact e
theorem Mv.sqT {K : PySem.W.Frag} {a : Addr} {xs : List V} (m : Mv S H H1) (h : SqT K H a xs) : SqT K H1 a xs := h.elim (fun h => .inl (m.tk a xs h)) .inr
end

/-! data without lists and dicts -/
mutual
def imm : PyData → Bool
  | .none | .bool _ | .int _ | .str _ => true
  | .tuple xs => immAll xs
  | .list _ => false
  | .dict _ => false
def immAll : List PyData → Bool
  | [] => true
  | x :: xs => imm x && immAll xs
end
theorem immAll_iff : ∀ {xs : List PyData}, immAll xs = true ↔ ∀ x ∈ xs, imm x = true
  | [] => by simp [immAll]
  | x :: xs => by simp [immAll, immAll_iff]
structure Im (K : PySem.W.Frag) (H : Hp) (v : V) (d : PyData) : Prop where
  dp : Dp K H v d
  im : imm d = true
structure Ims (K : PySem.W.Frag) (H : Hp) (vs : List V) (ds : List PyData) : Prop where
  dp : DpAll K H vs ds
  im : immAll ds = true
section
variable {K : PySem.W.Frag} {S : List Addr} {H H' : Hp}
mutual
theorem dp_mv (m : Mv S H H') : ∀ (d : PyData) (v : V), imm d = true → Dp K H v d → Dp K H' v d
  | .none, _, _, h => by cases h; exact .non
  | .bool b, _, _, h => by cases h; exact .bl b
  | .int i, _, _, h => by cases h; exact .int i
  | .str x, _, _, h => by cases h; exact .str x
  | .tuple ds, _, i, h => by
    cases h with
    | tup hs ha => exact .tup (m.sqT hs) (dps_mv m ds _ (by simpa [imm] using i) ha)
  | .list ds, _, i, _ => by simp [imm] at i
  | .dict _, _, _, h => by cases h
theorem dps_mv (m : Mv S H H') : ∀ (ds : List PyData) (vs : List V), immAll ds = true → DpAll K H vs ds → DpAll K H' vs ds
  | [], _, _, h => by cases h; exact .nil
  | d :: ds, _, i, h => by
    cases h with
    | cons h1 h2 =>
      have i' : imm d = true ∧ immAll ds = true := by simpa [immAll] using i
      exact .cons (dp_mv m d _ i'.1 h1) (dps_mv m ds _ i'.2 h2)
end
theorem Im.mv {v : V} {d : PyData} (h : Im K H v d) (m : Mv S H H') : Im K H' v d := ⟨dp_mv m d v h.im h.dp, h.im⟩
theorem Ims.mv {vs : List V} {ds : List PyData} (h : Ims K H vs ds) (m : Mv S H H') : Ims K H' vs ds := ⟨dps_mv m ds vs h.im h.dp, h.im⟩
theorem Ims.nil : Ims K H [] [] := ⟨.nil, rfl⟩
theorem Ims.cons {v : V} {vs : List V} {d : PyData} {ds : List PyData} (h : Im K H v d) (k : Ims K H vs ds) : Ims K H (v :: vs) (d :: ds) := ⟨.cons h.dp k.dp, by simp [immAll, h.im, k.im]⟩
theorem Ims.inv {v : V} {vs : List V} {ds : List PyData} (h : Ims K H (v :: vs) ds) : ∃ d ds', ds = d :: ds' ∧ Im K H v d ∧ Ims K H vs ds' := by
  obtain ⟨h, i⟩ := h
  cases h with
  | cons h1 h2 =>
    simp only [immAll, Bool.and_eq_true] at i
    exact ⟨_, _, rfl, ⟨h1, i.1⟩, h2, i.2⟩
theorem Ims.invD {vs : List V} {d : PyData} {ds : List PyData} (h : Ims K H vs (d :: ds)) : ∃ v vs', vs = v :: vs' ∧ Im K H v d ∧ Ims K H vs' ds := by
  obtain ⟨h, i⟩ := h
  cases h with
  | cons h1 h2 =>
    simp only [immAll, Bool.and_eq_true] at i
    exact ⟨_, _, rfl, ⟨h1, i.1⟩, h2, i.2⟩
theorem Ims.nilV {ds : List PyData} (h : Ims K H [] ds) : ds = [] := by
  obtain ⟨h, i⟩ := h
  cases h
  rfl
theorem Ims.nilD {vs : List V} (h : Ims K H vs []) : vs = [] := by
  obtain ⟨h, i⟩ := h
  cases h
  rfl
theorem Ims.length : ∀ {ds : List PyData} {vs : List V}, Ims K H vs ds → vs.length = ds.length
  | [], _, h => by rw [h.nilD]; rfl
  | d :: ds, _, h => by
    obtain ⟨v, vs', rfl, _, k⟩ := h.invD
    simp [k.length]
theorem Ims.append : ∀ {ds es : List PyData} {vs us : List V}, Ims K H vs ds → Ims K H us es → Ims K H (vs ++ us) (ds ++ es)
  | [], _, _, _, h, k => by rw [h.nilD]; exact k
  | d :: ds, _, _, _, h, k => by
    obtain ⟨v, vs', rfl, h1, h2⟩ := h.invD
    exact .cons h1 (h2.append k)
theorem Ims.get : ∀ {ds : List PyData} {vs : List V} {i : Nat} {v : V}, Ims K H vs ds → vs[i]? = some v → ∃ d, ds[i]? = some d ∧ Im K H v d
  | [], _, _, _, h, e => by rw [h.nilD] at e; simp at e
  | d :: ds, _, 0, _, h, e => by
    obtain ⟨v, vs', rfl, h1, h2⟩ := h.invD
    simp at e
    subst e
    exact ⟨d, rfl, h1⟩
  | d :: ds, _, i + 1, _, h, e => by
    obtain ⟨v, vs', rfl, h1, h2⟩ := h.invD
    exact h2.get (i := i) (by simpa using e)
theorem Ims.getD : ∀ {ds : List PyData} {vs : List V} {i : Nat} {d : PyData}, Ims K H vs ds → ds[i]? = some d → ∃ v, vs[i]? = some v ∧ Im K H v d
  | [], _, _, _, h, e => by simp at e
  | d :: ds, _, 0, _, h, e => by
    obtain ⟨v, vs', rfl, h1, h2⟩ := h.invD
    simp at e
    subst e
    exact ⟨v, rfl, h1⟩
  | d :: ds, _, i + 1, _, h, e => by
    obtain ⟨v, vs', rfl, h1, h2⟩ := h.invD
    exact h2.getD (i := i) (by simpa using e)
theorem Im.tupI {v : V} {ds : List PyData} (h : Im K H v (.tuple ds)) : ∃ a xs, v = .ref a ∧ SqT K H a xs ∧ Ims K H xs ds := by
  obtain ⟨h, i⟩ := h
  cases h with
  | tup hs ha => exact ⟨_, _, rfl, hs, ha, by simpa [imm] using i⟩
theorem Im.tup {a : Addr} {xs : List V} {ds : List PyData} (h : SqT K H a xs) (k : Ims K H xs ds) : Im K H (.ref a) (.tuple ds) := ⟨.tup h k.dp, by simpa [imm] using k.im⟩
theorem Im.int (i : Int) : Im K H (.int i) (.int i) := ⟨.int i, rfl⟩
theorem Im.str (x : Str) : Im K H (.str x) (.str x) := ⟨.str x, rfl⟩
theorem Im.bl (b : Bool) : Im K H (.bl b) (.bool b) := ⟨.bl b, rfl⟩
theorem Im.non : Im K H .non .none := ⟨.non, rfl⟩
theorem Im.intI {v : V} {i : Int} (h : Im K H v (.int i)) : v = .int i := by
  obtain ⟨h, _⟩ := h
  cases h
  rfl
theorem Im.strI {v : V} {x : Str} (h : Im K H v (.str x)) : v = .str x := by
  obtain ⟨h, _⟩ := h
  cases h
  rfl
end

/-! the bag of draws -/
def BagC (H : Hp) (b c : Addr) : Prop := ∃ (s m k : Int) (ns : List Int), H b = some (.lst [.int s, .int m, .int k, .ref c]) ∧ H c = some (.lst (ns.map V.int)) ∧ ns.length ≤ 63 ∧
  (∀ n ∈ ns, 0 ≤ n) ∧ 0 ≤ s ∧ 0 ≤ k ∧ 0 ≤ m
def Bag (H : Hp) (b : Addr) : Prop := ∃ c, BagC H b c
theorem BagC.lst {H : Hp} {b c : Addr} (h : BagC H b c) : ∃ xs, H b = some (.lst xs) := by
  obtain ⟨s, m, k, ns, h, _⟩ := h
  exact ⟨_, h⟩
theorem Bag.lst {H : Hp} {b : Addr} (h : Bag H b) : ∃ xs, H b = some (.lst xs) := h.elim fun _ h => h.lst
theorem Bag.ne {H : Hp} {b c : Addr} {xs : List V} {ns : List Int} (h : H b = some (.lst (xs ++ [.ref c]))) (k : H c = some (.lst (ns.map V.int))) : c ≠ b := by
  rintro rfl
  rw [h] at k
  have e : xs ++ [V.ref c] = ns.map V.int := by
    have := Option.some.inj k
    injection this
  have : V.ref c ∈ ns.map V.int := by
    rw [← e]
    simp
  obtain ⟨n, _, q⟩ := List.mem_map.mp this
  cases q
theorem BagC.mv {H H' : Hp} {b c : Addr} (h : BagC H b c) (m : Mv [] H H') : BagC H' b c := by
  obtain ⟨s, m', k, ns, h1, h2, r⟩ := h
  exact ⟨s, m', k, ns, m.same _ _ h1, m.same _ _ h2, r⟩
theorem Bag.mv {H H' : Hp} {b : Addr} (h : Bag H b) (m : Mv [] H H') : Bag H' b := h.elim fun c h => ⟨c, h.mv m⟩
/-- a step that may draw from the bag -/
structure Dr (b : Addr) (H H' : Hp) : Prop where
  mv : Mv [b] H H'
  bagC : ∀ c, BagC H b c → BagC H' b c
section
variable {b p : Addr} {H H' H1 H2 : Hp} {o : HO}
theorem Dr.bag (x : Dr b H H') (h : Bag H b) : Bag H' b := h.elim fun c h => ⟨c, x.bagC c h⟩
theorem Dr.refl : Dr b H H := ⟨.refl, fun _ h => h⟩
theorem Dr.trans (x : Dr b H H1) (y : Dr b H1 H2) : Dr b H H2 := ⟨x.mv.trans y.mv, fun c h => y.bagC c (x.bagC c h)⟩
theorem Dr.of (x : Mv [] H H1) : Dr b H H1 := ⟨x.mono (by simp), fun _ h => h.mv x⟩
theorem Dr.new (h : H p = none) : Dr b H (upd H p o) := .of (.new h)
theorem Dr.free (d : Dr b H H') (hB : Bag H b) (h : H' p = none) : H p = none := by
  cases q : H p with
  | none => rfl
  | some u =>
    by_cases e : p = b
    · subst e
      obtain ⟨xs, hx⟩ := (d.bag hB).lst
      rw [hx] at h
      cases h
    · rw [d.mv.keep p u (by simpa using e) q] at h
      cases h
theorem Dr.get (d : Dr b H H') (hp : p ≠ b) (h : H p = some o) : H' p = some o := d.mv.keep p o (by simpa using hp) h
theorem Dr.wr (d : Dr b H H') (hp : H p = none) : Dr b H (upd H' p o) := by
  refine ⟨d.mv.wr hp, fun c hB => ?_⟩
  obtain ⟨s', m', k', ns', h1', h2', r'⟩ := d.bagC c hB
  obtain ⟨s, m, k, ns, h1, h2, r⟩ := hB
  exact ⟨s', m', k', ns', by rw [upd_ne (ne_of_none h1 hp)]; exact h1', by rw [upd_ne (ne_of_none h2 hp)]; exact h2', r'⟩
theorem Dr.mkc {c : Addr} (m : Mv [b] H H') (h : BagC H b c) (h' : BagC H' b c) : Dr b H H' := ⟨m, fun d k => by
  obtain ⟨_, _, _, _, h1, _⟩ := h
  obtain ⟨_, _, _, _, k1, _⟩ := k
  rw [h1] at k1
  have e := Option.some.inj k1
  injection e with e
  injection e with _ e
  injection e with _ e
  injection e with _ e
  injection e with e _
  injection e with e
  rw [← e]
  exact h'⟩
theorem Bag.fneq (h : Bag H b) (hp : H p = none) : p ≠ b := by
  rintro rfl
  obtain ⟨xs, e⟩ := h.lst
  rw [e] at hp
  cases hp
end

/-! items of a list, by values -/
section
variable {X : Cx}
def rGetL (K : PySem.W.Frag) : V → V → Hp → VK → Prop := fun o i H Q => ∃ (p : Addr) (xs : List V) (j : Nat) (v : V), o = .ref p ∧ i = .int (j : Nat) ∧ SqL K H p xs ∧ xs[j]? = some v ∧ Q v H
theorem get_G : PGet X (rGetL X.K) := by
  intro pins s σ H o i ov iv Q I ro ri h
  obtain ⟨p, xs, j, v, rfl, rfl, hq, he, q⟩ := h
  cases ro
  obtain ⟨t, rfl⟩ := ri
  obtain ⟨its, r, pl, hz⟩ := I.list hq
  obtain ⟨w, ew, rw'⟩ := r.get he
  have hl := r.length
  have hn := line63
  have hj : j < its.length := (List.getElem?_eq_some_iff.mp ew).1
  exact wpAny_getItem_list pl.isList (by omega) (by omega) (by simpa using ew) ⟨v, H, I, rw', q⟩
end
end Fm
namespace Fm
open PySem PySem.Spec PyProof.Rows L2
/-- small letters, one to eight -/
def Nm (x : Str) : Prop := 1 ≤ x.length ∧ x.length ≤ 8 ∧ ∀ c ∈ x.cps.toList, 97 ≤ c ∧ c ≤ 122
instance (x : Str) : Decidable (Nm x) := by unfold Nm; infer_instance
/-! terms -/
inductive Tm where
  | var (i : Int)
  | op (x : Str) (ts : List Tm)
namespace Tm
mutual
def d : Tm → PyData
  | .var i => .int i
  | .op x ts => .tuple (.str x :: ds ts)
def ds : List Tm → List PyData
  | [] => []
  | t :: ts => d t :: ds ts
end
theorem ds_map : ∀ ts : List Tm, ds ts = ts.map d
  | [] => by simp [ds]
  | t :: ts => by simp [ds, ds_map ts]
mutual
def dep : Tm → Nat
  | .var _ => 0
  | .op _ ts => deps ts + 1
def deps : List Tm → Nat
  | [] => 0
  | t :: ts => max (dep t) (deps ts)
end
mutual
/-- how many unknowns stand there -/
def lv : Tm → Nat
  | .var _ => 1
  | .op _ ts => lvs ts
def lvs : List Tm → Nat
  | [] => 0
  | t :: ts => lv t + lvs ts
end
mutual
/-- the unknowns from left to right -/
def leaves : Tm → List Int
  | .var i => [i]
  | .op _ ts => leavesL ts
def leavesL : List Tm → List Int
  | [] => []
  | t :: ts => leaves t ++ leavesL ts
end
mutual
/-- how many operations -/
def size : Tm → Nat
  | .var _ => 0
  | .op _ ts => sizes ts + 1
def sizes : List Tm → Nat
  | [] => 0
  | t :: ts => size t + sizes ts
end
mutual
def put (f : Int → Tm) : Tm → Tm
  | .var i => f i
  | .op x ts => .op x (puts f ts)
def puts (f : Int → Tm) : List Tm → List Tm
  | [] => []
  | t :: ts => put f t :: puts f ts
end
mutual
/-- names are names, at most three parts, the unknowns keep P -/
def ok (P : Int → Prop) : Tm → Prop
  | .var i => P i
  | .op x ts => Nm x ∧ ts.length ≤ 3 ∧ oks P ts
def oks (P : Int → Prop) : List Tm → Prop
  | [] => True
  | t :: ts => ok P t ∧ oks P ts
end
theorem puts_map (f : Int → Tm) : ∀ ts : List Tm, puts f ts = ts.map (put f)
  | [] => by simp [puts]
  | t :: ts => by simp [puts, puts_map f ts]
theorem oks_iff {P : Int → Prop} : ∀ {ts : List Tm}, oks P ts ↔ ∀ t ∈ ts, ok P t
  | [] => by simp [oks]
  | t :: ts => by simp [oks, oks_iff]
theorem deps_le {n : Nat} : ∀ {ts : List Tm}, deps ts ≤ n ↔ ∀ t ∈ ts, dep t ≤ n
  | [] => by simp [deps]
  | t :: ts => by
    have := deps_le (n := n) (ts := ts)
    simp only [deps, List.mem_cons, forall_eq_or_imp, ← this]
    omega
theorem leavesL_append : ∀ ts us : List Tm, leavesL (ts ++ us) = leavesL ts ++ leavesL us
  | [], _ => by simp [leavesL]
  | t :: ts, us => by simp [leavesL, leavesL_append ts us]
theorem sizes_append : ∀ ts us : List Tm, sizes (ts ++ us) = sizes ts + sizes us
  | [], _ => by simp [sizes]
  | t :: ts, us => by
    simp only [List.cons_append, sizes, sizes_append ts us]
    omega
theorem lvs_append : ∀ ts us : List Tm, lvs (ts ++ us) = lvs ts + lvs us
  | [], _ => by simp [lvs]
  | t :: ts, us => by
    simp only [List.cons_append, lvs, lvs_append ts us]
    omega
mutual
theorem leaves_len : ∀ t : Tm, (leaves t).length = lv t
  | .var _ => by simp [leaves, lv]
  | .op _ ts => by simp [leaves, lv, leavesL_len ts]
theorem leavesL_len : ∀ ts : List Tm, (leavesL ts).length = lvs ts
  | [] => by simp [leavesL, lvs]
  | t :: ts => by simp [leavesL, lvs, leaves_len t, leavesL_len ts]
end
mutual
theorem ok_leaves {P : Int → Prop} : ∀ t : Tm, ok P t → ∀ i ∈ leaves t, P i
  | .var j, h, i, hi => by
    simp only [leaves, List.mem_singleton] at hi
    rw [hi]
    exact h
  | .op _ ts, h, i, hi => oks_leaves ts h.2.2 i (by simpa [leaves] using hi)
theorem oks_leaves {P : Int → Prop} : ∀ ts : List Tm, oks P ts → ∀ i ∈ leavesL ts, P i
  | [], _, i, hi => by simp [leavesL] at hi
  | t :: ts, h, i, hi => by
    rcases List.mem_append.mp (show i ∈ leaves t ++ leavesL ts by simpa [leavesL] using hi) with hi | hi
    · exact ok_leaves t h.1 i hi
    · exact oks_leaves ts h.2 i hi
end
mutual
theorem ok_mono {P R : Int → Prop} (h : ∀ i, P i → R i) : ∀ t : Tm, ok P t → ok R t
  | .var i, k => h i k
  | .op _ ts, k => ⟨k.1, k.2.1, oks_mono h ts k.2.2⟩
theorem oks_mono {P R : Int → Prop} (h : ∀ i, P i → R i) : ∀ ts : List Tm, oks P ts → oks R ts
  | [], _ => trivial
  | t :: ts, k => ⟨ok_mono h t k.1, oks_mono h ts k.2⟩
end
mutual
theorem ok_put {P R : Int → Prop} {f : Int → Tm} (h : ∀ i, P i → ok R (f i)) : ∀ t : Tm, ok P t → ok R (put f t)
  | .var i, k => h i k
  | .op _ ts, k => by
    refine ⟨k.1, ?_, oks_puts h ts k.2.2⟩
    rw [puts_map, List.length_map]
    exact k.2.1
theorem oks_puts {P R : Int → Prop} {f : Int → Tm} (h : ∀ i, P i → ok R (f i)) : ∀ ts : List Tm, oks P ts → oks R (puts f ts)
  | [], _ => trivial
  | t :: ts, k => ⟨ok_put h t k.1, oks_puts h ts k.2⟩
end
mutual
theorem dep_put {P : Int → Prop} {f : Int → Tm} {n : Nat} (h : ∀ i, P i → dep (f i) ≤ n) : ∀ t : Tm, ok P t → dep (put f t) ≤ dep t + n
  | .var i, k => by simpa [put, dep] using h i k
  | .op _ ts, k => by
    have := deps_puts h ts k.2.2
    simp only [put, dep]
    omega
theorem deps_puts {P : Int → Prop} {f : Int → Tm} {n : Nat} (h : ∀ i, P i → dep (f i) ≤ n) : ∀ ts : List Tm, oks P ts → deps (puts f ts) ≤ deps ts + n
  | [], _ => by simp [puts, deps]
  | t :: ts, k => by
    have h1 := dep_put h t k.1
    have h2 := deps_puts h ts k.2
    simp only [puts, deps]
    omega
end
mutual
/-- what a term's text may come to, without its unknowns' figures -/
def cst : Tm → Nat
  | .var _ => 0
  | .op _ ts => csts ts + 90
def csts : List Tm → Nat
  | [] => 0
  | t :: ts => cst t + 2 + csts ts
end
mutual
theorem cst_put {P : Int → Prop} {f : Int → Tm} {c : Nat} (h : ∀ i, P i → cst (f i) ≤ c) : ∀ t : Tm, ok P t → cst (put f t) ≤ cst t + lv t * c
  | .var i, k => by simpa [put, cst, lv] using h i k
  | .op _ ts, k => by
    have := csts_puts h ts k.2.2
    simp only [put, cst, lv]
    omega
theorem csts_puts {P : Int → Prop} {f : Int → Tm} {c : Nat} (h : ∀ i, P i → cst (f i) ≤ c) : ∀ ts : List Tm, oks P ts → csts (puts f ts) ≤ csts ts + lvs ts * c
  | [], _ => by simp [puts, csts]
  | t :: ts, k => by
    have h1 := cst_put h t k.1
    have h2 := csts_puts h ts k.2
    simp only [puts, csts, lvs, Nat.add_mul]
    omega
end
mutual
theorem lv_put {P : Int → Prop} {f : Int → Tm} {c : Nat} (h : ∀ i, P i → lv (f i) ≤ c) : ∀ t : Tm, ok P t → lv (put f t) ≤ lv t * c
  | .var i, k => by simpa [put, lv] using h i k
  | .op _ ts, k => by simpa [put, lv] using lvs_puts h ts k.2.2
theorem lvs_puts {P : Int → Prop} {f : Int → Tm} {c : Nat} (h : ∀ i, P i → lv (f i) ≤ c) : ∀ ts : List Tm, oks P ts → lvs (puts f ts) ≤ lvs ts * c
  | [], _ => by simp [puts, lvs]
  | t :: ts, k => by
    have h1 := lv_put h t k.1
    have h2 := lvs_puts h ts k.2
    simp only [puts, lvs, Nat.add_mul]
    omega
end
mutual
theorem put_congr {f g : Int → Tm} : ∀ t : Tm, (∀ i ∈ leaves t, f i = g i) → put f t = put g t
  | .var i, h => h i (by simp [leaves])
  | .op x ts, h => by
    show Tm.op x (puts f ts) = .op x (puts g ts)
    rw [puts_congr ts fun i hi => h i (by simpa [leaves] using hi)]
theorem puts_congr {f g : Int → Tm} : ∀ ts : List Tm, (∀ i ∈ leavesL ts, f i = g i) → puts f ts = puts g ts
  | [], _ => rfl
  | t :: ts, h => by
    show put f t :: puts f ts = put g t :: puts g ts
    rw [put_congr t fun i hi => h i (by simp [leavesL, hi]), puts_congr ts fun i hi => h i (by simp [leavesL, hi])]
end
/-- trees of bounded depth are small -/
theorem small {P : Int → Prop} : ∀ (n : Nat) (t : Tm), ok P t → dep t ≤ n → lv t ≤ 3 ^ n ∧ cst t + 48 ≤ 48 * 3 ^ n
  | 0, .var i, _, _ => by simp [lv, cst]
  | 0, .op x ts, _, h => by simp [dep] at h
  | n + 1, .var i, _, _ => by
    have := Nat.one_le_pow (n + 1) 3 (by decide)
    simp only [lv, cst]
    omega
  | n + 1, .op x ts, k, h => by
    have hd : ∀ t ∈ ts, dep t ≤ n := deps_le.mp (by simp only [dep] at h; omega)
    have ho := oks_iff.mp k.2.2
    have hl := k.2.1
    have ih : ∀ t ∈ ts, lv t ≤ 3 ^ n ∧ cst t + 48 ≤ 48 * 3 ^ n := fun t ht => small n t (ho t ht) (hd t ht)
    have h1 := Nat.one_le_pow n 3 (by decide)
    rw [Nat.pow_succ]
    simp only [lv, cst]
    match ts, hl, ih with
    | [], _, _ => simp only [lvs, csts]; omega
    | [a], _, ih =>
      have := ih a (by simp)
      simp only [lvs, csts]; omega
    | [a, b], _, ih =>
      have := ih a (by simp)
      have := ih b (by simp)
      simp only [lvs, csts]; omega
    | [a, b, c], _, ih =>
      have := ih a (by simp)
      have := ih b (by simp)
      have := ih c (by simp)
      simp only [lvs, csts]; omega
end Tm
mutual
theorem imm_d : ∀ t : Tm, imm t.d = true
  | .var _ => by simp [Tm.d, imm]
  | .op _ ts => by simp [Tm.d, imm, immAll, imm_ds ts]
theorem imm_ds : ∀ ts : List Tm, immAll (Tm.ds ts) = true
  | [] => by simp [Tm.ds, immAll]
  | t :: ts => by simp [Tm.ds, immAll, imm_d t, imm_ds ts]
end
end Fm
namespace Fm
open PySem PySem.Spec PyProof.Rows L2
/-! what is worth a value, the heap as it is -/
structure TV (t : TE) (σ : L2.St) (H : Hp) (v : V) : Prop where
  go : ∀ Q : VK, Q v H → t σ H Q
structure TB (t : TT) (σ : L2.St) (H : Hp) (b : Bool) : Prop where
  go : ∀ Q : Bool → Hp → Prop, Q b H → t σ H Q
theorem vint_eq {i j : Int} : decide (V.int i = V.int j) = decide (i = j) := by
  by_cases e : i = j
  · rw [e, decide_eq_true rfl, decide_eq_true rfl]
  · rw [decide_eq_false e, decide_eq_false fun z => e (V.int.inj z)]
section
variable {K : PySem.W.Frag} {σ : L2.St} {H : Hp} {ta tb : TE} {t u : TT} {a b : Bool} {i j : Int} {x y v : V} {Q : VK}
theorem tv_var {m : Nat} (h : σ[m]? = some (some v)) : TV (tVar m) σ H v := ⟨fun Q q => ⟨v, h, q⟩⟩
theorem tv_c : TV (tC v) σ H v := ⟨fun Q q => q⟩
theorem tv_I {g : Int → Int → V} (ha : TV ta σ H (.int i)) (hb : TV tb σ H (.int j)) : TV (tOp (rI0 g) ta tb) σ H (g i j) := ⟨fun Q q => ha.go _ (hb.go _ ⟨i, j, rfl, rfl, q⟩)⟩
theorem tv_eq (ha : TV ta σ H x) (hb : TV tb σ H y) (hs : scal x y = true) : TV (tOp (rEqG K) ta tb) σ H (.bl (decide (x = y))) := ⟨fun Q q => ha.go _ (hb.go _ (Or.inl ⟨hs, q⟩))⟩
theorem tv_ne (ha : TV ta σ H x) (hb : TV tb σ H y) (hs : scal x y = true) : TV (tOp (rNeG K) ta tb) σ H (.bl (!decide (x = y))) := ⟨fun Q q => ha.go _ (hb.go _ (Or.inl ⟨hs, q⟩))⟩
theorem tv_eqI (ha : TV ta σ H (.int i)) (hb : TV tb σ H (.int j)) : TV (tOp (rEqG K) ta tb) σ H (.bl (decide (i = j))) := by
  rw [← vint_eq]
  exact tv_eq ha hb rfl
theorem tv_neI (ha : TV ta σ H (.int i)) (hb : TV tb σ H (.int j)) : TV (tOp (rNeG K) ta tb) σ H (.bl (!decide (i = j))) := by
  rw [← vint_eq]
  exact tv_ne ha hb rfl
theorem tb_test (h : TV ta σ H (.bl a)) : TB (tTest ta) σ H a := ⟨fun Q q => h.go _ ⟨a, rfl, q⟩⟩
theorem tb_B (h : TV ta σ H (.bl a)) : TB (tB ta) σ H a := ⟨fun Q q => h.go _ ⟨a, rfl, q⟩⟩
theorem tb_and (h : TB t σ H a) (k : TB u σ H b) : TB (tAnd t u) σ H (a && b) := ⟨fun Q q => h.go _ (by
  cases a with
  | true => exact k.go _ q
  | false => exact q)⟩
theorem tb_or (h : TB t σ H a) (k : TB u σ H b) : TB (tOr t u) σ H (a || b) := ⟨fun Q q => h.go _ (by
  cases a with
  | true => exact q
  | false => exact k.go _ q)⟩
theorem tb_not (h : TB t σ H a) : TB (tNot t) σ H (!a) := ⟨fun Q q => h.go _ q⟩
theorem tv_is {w : V} (h : TV ta σ H v) (e : v = w) : TV ta σ H w := by rw [← e]; exact h
theorem st_if {c : TT} {t u : TS} {D : Ends} (h : TB c σ H b) (h1 : b = true → t D σ H) (h2 : b = false → u D σ H) : tIfS c t u D σ H := h.go _ (by
  cases b with
  | true => exact h1 rfl
  | false => exact h2 rfl)
theorem te_if {c : TT} (h : TB c σ H b) (h1 : b = true → ta σ H Q) (h2 : b = false → tb σ H Q) : tIf c ta tb σ H Q := h.go _ (by
  cases b with
  | true => exact h1 rfl
  | false => exact h2 rfl)
/-- isinstance(x, int) of data -/
def isInt : PyData → Bool
  | .int _ => true
  | .bool _ => true
  | _ => false
theorem tyx_dp {d : PyData} (h : Dp K H v d) (hd : imm d = true) : ∃ t : String, TyX K H v (.type t) ∧ (t = "int" ∧ (∃ i, d = .int i) ∨ t = "bool" ∧ (∃ b, d = .bool b) ∨ t = "str" ∧ (∃ x, d = .str x) ∨ t = "NoneType" ∧ d = .none ∨ t = "tuple" ∧ (∃ ds, d = .tuple ds)) := by
  cases h with
  | non => exact ⟨_, .base .non, .inr (.inr (.inr (.inl ⟨rfl, rfl⟩)))⟩
  | bl b => exact ⟨_, .base (.bl b), .inr (.inl ⟨rfl, b, rfl⟩)⟩
  | int i => exact ⟨_, .base (.int i), .inl ⟨rfl, i, rfl⟩⟩
  | str x => exact ⟨_, .base (.str x), .inr (.inr (.inl ⟨rfl, x, rfl⟩))⟩
  | lst h1 h2 => simp [imm] at hd
  | tup h1 h2 =>
    refine ⟨"tuple", ?_, .inr (.inr (.inr (.inr ⟨rfl, _, rfl⟩)))⟩
    rcases h1 with (h1 | ⟨o, h1⟩) | ⟨o, its, n, hk, hc, _⟩
    · exact .base (.tup h1)
    · exact .fTuple h1
    · exact .kTuple hk hc
theorem kit_i1 : kitB "int" "int" = some true := by decide +kernel
theorem kit_i2 : kitB "bool" "int" = some true := by decide +kernel
theorem kit_i3 : kitB "str" "int" = some false := by decide +kernel
theorem kit_i4 : kitB "NoneType" "int" = some false := by decide +kernel
theorem kit_i5 : kitB "tuple" "int" = some false := by decide +kernel
theorem rd_isInt {d : PyData} (h : Im K H v d) (q : Q (.bl (isInt d)) H) : rIsi K [v, .ty "int"] H Q := by
  obtain ⟨t, ht, k⟩ := tyx_dp h.dp h.im
  refine ⟨v, .ty "int", _, _, isInt d, rfl, .ty "int", ht, ?_, q⟩
  rcases k with ⟨rfl, i, rfl⟩ | ⟨rfl, i, rfl⟩ | ⟨rfl, i, rfl⟩ | ⟨rfl, rfl⟩ | ⟨rfl, i, rfl⟩
  · exact kit_ty kit_i1
  · exact kit_ty kit_i2
  · exact kit_ty kit_i3
  · exact kit_ty kit_i4
  · exact kit_ty kit_i5
/-- t + u of tuples -/
theorem rd_cat {a b : Addr} {xs ys : List V} (ha : SqT K H a xs) (hb : SqT K H b ys) (hs : xs.length + ys.length ≤ sizeLine)
    (h : ∀ p H', Mv [] H H' → SqT K H' p (xs ++ ys) → Q (.ref p) H') : rAddG K (.ref a) (.ref b) H Q := by
  refine Or.inr (Or.inr (Or.inl ⟨a, b, xs, ys, rfl, rfl, ha, hb, hs, fun e => ?_, fun _ e => ?_, fun _ _ p np => ?_⟩))
  · subst e
    exact h b H .refl hb
  · subst e
    exact h a H .refl (by rw [List.append_nil]; exact ha)
  · exact h p _ (.new np) (.inl (.inl upd_same))
/-- list + list -/
theorem rd_catL {a b : Addr} {xs ys : List V} (ha : H a = some (.lst xs)) (hb : H b = some (.lst ys)) (hs : xs.length + ys.length ≤ sizeLine)
    (h : ∀ p H', H p = none → Mv [] H H' → H' p = some (.lst (xs ++ ys)) → Q (.ref p) H') : rAddG K (.ref a) (.ref b) H Q :=
  Or.inr (Or.inr (Or.inr ⟨a, b, xs, ys, rfl, rfl, ha, hb, hs, fun p np => h p _ np (.new np) upd_same⟩))
/-- an item of a list -/
theorem rd_ixL {a : Addr} {xs : List V} {i : Int} {v : V} (ha : SqL K H a xs) (h0 : 0 ≤ i) (hv : xs[i.toNat]? = some v) (h : Q v H) : rIx K (.ref a) (.int i) H Q := by
  obtain ⟨j, rfl⟩ := Int.eq_ofNat_of_zero_le h0
  exact Or.inl ⟨a, xs, j, v, rfl, rfl, ha, atI_nat hv, h⟩
theorem rd_ixT {a : Addr} {xs : List V} {i : Int} {v : V} (ha : SqT K H a xs) (h0 : 0 ≤ i) (hv : xs[i.toNat]? = some v) (h : Q v H) : rIx K (.ref a) (.int i) H Q := by
  obtain ⟨j, rfl⟩ := Int.eq_ofNat_of_zero_le h0
  exact Or.inr (Or.inl ⟨a, xs, j, v, rfl, rfl, ha, atI_nat hv, h⟩)
theorem rd_len {a : Addr} {xs : List V} (ha : SqL K H a xs ∨ SqT K H a xs) (h : Q (.int xs.length) H) : rLenG K [.ref a] H Q := Or.inl ⟨a, xs, rfl, ha, h⟩
/-- tuple(list) -/
theorem rd_tupOf {a : Addr} {xs : List V} (ha : SqL K H a xs) (h : ∀ p H', Mv [] H H' → SqT K H' p xs → Q (.ref p) H') : rTupOf K [.ref a] H Q :=
  ⟨a, xs, rfl, .inl ⟨ha, fun p np => h p _ (.new np) (.inl (.inl upd_same))⟩⟩
/-- list(x) -/
theorem rd_listOf {a : Addr} {xs : List V} (ha : SqL K H a xs ∨ SqT K H a xs) (h : ∀ p H', H p = none → Mv [] H H' → H' p = some (.lst xs) → Q (.ref p) H') : rListOf K [.ref a] H Q :=
  ⟨a, xs, rfl, ha, fun p np => h p _ np (.new np) upd_same⟩
/-- a written tuple, a written list -/
theorem rd_tup {ta : TA} (h : ta σ H fun xs H1 => xs.length ≤ sizeLine ∧ ∀ p H', H1 p = none → Mv [] H1 H' → SqT K H' p xs → Q (.ref p) H') (mono : ∀ {R S : List V → Hp → Prop}, (∀ xs H1, R xs H1 → S xs H1) → ta σ H R → ta σ H S) : tTup ta σ H Q :=
  mono (fun xs H1 k => ⟨k.1, fun p np => k.2 p _ np (.new np) (.inl (.inl upd_same))⟩) h
/-- t[1:], t[:1] of a tuple that is not empty -/
theorem rd_sl1 {a : Addr} {x : V} {xs : List V} (ha : SqT K H a (x :: xs)) (h : ∀ p H', Mv [] H H' → SqT K H' p xs → Q (.ref p) H') : rSlG K (.ref a) (some 1) none H Q := by
  have e : HT.sIx (x :: xs).length 0 (some 1) = 1 := by
    rw [show HT.sIx (x :: xs).length 0 (some 1) = min 1 (x :: xs).length from HT.sIx_nat _ 0 1, List.length_cons]
    omega
  refine Or.inr (Or.inl ⟨a, x :: xs, rfl, ha, fun z => ?_, fun _ p np => h p _ (.new np) (.inl (.inl ?_))⟩)
  · rw [e] at z
    omega
  · rw [upd_same]
    unfold cutV
    rw [e, HT.sIx_none, List.length_cons, Nat.add_sub_cancel]
    show some (HO.tup (xs.take xs.length)) = _
    rw [List.take_length]
theorem rd_slA {a : Addr} {x : V} {xs : List V} (ha : SqT K H a (x :: xs)) (h : ∀ p H', Mv [] H H' → SqT K H' p [x] → Q (.ref p) H') : rSlG K (.ref a) none (some 1) H Q := by
  have e : HT.sIx (x :: xs).length (x :: xs).length (some 1) = 1 := by
    rw [show HT.sIx (x :: xs).length (x :: xs).length (some 1) = min 1 (x :: xs).length from HT.sIx_nat _ _ 1, List.length_cons]
    omega
  refine Or.inr (Or.inl ⟨a, x :: xs, rfl, ha, fun z => ?_, fun _ p np => h p _ (.new np) (.inl (.inl ?_))⟩)
  · rw [e] at z
    have e0 : xs = [] := by
      cases xs with
      | nil => rfl
      | cons y ys =>
        have := z.2
        simp at this
    subst e0
    exact h a H .refl ha
  · rw [upd_same]
    unfold cutV
    rw [e, HT.sIx_none]
    rfl
end

/-! loops over a list or a tuple that stays -/
section
variable {K : PySem.W.Frag} {a : Addr} {xs : List V}
theorem for_seq {g : TG} {tb : TS} {D : Ends} {σ : L2.St} {H : Hp} (hS : SqL K H a xs ∨ SqT K H a xs) (Pv : Nat → L2.St → Hp → Prop) (h0 : Pv 0 σ H) (hk : ∀ i σ' H', Pv i σ' H' → Mv [] H H')
    (hs : ∀ i x σ' H', xs[i]? = some x → Pv i σ' H' → g x σ' H' fun σ2 H2 => tb { D with nx := Pv (i + 1), ct := Pv (i + 1), bk := D.nx } σ2 H2) (hd : ∀ σ' H', Pv xs.length σ' H' → D.nx σ' H') :
    ((∃ xs, SqL K H a xs) ∧ ∃ W : Nat → Nat → L2.St → Hp → Prop, (∃ m, W 0 m σ H) ∧ ∀ i m σ H, W i m σ H →
      ((Itl K a).stop i H ∧ D.nx σ H) ∨ ((Itl K a).go i H ∧ ∃ N : L2.St → Hp → Prop, (∀ σ' H', N σ' H' → ∃ m', m' < m ∧ W (i + 1) m' σ' H') ∧ ∀ x H', (Itl K a).yld i H x H' → g x σ H' fun σ2 H2 => tb { D with nx := N, ct := N, bk := D.nx } σ2 H2)) ∨
    ((∃ xs, SqT K H a xs) ∧ ∃ W : Nat → Nat → L2.St → Hp → Prop, (∃ m, W 0 m σ H) ∧ ∀ i m σ H, W i m σ H →
      ((Itt K a).stop i H ∧ D.nx σ H) ∨ ((Itt K a).go i H ∧ ∃ N : L2.St → Hp → Prop, (∀ σ' H', N σ' H' → ∃ m', m' < m ∧ W (i + 1) m' σ' H') ∧ ∀ x H', (Itt K a).yld i H x H' → g x σ H' fun σ2 H2 => tb { D with nx := N, ct := N, bk := D.nx } σ2 H2)) := by
  rcases hS with hS | hS
  · exact .inl ⟨⟨xs, hS⟩, for_list Pv h0 (fun i σ' H' _ p => (hk i σ' H' p).same.seq hS) hs hd⟩
  · exact .inr ⟨⟨xs, hS⟩, for_tup Pv h0 (fun i σ' H' _ p => (hk i σ' H' p).sqT hS) hs hd⟩
theorem lc_seq {g : TG} {tt : TT} {te : TE} {vs : List Nat} {σ : L2.St} {H : Hp} {Qd : Addr → Hp → Prop} (hS : SqL K H a xs ∨ SqT K H a xs) (Pv : Nat → Addr → Hp → Prop) (h0 : ∀ D, H D = none → Pv 0 D (upd H D (.lst [])))
    (hk : ∀ i D H', H D = none → Pv i D H' → Mv [] H H')
    (hs : ∀ D, H D = none → ∀ i x H', xs[i]? = some x → Pv i D H' → g x (wipe σ vs) H' fun σ2 H2 => wipe σ2 vs = wipe σ vs ∧ tt σ2 H2 fun b H3 =>
      if b = true then te σ2 H3 fun y H4 => ∃ acc, H4 D = some (.lst acc) ∧ acc.length < sizeLine ∧ Pv (i + 1) D (upd H4 D (.lst (acc ++ [y]))) else Pv (i + 1) D H3) (hd : ∀ D H', H D = none → Pv xs.length D H' → Qd D H') :
    ((∃ xs, SqL K H a xs) ∧ ∀ D, H D = none → ∃ W : Nat → Nat → Hp → Prop, (∃ m, W 0 m (upd H D (.lst []))) ∧ ∀ i m H, W i m H →
      ((Itl K a).stop i H ∧ Qd D H) ∨ ((Itl K a).go i H ∧ ∃ Nx : Hp → Prop, (∀ H', Nx H' → ∃ m', m' < m ∧ W (i + 1) m' H') ∧ ∀ x H', (Itl K a).yld i H x H' → g x (wipe σ vs) H' fun σ2 H2 => wipe σ2 vs = wipe σ vs ∧ tt σ2 H2 fun b H3 =>
        if b = true then te σ2 H3 fun y H4 => ∃ acc, H4 D = some (.lst acc) ∧ acc.length < sizeLine ∧ Nx (upd H4 D (.lst (acc ++ [y]))) else Nx H3)) ∨
    ((∃ xs, SqT K H a xs) ∧ ∀ D, H D = none → ∃ W : Nat → Nat → Hp → Prop, (∃ m, W 0 m (upd H D (.lst []))) ∧ ∀ i m H, W i m H →
      ((Itt K a).stop i H ∧ Qd D H) ∨ ((Itt K a).go i H ∧ ∃ Nx : Hp → Prop, (∀ H', Nx H' → ∃ m', m' < m ∧ W (i + 1) m' H') ∧ ∀ x H', (Itt K a).yld i H x H' → g x (wipe σ vs) H' fun σ2 H2 => wipe σ2 vs = wipe σ vs ∧ tt σ2 H2 fun b H3 =>
        if b = true then te σ2 H3 fun y H4 => ∃ acc, H4 D = some (.lst acc) ∧ acc.length < sizeLine ∧ Nx (upd H4 D (.lst (acc ++ [y]))) else Nx H3)) := by
  rcases hS with hS | hS
  · exact .inl ⟨⟨xs, hS⟩, fun D nD => lc_list (Pv · D) (h0 D nD) (fun i H' _ p => (hk i D H' nD p).same.seq hS) (hs D nD) (fun H' p => hd D H' nD p)⟩
  · exact .inr ⟨⟨xs, hS⟩, fun D nD => lc_tup (Pv · D) (h0 D nD) (fun i H' _ p => (hk i D H' nD p).sqT hS) (hs D nD) (fun H' p => hd D H' nD p)⟩
end
end Fm
namespace Fm
open PySem PySem.Spec PyProof.Rows L2 HT
/-! t[:0:-1] of a tuple -/
section
variable {prog : Program} {w : World} {A : Around} {E : Value → Shared → Prop} {s : Shared}
theorem back_adjust (n : Nat) : Builtin.Slice.sliceAdjust none (some 0) (-1) (n : Int) = ((n : Int) - 1, min 0 ((n : Int) - 1)) := by
  unfold Builtin.Slice.sliceAdjust
  simp only [show ((-1 : Int) < 0) from by decide, if_true, show ¬ ((0 : Int) < 0) from by decide, if_false]
theorem back_places (n : Nat) : Builtin.Slice.slicePlaces ((n : Int) - 1) (min 0 ((n : Int) - 1)) (-1) = n - 1 := by
  unfold Builtin.Slice.slicePlaces
  simp only [show ¬ ((-1 : Int) > 0) from by decide, if_false, show (- -1 : Int) = 1 from by decide, Int.ediv_one]
  split <;> omega
theorem back_applied {sl : Addr} {vu vs : Value} {n : Nat} {Q : Int × Int × Nat → Shared → Prop} (hs : s.heap.IsSliceOf sl .none vu vs) (pu : IsPart vu (some 0)) (ps : IsPart vs (some (-1)))
    (h : Q ((n : Int) - 1, -1, n - 1) s) : wpAny (model prog w) A (Builtin.Slice.sliceApplied (.ref sl) (pure (n : Int))) Q E s := by
  obtain ⟨os, hos, hcs, hds⟩ := id hs
  unfold Builtin.Slice.sliceApplied Builtin.Slice.sliceFields
  refine wpAny_bind (wpAny_bind (wpAny_field hos hds (x := .none) rfl (wpAny_bind (wpAny_field hos hds (x := vu) rfl (wpAny_bind (wpAny_field hos hds (x := vs) rfl (wpAny_pure ?_)))))))
  refine wpAny_bind (slicePart_ ps ?_)
  show wpAny _ _ (if ((-1 : Int) == 0) = true then _ else _) _ _ s
  rw [if_neg (by decide)]
  refine wpAny_bind (slicePart_none (wpAny_bind (slicePart_ pu (wpAny_bind (wpAny_pure ?_)))))
  show wpAny _ _ (match Builtin.Slice.sliceAdjust none (some 0) (-1) (n : Int) with | (lo, hi) => pure (lo, (-1 : Int), Builtin.Slice.slicePlaces lo hi (-1))) _ _ s
  rw [back_adjust n]
  show wpAny _ _ (pure ((n : Int) - 1, (-1 : Int), Builtin.Slice.slicePlaces ((n : Int) - 1) (min 0 ((n : Int) - 1)) (-1))) _ _ s
  rw [back_places]
  exact wpAny_pure h
theorem fm_congr {α β : Type} {f g : α → Option β} : ∀ {l : List α}, (∀ m ∈ l, f m = g m) → l.filterMap f = l.filterMap g
  | [], _ => rfl
  | x :: l, h => by
    rw [List.filterMap_cons, List.filterMap_cons, h x List.mem_cons_self, fm_congr fun m hm => h m (List.mem_cons_of_mem _ hm)]
theorem back_pick (y : Value) (l : List Value) : ((List.range l.length).filterMap fun (m : Nat) => (y :: l).toArray[((((y :: l).toArray.size : Nat) : Int) - 1 + (m : Int) * (-1)).toNat]?).toArray = l.reverse.toArray := by
  congr 1
  have e : ∀ m ∈ List.range l.length, (y :: l).toArray[((((y :: l).toArray.size : Nat) : Int) - 1 + (m : Int) * (-1)).toNat]? = l[l.length - 1 - m]? := by
    intro m hm
    have hm := List.mem_range.mp hm
    have e1 : ((((y :: l).toArray.size : Nat) : Int) - 1 + (m : Int) * (-1)).toNat = (l.length - 1 - m) + 1 := by
      simp only [List.size_toArray, List.length_cons]
      omega
    rw [e1]
    simp
  rw [fm_congr e]
  apply List.ext_getElem?
  intro i
  have e2 : (List.range l.length).filterMap (fun m => l[l.length - 1 - m]?) = (List.range l.length).filterMap (fun m => l.reverse[m]?) := by
    apply fm_congr
    intro m hm
    have hm := List.mem_range.mp hm
    rw [List.getElem?_reverse hm]
  rw [e2]
  have e3 : (List.range l.length).filterMap (fun m => l.reverse[m]?) = l.reverse := by
    have := PySem.W.krv_all l.reverse.toArray
    simpa using this
  rw [e3]
theorem getItem_back {t sl : Addr} {y : Value} {l : List Value} {vu vs : Value} {Q : Value → Shared → Prop} (ht : IsTup s.heap t (y :: l).toArray) (hs : s.heap.IsSliceOf sl .none vu vs) (pu : IsPart vu (some 0)) (ps : IsPart vs (some (-1)))
    (hz : l.length ≤ sizeLine) (h : Q (.ref s.heap.objs.size) { s with heap := s.heap.push { cls := .type "tuple", data := .seq l.reverse.toArray } }) : wpAny (model prog w) A (getItem (.ref t) (.ref sl)) Q E s := by
  obtain ⟨os, hos, hcs, hds⟩ := id hs
  have hTs : s.TypeIs (.ref sl) "slice" := ⟨os, hos, hcs⟩
  have hfit : sizeOk (.seq l.reverse.toArray) := by
    show l.reverse.toArray.size ≤ sizeLine
    rw [List.size_toArray, List.length_reverse]
    exact hz
  unfold getItem
  try with_reducible refine wpAny_holding ?_
  first | refine wpAny_bind (wpAny_pure ?_) | skip
  refine wpAny_bind (wpAny_sequenceKey ht.typeIs (by decide) ?_)
  refine wpAny_bind (wpAny_callSpecial?_slot (name := Str.ofString "__getitem__") ht.typeIs PyProof.Rows.slot_tuple_getitem
    (wpAny_call_entry PyProof.Rows.slot_tuple_getitem ht.typeIs entry_tuple_getitem ?_ (args_tuple_getitem _ _)))
  show wpAny _ _ (Builtin.Tuple.tupleItemsOf (.ref t) >>= _) _ _ s
  refine wpAny_bind (tupleItemsOf_ ht (wpAny_bind (wpAny_typeOf hTs ?_)))
  rw [if_pos (by decide)]
  refine wpAny_bind (back_applied hs pu ps ?_)
  have hno : ¬ (((((y :: l).toArray.size : Nat) : Int) - 1 == 0 && (-1 : Int) == 1 && ((y :: l).toArray.size - 1) == (y :: l).toArray.size) = true) := by
    simp
  show wpAny _ _ (if ((((y :: l).toArray.size : Nat) : Int) - 1 == 0 && (-1 : Int) == 1 && ((y :: l).toArray.size - 1) == (y :: l).toArray.size) = true then _ else _) _ _ s
  rw [if_neg hno]
  have e : (y :: l).toArray.size - 1 = l.length := by simp
  rw [e, back_pick]
  first
    | exact wpAny_bind (m := Builtin.Tuple.tupleExact _) (wpAny_newObj_type (wpAny_pure ⟨_, rfl, wpAny_pure h⟩) hfit)
    | exact wpAny_bind (m := Builtin.Tuple.tupleExact _) (wpAny_newObj_type (wpAny_bind (wpAny_pure (wpAny_pure ⟨_, rfl, wpAny_pure h⟩))) hfit)
    | exact wpAny_bind (wpAny_bind (m := Builtin.Tuple.tupleExact _) (wpAny_newObj_type (wpAny_pure (wpAny_pure ⟨_, rfl, wpAny_pure h⟩)) hfit))
    | exact wpAny_bind (wpAny_bind (m := Builtin.Tuple.tupleExact _) (wpAny_newObj_type (wpAny_pure ⟨_, rfl, wpAny_pure h⟩) hfit))
end
section
variable {X : Cx}
def tBack (K : PySem.W.Frag) (te : TE) : TE := fun σ H Q => te σ H fun x H1 => ∃ a y ys, x = .ref a ∧ SqT K H1 a (y :: ys) ∧ ∀ p, H1 p = none → Q (.ref p) (upd H1 p (.tup ys.reverse))
theorem pe_slice3 {e : Expr} {te : TE} {k k0 : Nat} {p0 p1 p2 p3 pos : Pos} (he : PE X e te) :
    PE X (.Subscript e (.Slice none (some (.Constant (.int 0) k0 p0)) (some (.UnaryOp .USub (.Constant (.int 1) k p1) p2)) p3) pos) (tBack X.K te) := by
  refine ⟨fun pins s σ H Q I h => Subscript_ (thn (he.run pins s σ H _ I h) ?_)⟩
  rintro v s1 ⟨x, H1, I1, r1, a, y, ys, rfl, hx, q⟩
  cases r1
  have hup : PO X (some (.Constant (.int 0) k0 p0)) (tPart (tC (.int 0))) := po_some pe_int
  have hst : PO X (some (.UnaryOp .USub (.Constant (.int 1) k p1) p2)) (tPart (tUn (rU fun i => .int (-i)) (tC (.int 1)))) := po_some (pe_un un_neg pe_int)
  refine wpAny_Slice (thn (po_none.run pins s1 σ H1 (fun o H2 => o = none ∧ H2 = H1) I1 ⟨rfl, rfl⟩) ?_)
  rintro vl s2 ⟨l, H2, I2, pl, rfl, rfl⟩
  refine thn (hup.run pins s2 σ H2 (fun o H3 => o = some 0 ∧ H3 = H2) I2 ⟨0, rfl, rfl, rfl⟩) ?_
  rintro vu s3 ⟨u, H3, I3, pu, rfl, rfl⟩
  refine thn (hst.run pins s3 σ H3 (fun o H4 => o = some (-1) ∧ H4 = H3) I3 ⟨1, rfl, -1, rfl, rfl, rfl⟩) ?_
  rintro vs s4 ⟨o, H4, I4, ps, rfl, rfl⟩
  have I5 : Inv X pins σ H4 { s4 with heap := s4.heap.push { cls := .type "slice", data := .fields #[vl, vu, vs] } } := I4.kept (t' := s4.toks) fun b ob q => Heap.get?_push_of_some _ q
  obtain ⟨its, r, ht, hz⟩ := I5.tuple hx
  cases pl
  cases r with
  | @cons _ uy _ us ry rs =>
    have hl := rs.length
    show wpAny (model X.prog X.w) X.A (subscriptTail e (.Slice none (some (.Constant (.int 0) k0 p0)) (some (.UnaryOp .USub (.Constant (.int 1) k p1) p2)) p3) (.ref a) (.ref s4.heap.objs.size)) (EP X pins σ Q) X.xe { s4 with heap := s4.heap.push { cls := .type "slice", data := .fields #[.none, vu, vs] } }
    refine tail_any (ops := [.ref a, .ref s4.heap.objs.size]) ht.typeIs (PyProof.Rows.slot_tuple_getitem.lookup) ?_ (by with_unfolding_all rfl)
    have hz' : us.length ≤ sizeLine := by
      rw [List.length_cons] at hz
      omega
    refine getItem_back ht (Heap.IsSliceOf.new _ .none vu vs) pu ps hz' ?_
    refine ⟨.ref _, _, I5.laid (t' := s4.toks) (o := .tup ys.reverse) (fun b ob q => Heap.get?_push_of_some _ q) (Nat.le_refl _) ?_, rfl, q _ (I5.hok.fresh (Nat.le_refl _))⟩
    exact ⟨by rw [List.length_reverse]; omega, _, Vals.reverse rs, IsTup.new _ _⟩
end
end Fm
namespace Fm
open PySem PySem.Spec PyProof.Rows L2
/-! set(xs) of a list of ints -/
section
variable {P : Program} {w : World} {A : Around} {E : Value → Shared → Prop} {s : Shared}
/-- the empty set as it is laid -/
abbrev eset (w : World) : Obj := { cls := .type "set", dict := none, data := .set #[] 0 (.fresh 0 0 (!w.params.followText "set-order")) }
abbrev hset (w : World) (h : Heap) : Heap := h.push (eset w)
set_option maxHeartbeats 8000000 in
theorem set_of_list {l : Addr} {its : Array Value} (ns : List Int) {Q : Value → Shared → Prop} (hh : A.handled = none) (hl : s.heap.IsList l its) (hi : IntsAre its.toList ns) (hb : ns.length + 1 < scanBound)
    (h : ∀ (g : Heap) (tk c : Nat), SetR w g s.heap.objs.size (fun j => decide (j ∈ ns)) c → (∀ b o, s.heap.get? b = some o → g.get? b = some o) → Q (.ref s.heap.objs.size) { s with heap := g, toks := tk }) :
    wpAny (model P w) A (call (.type "set") [.ref l]) Q E s := by
  have hn : its.size = ns.length := by rw [← Array.length_toList]; exact IntsAre.length hi
  obtain ⟨mc, mt, mro⟩ := F.called_set.mro
  have mk1 := F.called_set.made
  have mk2 := F.called_set.sub
  refine wpAny_call (codeAny_of_tree (show wpAny _ _ (callAny (.type "set") _) _ _ _ from wpAny_pure ⟨Code.quiet_builtin _ (by decide +kernel), codeAny_builtin F.entry_type_call ?_⟩))
  rw [Around.under_plain (weight_type_call_type "set" [.ref l] []) rfl]
  have mk3 := F.called_set.notType
  have mk4 := F.called_set.canCreate
  have mk5 := F.typeCall_set_1 (.ref l)
  repeat (any_goals (first | assumption | wp_step))
  refine codeAny_mono (code_set_led1 (w := w) (s := s) (.ref l) (E := E)
    (Q₁ := fun obj s₁ => obj = .ref s.heap.objs.size ∧ s₁ = { s with heap := hset w s.heap }) ⟨rfl, rfl⟩) fun r s₁ hr => ?_
  match r, hr with
  | .error e, hr => exact hr
  | .ok (.ret obj), hr =>
    obtain ⟨rfl, rfl⟩ := hr
    have here : (hset w s.heap).get? s.heap.objs.size = some (eset w) := Heap.get?_push_size _ rfl
    have isS : Shared.TypeIs { s with heap := hset w s.heap } (.ref s.heap.objs.size) "set" := ⟨_, here, rfl⟩
    have in1 := F.called_set.init.lookup
    have in2 := F.called_set.init.bind (.ref s.heap.objs.size)
    repeat (any_goals (first | assumption | wp_step))
    have goes : codeAny (model P w) A.in1 (.call (.builtin "set.__init__") ⟨[.ref s.heap.objs.size, .ref l], []⟩) (wants (fun r s₂ => r = .none ∧ ∃ g tk c,
        s₂ = { s with heap := g, toks := tk } ∧ SetR w g s.heap.objs.size (fun j => decide (j ∈ ns)) c ∧ ∀ b o, s.heap.get? b = some o → g.get? b = some o) E) { s with heap := hset w s.heap } := by
      refine codeAny_call_builtin F.called_set.init.plain F.entry_set_init (check_set_init_1 isS ?_)
      obtain ⟨⟨oc, od, dt, sl⟩, hol, hcl, nl, hdl⟩ := id hl
      simp only at hcl hdl
      subst hcl hdl
      have lt := Heap.lt_size hol
      have hol2 : (hset w s.heap).get? l = some _ := Heap.get?_push_of_some _ hol
      have hl2 : (hset w s.heap).IsList l its := ⟨_, hol2, rfl, nl, rfl⟩
      have no1 := F.sub_list_set
      have no2 := F.sub_list_frozenset
      have no3 : (Value.type "list" == Value.type "dict") = false := by decide
      unfold Builtin.«set.__init__» noKeywords Builtin.Frozenset.updateFrom
      generalize hPI : pyIter = PI
      wp_walk
      subst hPI
      refine wpAny_pyIter_list hl2 (wpAny_bind (wpAny_runValue ?_))
      have sz2 : (hset w s.heap).objs.size = s.heap.objs.size + 1 := Heap.size_push ..
      have neI : l ≠ (hset w s.heap).objs.size := by
        rw [sz2]
        exact Nat.ne_of_lt (Nat.lt_succ_of_lt lt)
      have notIn : s.heap.objs.size ∉ [(hset w s.heap).objs.size, l] := by
        rw [sz2]
        intro z
        rcases List.mem_cons.mp z with z | z
        · exact Nat.ne_of_lt (Nat.lt_succ_self _) z
        · exact Nat.ne_of_gt lt (List.mem_singleton.mp z)
      have val : ∀ (i : Nat) (v : Value), its[i]? = some v → ∃ k t, ns[i]? = some k ∧ v = .int k t := fun i v hv => by
        have hi' : i < ns.length := by
          rw [← hn]
          exact (Array.getElem?_eq_some_iff.mp hv).1
        obtain ⟨t, e⟩ := PyProof.Rows.IntsAre.int_at hi i v (by rw [Array.getElem?_toList]; exact hv)
        have e2 : ns.getD i 0 = ns[i] := by rw [List.getD_eq_getElem?_getD, List.getElem?_eq_getElem hi']; rfl
        exact ⟨ns[i], t, List.getElem?_eq_getElem hi', by rw [e, e2]⟩
      have hh3 : A.in1.in1.in1.handled = none := by simp [hh]
      refine set_update_ints ((Walks.list hh3 _ l neI its).toS) s.heap.objs.size notIn ns hn hb val (its.size - 0) 0 _ (by omega) (Nat.zero_le _) ?st ?s0 ?fin
      case st => exact ⟨⟨_, Heap.get?_push_size _ rfl, rfl, rfl⟩, hl2.push _⟩
      case s0 => exact ⟨0, Nat.le_refl 0, setR_new_at (Heap.get?_push_of_some _ here)⟩
      case fin =>
        rintro ⟨g, gg, dd, tk, oo⟩ c' mv hc' hS'
        have e1 : gg = s.gens := mv.gens
        have e2 : dd = s.drawn := mv.drawn
        have e3 : oo = s.os := mv.os
        subst e1 e2 e3
        refine wpAny_pure (show wpAny _ _ (ret Value.none) _ _ _ from wpAny_pure ⟨rfl, g, tk, c', rfl, hS', fun b o e => ?_⟩)
        have b0 := Heap.lt_size e
        refine mv.heap b o (fun z => ?_) (Heap.get?_push_of_some _ (Heap.get?_push_of_some _ e))
        rcases List.mem_cons.mp z with z | z
        · exact Nat.ne_of_lt b0 z
        · have z2 := List.mem_singleton.mp z
          rw [sz2] at z2
          exact Nat.ne_of_lt (Nat.lt_succ_of_lt b0) z2
    refine codeAny_mono goes fun r₂ s₂ hr₂ => ?_
    match r₂, hr₂ with
    | .error e, hr₂ => exact hr₂
    | .ok (.ret r), hr₂ =>
      obtain ⟨rfl, g, tk, c', rfl, hS', hk'⟩ := hr₂
      repeat (any_goals (first | assumption | wp_step))
      exact h _ _ _ hS' hk'
end
section
variable {X : Cx}
/-- set(xs): its numbers; sorted(set) -/
def rSetOfL (K : PySem.W.Frag) (w : World) : List V → Hp → VK → Prop := fun xs H Q => ∃ (l : Addr) (ns : List Int), xs = [V.ref l] ∧ SqL K H l (ns.map V.int) ∧ ns.length ≤ 4000 ∧
  ∀ p (n : Nat) (ks : List Int), H p = none → ks.Nodup → ks.length = n → (∀ k, k ∈ ks ↔ k ∈ ns) → Q (.ref p) (upd H p (SetO w p (fun j => decide (j ∈ ns)) n))
theorem cr_setG (hc : X.calm = true) : CallR X (.type "set") (rSetOfL X.K X.w) := by
  intro pins s σ H xs us Q I r h
  obtain ⟨l, ns, rfl, hl, hb, q⟩ := h
  rw [Vals.ref1 r]
  obtain ⟨its, rv, pl, hz⟩ := I.list hl
  refine set_of_list ns (I.ok.hd hc) pl.isList (by simpa using intsAre_of rv) (Nat.lt_of_le_of_lt (Nat.succ_le_succ hb) (by decide)) fun g tk c R hk => ?_
  obtain ⟨o, es, ep, t, h1, h2, h3, h4, h5, h6, h7, h8, h9, h10⟩ := id R
  refine ⟨.ref _, upd H s.heap.objs.size (SetO X.w s.heap.objs.size (fun j => decide (j ∈ ns)) c), I.laid (t' := tk) hk (Nat.le_refl _) (setO_new R), rfl, ?_⟩
  refine q _ c (es.toList.map keyOf) (I.hok.fresh (Nat.le_refl _)) h5 (by rw [List.length_map, Array.length_toList]; exact h9) fun k => ?_
  rw [← h6 k]
  simp
theorem cr_sortedG (hc : X.calm = true) : CallR X (.builtin "sorted") (fun xs H Q => rSortedSet X.w xs H Q ∨ rSorted X.K xs H Q) := CallR.or (cr_sortedSet hc) cr_sorted
end
end Fm
namespace Fm
open PySem PySem.Spec PyProof.Rows L2
/-! data that can be compared and shown -/
mutual
def fine : PyData → Prop
  | .none => True
  | .bool _ => True
  | .int i => i.natAbs < 10 ^ 40
  | .str x => PyData.strOk x = true
  | .list xs => fineAll xs
  | .tuple xs => fineAll xs
  | .dict _ => False
def fineAll : List PyData → Prop
  | [] => True
  | x :: xs => fine x ∧ fineAll xs
end
mutual
/-- what its text may come to -/
def wl : PyData → Nat
  | .none => 4
  | .bool _ => 5
  | .int _ => 41
  | .str x => 10 * x.length + 2
  | .list xs => wls xs + 2
  | .tuple xs => wls xs + 2
  | .dict _ => 0
def wls : List PyData → Nat
  | [] => 0
  | x :: xs => wl x + 2 + wls xs
end
theorem fineAll_iff : ∀ {xs : List PyData}, fineAll xs ↔ ∀ x ∈ xs, fine x
  | [] => by simp [fineAll]
  | x :: xs => by simp [fineAll, fineAll_iff]
theorem listText_le : ∀ ts : List Str, (listText ts).length ≤ piled ts + 2
  | [] => by rw [listText_nil]; decide
  | t :: r => by
    have h := textFrom_length_pos r 1 (("[" : Str) ++ ("" : String) ++ t) (Nat.succ_pos 0)
    have e : ((("[" : Str) ++ ("" : String) ++ t)).length = 1 + t.length := by
      rw [strLen_append, strLen_append]
      rfl
    have x1 : (listText (t :: r)).length = (textFrom 1 (("[" : Str) ++ ("" : String) ++ t) r).length + 1 := by
      show (textFrom 1 (("[" : Str) ++ ("" : String) ++ t) r ++ "]").length = _
      rw [strLen_append]
      rfl
    rw [x1, h, e, piled_cons]
    omega
theorem tupleText_le (ts : List Str) : (tupleText ts).length ≤ piled ts + 2 := by
  have e3 : (((if ts.length == 1 then ",)" else ")" : String) : Str)).length ≤ 2 := by split <;> decide +kernel
  have e1 : ((("(" : String) : Str)).length = 1 := rfl
  unfold tupleText
  rw [strLen_append, strLen_append, e1]
  cases ts with
  | nil => decide +kernel
  | cons t r =>
    have := join_length_add (t :: r) (by simp)
    omega
mutual
theorem shown_le : ∀ d : PyData, fine d → d.shown.length ≤ wl d
  | .none, _ => by simp only [PyData.shown]; decide
  | .bool b, _ => by cases b <;> (simp only [PyData.shown]; decide)
  | .int i, h => by
    simp only [PyData.shown, wl]
    rw [PySem.ofString_length]
    exact int_text_length_le10 (k := 40) (by decide) h
  | .str x, h => by
    simp only [PyData.shown, wl]
    refine StrLaws.reprText_len x fun c hc => ?_
    have h' : x.cps.all (· < 0x110000) = true := h
    rw [Array.all_eq_true_iff_forall_mem] at h'
    have := h' c (by simpa using hc)
    simp at this
    omega
  | .list xs, h => by
    have := shown_les xs h
    have := listText_le (PyData.shownAll xs)
    simp only [PyData.shown, wl]
    omega
  | .tuple xs, h => by
    have := shown_les xs h
    have := tupleText_le (PyData.shownAll xs)
    simp only [PyData.shown, wl]
    omega
  | .dict _, h => h.elim
theorem shown_les : ∀ xs : List PyData, fineAll xs → piled (PyData.shownAll xs) ≤ wls xs
  | [], _ => by simp [PyData.shownAll, piled, wls]
  | x :: xs, h => by
    have h1 := shown_le x h.1
    have h2 := shown_les xs h.2
    simp only [PyData.shownAll, wls]
    rw [piled_cons]
    omega
end
mutual
theorem fine_lay : ∀ d : PyData, fine d → d.canLay0 = true ∧ d.showable = true ∧ d.hasDict = false
  | .none, _ => by simp [PyData.canLay0, PyData.showable, PyData.hasDict]
  | .bool b, _ => by simp [PyData.canLay0, PyData.showable, PyData.hasDict]
  | .int i, h => by
    refine ⟨by simp [PyData.canLay0], ?_, by simp [PyData.hasDict]⟩
    have h' : i.natAbs < 10 ^ 40 := h
    have h2 : i.natAbs < 2 ^ 200 := Nat.lt_trans h' (by decide)
    simp only [PyData.showable, decide_eq_true_eq]
    exact Nat.lt_trans (PySem.Flt.log2_lt_of (by decide) h2) (by decide)
  | .str x, h => ⟨by simp only [PyData.canLay0]; exact h, by simp [PyData.showable], by simp [PyData.hasDict]⟩
  | .list xs, h => by simpa [PyData.canLay0, PyData.showable, PyData.hasDict] using fine_lays xs h
  | .tuple xs, h => by simpa [PyData.canLay0, PyData.showable, PyData.hasDict] using fine_lays xs h
  | .dict _, h => h.elim
theorem fine_lays : ∀ xs : List PyData, fineAll xs → PyData.canLayAll0 xs = true ∧ PyData.showableAll xs = true ∧ PyData.hasDictAll xs = false
  | [], _ => by simp [PyData.canLayAll0, PyData.showableAll, PyData.hasDictAll]
  | x :: xs, h => by
    obtain ⟨a, b, c⟩ := fine_lay x h.1
    obtain ⟨a', b', c'⟩ := fine_lays xs h.2
    simp [PyData.canLayAll0, PyData.showableAll, PyData.hasDictAll, a, b, c, a', b', c']
end
structure Shw (d : PyData) : Prop where
  fi : fine d
  dp : d.depth ≤ 60
  wl : wl d ≤ 16000000
theorem Shw.shaped {d : PyData} (h : Shw d) : SeqAt.shaped d = true := by
  show (d.canLay0 && decide (d.depth ≤ 64)) = true
  have := h.dp
  rw [(fine_lay d h.fi).1, decide_eq_true (by omega)]
  rfl
theorem Shw.len {d : PyData} (h : Shw d) : d.shown.length ≤ sizeLine := by
  have := shown_le d h.fi
  have := h.wl
  have e : sizeLine = 16777216 := rfl
  omega
theorem Shw.eqv {d : PyData} (h : Shw d) : PyData.eqv d d = true := SeqAt.eqv_refl d (fine_lay d h.fi).1
theorem eqv_nil (xs : List PyData) : PyData.eqv (.list xs) (.list []) = xs.isEmpty := by
  cases xs <;> simp [PyData.eqv, PyData.eqvAll]
/-! of terms -/
theorem nm_ok {x : Str} (h : Nm x) : PyData.strOk x = true := by
  show x.cps.all (· < 0x110000) = true
  rw [Array.all_eq_true_iff_forall_mem]
  intro c hc
  have := h.2.2 c (by simpa using hc)
  simp
  omega
mutual
theorem fine_d {P : Int → Prop} (h : ∀ i, P i → i.natAbs < 10 ^ 40) : ∀ t : Tm, t.ok P → fine t.d
  | .var i, k => h i k
  | .op x ts, k => by
    simp only [Tm.d, fine, fineAll]
    exact ⟨nm_ok k.1, fine_ds h ts k.2.2⟩
theorem fine_ds {P : Int → Prop} (h : ∀ i, P i → i.natAbs < 10 ^ 40) : ∀ ts : List Tm, Tm.oks P ts → fineAll (Tm.ds ts)
  | [], _ => trivial
  | t :: ts, k => ⟨fine_d h t k.1, fine_ds h ts k.2⟩
end
mutual
theorem depth_d : ∀ t : Tm, t.d.depth = t.dep
  | .var _ => by simp [Tm.d, PyData.depth, Tm.dep]
  | .op _ ts => by simp [Tm.d, PyData.depth, PyData.depthAll, Tm.dep, depth_ds ts]
theorem depth_ds : ∀ ts : List Tm, PyData.depthAll (Tm.ds ts) = Tm.deps ts
  | [] => by simp [Tm.ds, PyData.depthAll, Tm.deps]
  | t :: ts => by simp [Tm.ds, PyData.depthAll, Tm.deps, depth_d t, depth_ds ts]
end
mutual
theorem wl_d {P : Int → Prop} : ∀ t : Tm, t.ok P → wl t.d ≤ t.cst + 41 * t.lv
  | .var _, _ => by simp [Tm.d, wl, Tm.cst, Tm.lv]
  | .op x ts, k => by
    have h1 := wl_ds ts k.2.2
    have h2 := k.1.2.1
    simp only [Tm.d, wl, wls, Tm.cst, Tm.lv]
    omega
theorem wl_ds {P : Int → Prop} : ∀ ts : List Tm, Tm.oks P ts → wls (Tm.ds ts) ≤ Tm.csts ts + 41 * Tm.lvs ts
  | [], _ => by simp [Tm.ds, wls]
  | t :: ts, k => by
    have h1 := wl_d t k.1
    have h2 := wl_ds ts k.2
    simp only [Tm.ds, wls, Tm.csts, Tm.lvs]
    omega
end
end Fm
namespace Fm
open PySem PySem.Spec PyProof.Rows L2
structure DefAt (K : PySem.W.Frag) (mg : Str → Option Value) (x : Str) (st : Stmt) (ps : List Str) where
  f : Addr
  fd : FuncData
  F : Fun K x x st f fd
  g : mg x = some (.ref f)
  b : Binds K fd ps []
def topS (i : Nat) : Stmt := PySem.Challenge.pw_framemoves_k12_terms_put_in.main.body.getD i (.Pass ⟨0, 0, 0, 0⟩)
abbrev s_put : Stmt := topS 1
abbrev N_put : List Str := ["term", "values", "part"]
abbrev P_put : List Str := ["term", "values"]
theorem sc_put : FnScope N_put P_put (defScope s_put) := ⟨rfl, rfl, rfl, by decide +kernel, rfl, by decide +kernel, by decide +kernel⟩
abbrev s_size : Stmt := topS 2
abbrev N_size : List Str := ["terms", "found", "waiting", "term"]
abbrev P_size : List Str := ["terms"]
theorem sc_size : FnScope N_size P_size (defScope s_size) := ⟨rfl, rfl, rfl, by decide +kernel, rfl, by decide +kernel, by decide +kernel⟩
abbrev s_leaves : Stmt := topS 3
abbrev N_leaves : List Str := ["terms", "found", "waiting", "term"]
abbrev P_leaves : List Str := ["terms"]
theorem sc_leaves : FnScope N_leaves P_leaves (defScope s_leaves) := ⟨rfl, rfl, rfl, by decide +kernel, rfl, by decide +kernel, by decide +kernel⟩
abbrev s_unknowns : Stmt := topS 4
abbrev N_unknowns : List Str := ["terms"]
abbrev P_unknowns : List Str := ["terms"]
theorem sc_unknowns : FnScope N_unknowns P_unknowns (defScope s_unknowns) := ⟨rfl, rfl, rfl, by decide +kernel, rfl, by decide +kernel, by decide +kernel⟩
abbrev s_numbered : Stmt := topS 5
abbrev N_numbered : List Str := ["terms", "numbers", "unknown", "term"]
abbrev P_numbered : List Str := ["terms"]
theorem sc_numbered : FnScope N_numbered P_numbered (defScope s_numbered) := ⟨rfl, rfl, rfl, by decide +kernel, rfl, by decide +kernel, by decide +kernel⟩
abbrev s__law_bag : Stmt := topS 7
abbrev N__law_bag : List Str := ["_law_script", "_law_cell"]
abbrev P__law_bag : List Str := ["_law_script"]
theorem sc__law_bag : FnScope N__law_bag P__law_bag (defScope s__law_bag) := ⟨rfl, rfl, rfl, by decide +kernel, rfl, by decide +kernel, by decide +kernel⟩
abbrev s__law_take : Stmt := topS 8
abbrev N__law_take : List Str := ["_law_bag_here", "_law_many", "_law_cell", "_law_mixed", "_law_value", "_law_begin", "_law_second"]
abbrev P__law_take : List Str := ["_law_bag_here", "_law_many"]
theorem sc__law_take : FnScope N__law_take P__law_take (defScope s__law_take) := ⟨rfl, rfl, rfl, by decide +kernel, rfl, by decide +kernel, by decide +kernel⟩
abbrev s__law_alike : Stmt := topS 9
abbrev N__law_alike : List Str := ["_law_found", "_law_due"]
abbrev P__law_alike : List Str := ["_law_found", "_law_due"]
theorem sc__law_alike : FnScope N__law_alike P__law_alike (defScope s__law_alike) := ⟨rfl, rfl, rfl, by decide +kernel, rfl, by decide +kernel, by decide +kernel⟩
abbrev s__law_names : Stmt := topS 10
abbrev N__law_names : List Str := ["_law_bag_here", "_law_many", "_law_letters", "_law_words", "_law_way", "_law_turn", "_law_base", "_law_at", "_law_k"]
abbrev P__law_names : List Str := ["_law_bag_here", "_law_many"]
theorem sc__law_names : FnScope N__law_names P__law_names (defScope s__law_names) := ⟨rfl, rfl, rfl, by decide +kernel, rfl, by decide +kernel, by decide +kernel⟩
abbrev s__law_term : Stmt := topS 11
abbrev N__law_term : List Str := ["_law_bag_here", "_law_names_here", "_law_many", "_law_deep", "_law_way", "_law_name", "_law_parts", "_law_k"]
abbrev P__law_term : List Str := ["_law_bag_here", "_law_names_here", "_law_many", "_law_deep"]
theorem sc__law_term : FnScope N__law_term P__law_term (defScope s__law_term) := ⟨rfl, rfl, rfl, by decide +kernel, rfl, by decide +kernel, by decide +kernel⟩
abbrev s__law_put : Stmt := topS 12
abbrev N__law_put : List Str := ["_law_term_here", "_law_values", "_law_part"]
abbrev P__law_put : List Str := ["_law_term_here", "_law_values"]
theorem sc__law_put : FnScope N__law_put P__law_put (defScope s__law_put) := ⟨rfl, rfl, rfl, by decide +kernel, rfl, by decide +kernel, by decide +kernel⟩
abbrev s__law_leaves : Stmt := topS 13
abbrev N__law_leaves : List Str := ["_law_terms", "_law_found", "_law_term_here"]
abbrev P__law_leaves : List Str := ["_law_terms"]
theorem sc__law_leaves : FnScope N__law_leaves P__law_leaves (defScope s__law_leaves) := ⟨rfl, rfl, rfl, by decide +kernel, rfl, by decide +kernel, by decide +kernel⟩
abbrev s__law_size : Stmt := topS 14
abbrev N__law_size : List Str := ["_law_terms", "_law_term_here"]
abbrev P__law_size : List Str := ["_law_terms"]
theorem sc__law_size : FnScope N__law_size P__law_size (defScope s__law_size) := ⟨rfl, rfl, rfl, by decide +kernel, rfl, by decide +kernel, by decide +kernel⟩
abbrev s__law_numbered : Stmt := topS 15
abbrev N__law_numbered : List Str := ["_law_terms", "_law_order", "_law_unknown", "_law_numbers", "_law_term_here", "_law_at"]
abbrev P__law_numbered : List Str := ["_law_terms"]
theorem sc__law_numbered : FnScope N__law_numbered P__law_numbered (defScope s__law_numbered) := ⟨rfl, rfl, rfl, by decide +kernel, rfl, by decide +kernel, by decide +kernel⟩
abbrev s__law_great : Stmt := topS 16
abbrev N__law_great : List Str := ["_law_bag_here", "_law_names_here", "_law_term_here", "_law_k", "_law_name"]
abbrev P__law_great : List Str := ["_law_bag_here", "_law_names_here"]
theorem sc__law_great : FnScope N__law_great P__law_great (defScope s__law_great) := ⟨rfl, rfl, rfl, by decide +kernel, rfl, by decide +kernel, by decide +kernel⟩
abbrev s__law_far : Stmt := topS 17
abbrev N__law_far : List Str := ["_law_bag_here", "_law_term_here", "_law_numbers", "_law_k"]
abbrev P__law_far : List Str := ["_law_bag_here", "_law_term_here"]
theorem sc__law_far : FnScope N__law_far P__law_far (defScope s__law_far) := ⟨rfl, rfl, rfl, by decide +kernel, rfl, by decide +kernel, by decide +kernel⟩
abbrev s__law_put_right : Stmt := topS 18
abbrev N__law_put_right : List Str := ["_law_bag_here", "_law_names_here", "_law_terms", "_law_values", "_law_handed", "_law_kept", "_law_term_here", "_law_again", "_law_k"]
abbrev P__law_put_right : List Str := ["_law_bag_here", "_law_names_here", "_law_terms"]
theorem sc__law_put_right : FnScope N__law_put_right P__law_put_right (defScope s__law_put_right) := ⟨rfl, rfl, rfl, by decide +kernel, rfl, by decide +kernel, by decide +kernel⟩
abbrev s_law : Stmt := topS 19
abbrev N_law : List Str := ["_law_script", "_law_bag_here", "_law_names_here", "_law_turn", "_law_terms", "_law_some", "_law_cases", "_law_again", "_law_kept", "_law_handed", "_law_known", "_law_due", "_law_told", "_law_k", "_law_term_here"]
abbrev P_law : List Str := ["_law_script"]
theorem sc_law : FnScope N_law P_law (defScope s_law) := ⟨rfl, rfl, rfl, by decide +kernel, rfl, by decide +kernel, by decide +kernel⟩
structure TX (K : PySem.W.Frag) (mg : Str → Option Value) where
  d_put : DefAt K mg "put" s_put P_put
  d_size : DefAt K mg "size" s_size P_size
  d_leaves : DefAt K mg "leaves" s_leaves P_leaves
  d_unknowns : DefAt K mg "unknowns" s_unknowns P_unknowns
  d_numbered : DefAt K mg "numbered" s_numbered P_numbered
  d__law_bag : DefAt K mg "_law_bag" s__law_bag P__law_bag
  d__law_take : DefAt K mg "_law_take" s__law_take P__law_take
  d__law_alike : DefAt K mg "_law_alike" s__law_alike P__law_alike
  d__law_names : DefAt K mg "_law_names" s__law_names P__law_names
  d__law_term : DefAt K mg "_law_term" s__law_term P__law_term
  d__law_put : DefAt K mg "_law_put" s__law_put P__law_put
  d__law_leaves : DefAt K mg "_law_leaves" s__law_leaves P__law_leaves
  d__law_size : DefAt K mg "_law_size" s__law_size P__law_size
  d__law_numbered : DefAt K mg "_law_numbered" s__law_numbered P__law_numbered
  d__law_great : DefAt K mg "_law_great" s__law_great P__law_great
  d__law_far : DefAt K mg "_law_far" s__law_far P__law_far
  d__law_put_right : DefAt K mg "_law_put_right" s__law_put_right P__law_put_right
  d_law : DefAt K mg "law" s_law P_law
  b_abs : mg "abs" = none
  b_dict : mg "dict" = none
  b_int : mg "int" = none
  b_isinstance : mg "isinstance" = none
  b_len : mg "len" = none
  b_list : mg "list" = none
  b_range : mg "range" = none
  b_repr : mg "repr" = none
  b_set : mg "set" = none
  b_sorted : mg "sorted" = none
  b_sum : mg "sum" = none
  b_tuple : mg "tuple" = none
end Fm
namespace Fm
open PySem PySem.Spec PyProof.Rows L2
section
variable {P : Program} {w : World} {K : PySem.W.Frag} {mg : Str → Option Value} {base : Heap}
def sp_bag (K : PySem.W.Frag) : Sp := fun vs H Q _ => ∃ (a : Addr) (ns : List Int), vs = [.ref a] ∧ SqL K H a (ns.map V.int) ∧ ns.length ≤ 63 ∧ ∀ H' p, Mv [] H H' → H p = none → Bag H' p → Q (.ref p) H'
theorem cut63 (xs : List V) (h : xs.length ≤ 63) : cutV xs none (some 63) = xs := by
  unfold cutV
  rw [HT.sIx_none, show HT.sIx xs.length xs.length (some 63) = min 63 xs.length from HT.sIx_nat xs.length xs.length 63, List.drop_zero, List.take_of_length_le (by omega)]
theorem ok__law_bag (T : TX K mg) {k : Nat} : FnOk P w K mg base CX0 (k + 1) T.d__law_bag.f T.d__law_bag.fd P__law_bag (sp_bag K) := by
  refine T.d__law_bag.F.ok sc__law_bag (fun vs H Q E h => ?_) (fun cdv A outer s H vs Q E hr h => ?_)
  · obtain ⟨a, ns, rfl, _⟩ := h
    rfl
  · obtain ⟨a, ns, rfl, hS, hl, q⟩ := h
    refine ⟨_, (pss_one (ps_ret (pe_lst (pa_cons pe_int (pa_cons pe_int (pa_cons pe_int (pa_cons (pe_lc (own := [("_law_cell", 1)]) (g := gName 1) (by rfl) sc__law_bag.nd (pi_seq (pe_slice (r := rSlG K) sl_G (pv 0) po_none (po_some pe_int))) (blkOk_by (own := [("_law_cell", 1)]) (N := N__law_bag) (sc := defScope s__law_bag) (by decide +kernel)) (fun _ _ _ _ _ => pg_name (i := 1) sc__law_bag.nd rfl (Or.inl rfl)) (fun _ _ _ _ _ => pts_nil) (fun _ _ _ _ _ => (pe_callB call_abs (by rfl) T.b_abs bt_abs (pa_cons (pv 1) pa_nil)))) pa_nil))))))), ?_⟩
    refine ⟨.ref a, rfl, 63, rfl, Or.inl ⟨a, _, rfl, hS, fun c nc => ⟨c, rfl, Or.inl ⟨⟨_, .inl (.inl upd_same)⟩, fun D nD => ?_⟩⟩⟩⟩
    have hlen : (ns.map V.int).length ≤ 63 := by rw [List.length_map]; exact hl
    rw [cut63 _ hlen] at nD ⊢
    refine lc_list (K := K) (a := c) (xs := ns.map V.int) (fun i H3 => ∃ ms : List Int, H3 c = some (.lst (ns.map V.int)) ∧ H3 D = some (.lst (ms.map V.int)) ∧ ms.length = i ∧ (∀ n ∈ ms, 0 ≤ n) ∧ Mv [] H H3)
      ⟨[], ?_, upd_same, rfl, by simp, ?_⟩ (fun i H3 _ h3 => ?_) (fun i x H3 hx h3 => ?_) (fun H3 h3 => ?_)
    · rw [upd_ne (ne_of_none upd_same nD), upd_same]
    · exact (Mv.new nc).trans (.new nD)
    · obtain ⟨ms, h1, _⟩ := h3
      exact .inl (.inl h1)
    · obtain ⟨ms, h1, h2, h4, h5, h6⟩ := h3
      obtain ⟨n, hn, rfl⟩ : ∃ n ∈ ns, x = .int n := by
        have := List.mem_of_getElem? hx
        obtain ⟨n, hn, e⟩ := List.mem_map.mp this
        exact ⟨n, hn, e.symm⟩
      have hDc : c ≠ D := ne_of_none upd_same nD
      refine ⟨rfl, .int n, rfl, n, rfl, _, h2, ?_, ms ++ [if n < 0 then -n else n], ?_, ?_, ?_, ?_, ?_⟩
      · rw [List.length_map]
        have := (List.getElem?_eq_some_iff.mp hx).1
        rw [List.length_map] at this
        exact small1000 (by omega)
      · rw [upd_ne hDc]
        exact h1
      · rw [upd_same, List.map_append]
        rfl
      · simp [h4]
      · intro z hz
        rcases List.mem_append.mp hz with hz | hz
        · exact h5 z hz
        · rw [List.mem_singleton.mp hz]
          split <;> omega
      · exact h6.wr ((Mv.new nc).free nD)
    · obtain ⟨ms, h1, h2, h4, h5, h6⟩ := h3
      refine ⟨(by decide : 4 ≤ sizeLine), fun p np => q _ p (h6.trans (.new np)) (h6.free np) ⟨D, 0, 1234567891, 0, ms, upd_same, ?_, ?_, h5, by decide, by decide, by decide⟩⟩
      · rw [upd_ne (ne_of_none h2 np)]
        exact h2
      · rw [h4, List.length_map]
        exact hl

/-- a number from 0 to n - 1 is drawn -/
def sp_take : Sp := fun vs H Q _ => ∃ (b : Addr) (n : Int), vs = [.ref b, .int n] ∧ Bag H b ∧ 0 < n ∧ n ≤ 1000000 ∧ ∀ (i : Int) H', 0 ≤ i → i < n → Dr b H H' → Q (.int i) H'
theorem Bag.set {H : Hp} {b c : Addr} {ns : List Int} {s m k : Int} {xs : List V} (hb : H b = some (.lst xs)) (hc : H c = some (.lst (ns.map V.int))) (hcb : c ≠ b)
    (hl : ns.length ≤ 63) (hn : ∀ n ∈ ns, 0 ≤ n) (h1 : 0 ≤ s) (h2 : 0 ≤ k) (h3 : 0 ≤ m) : BagC (upd H b (.lst [.int s, .int m, .int k, .ref c])) b c :=
  ⟨s, m, k, ns, upd_same, by rw [upd_ne hcb]; exact hc, hl, hn, h1, h2, h3⟩
theorem rd_set {p : Addr} {xs ys : List V} {k : Int} {j : Nat} {v : V} {H : Hp} {Q : Hp → Prop} (hp : H p = some (.lst xs)) (hj : ixN xs.length k = some j) (hy : xs.set j v = ys)
    (h : ∀ H', H' p = some (.lst ys) → Mv [p] H H' → (∀ a, a ≠ p → H' a = H a) → Q H') : rSetL (.ref p) (.int k) v H Q := by
  refine ⟨p, xs, k, j, rfl, rfl, hp, hj, ?_⟩
  rw [hy]
  exact h _ upd_same (.set hp (by simp)) fun a ha => upd_ne ha
theorem ok__law_take (T : TX K mg) {k : Nat} : FnOk P w K mg base CX0 (k + 1) T.d__law_take.f T.d__law_take.fd P__law_take sp_take := by
  refine T.d__law_take.F.ok sc__law_take (fun vs H Q E h => ?_) (fun cdv A outer s H vs Q E hr h => ?_)
  · obtain ⟨a, ns, rfl, _⟩ := h
    rfl
  · obtain ⟨b, n, rfl, hB, h0, h1, q⟩ := h
    have hu64 := hr.units
    refine ⟨_, (Evl.pss_cut (ps_if (pt_cmpR (r := rEqG K) (op_eqG hu64) (pe_ix (r := rIx K) ix_seq (pv 0) pe_int (fun _ _ => rfl)) pe_int (nomark _)) (pss_cons (ps_set (i := 2) sc__law_take.nd rfl (Or.inl rfl) pe_int) (Evl.pss_cut (ps_if (pt_cmpR op_lt (pe_ix (r := rIx K) ix_seq (pv 0) pe_int (fun _ _ => rfl)) (pe_callB (r := rLenG K) call_lenG (by rfl) T.b_len bt_len (pa_cons (pe_ix (r := rIx K) ix_seq (pv 0) pe_int (fun _ _ => rfl)) pa_nil)) (nomark _)) (pss_one (ps_set (i := 2) sc__law_take.nd rfl (Or.inl rfl) (pe_ix (r := rIx K) ix_seq (pe_ix (r := rIx K) ix_seq (pv 0) pe_int (fun _ _ => rfl)) (pe_ix (r := rIx K) ix_seq (pv 0) pe_int (fun _ _ => rfl)) (fun _ _ => rfl)))) pss_nil) (pss_cons (ps_augS (pv 0) pe_int get_G pe_int ip_add set_list) (Evl.pss_cut (ps_if (pt_cmpR op_ge (pv 2) pe_int (nomark _)) (pss_one (ps_asg (pv 2) (pg_sub (pv 0) pe_int set_list))) pss_nil) (pss_cons (ps_set (i := 3) sc__law_take.nd rfl (Or.inl rfl) (pe_op (r := rAddG K) op_addG (pe_op (r := rAddG K) op_addG (pe_op op_mulG (pe_ix (r := rIx K) ix_seq (pv 0) pe_int (fun _ _ => rfl)) pe_int) (pe_op op_mod (pe_callTy call_int1 (by rfl) T.b_int bt_int (pa_cons (pv 2) pa_nil)) pe_int)) (pe_op op_mulG pe_int (pe_ix (r := rIx K) ix_seq (pv 0) pe_int (fun _ _ => rfl))))) (pss_one (ps_asg (pe_op op_mod (pe_callTy call_int1 (by rfl) T.b_int bt_int (pa_cons (pv 3) pa_nil)) pe_int) (pg_sub (pv 0) pe_int set_list)))))))) pss_nil) (pss_cons (ps_if (pt_cmpR op_gt (pe_ix (r := rIx K) ix_seq (pv 0) pe_int (fun _ _ => rfl)) pe_int (nomark _)) (pss_cons (ps_set (i := 4) sc__law_take.nd rfl (Or.inl rfl) (pe_op op_mod (pe_callTy call_int1 (by rfl) T.b_int bt_int (pa_cons (pe_ix (r := rIx K) ix_seq (pv 0) pe_int (fun _ _ => rfl)) pa_nil)) (pv 1))) (pss_cons (ps_asg (pe_op op_fdivW (pe_ix (r := rIx K) ix_seq (pv 0) pe_int (fun _ _ => rfl)) (pv 1)) (pg_sub (pv 0) pe_int set_list)) (pss_one (ps_ret (pv 4))))) pss_nil) (pss_cons (ps_set (i := 5) sc__law_take.nd rfl (Or.inl rfl) (pe_op op_mod (pe_callTy call_int1 (by rfl) T.b_int bt_int (pa_cons (pe_op op_mulG (pe_op (r := rAddG K) op_addG (pe_ix (r := rIx K) ix_seq (pv 0) pe_int (fun _ _ => rfl)) pe_int) pe_int) pa_nil)) pe_int)) (pss_cons (ps_set (i := 6) sc__law_take.nd rfl (Or.inl rfl) (pe_op op_mod (pe_callTy call_int1 (by rfl) T.b_int bt_int (pa_cons (pe_op op_mulG (pe_op op_mod (pe_callTy call_int1 (by rfl) T.b_int bt_int (pa_cons (pe_op op_mulG (pv 5) (pv 5)) pa_nil)) pe_int) pe_int) pa_nil)) pe_int)) (pss_cons (ps_if (pt_cmpR op_gt (pv 1) pe_int (nomark _)) (pss_one (ps_ret (pe_op op_mod (pe_callTy call_int1 (by rfl) T.b_int bt_int (pa_cons (pe_op (r := rAddG K) op_addG (pe_op op_mulG (pv 6) pe_int) (pv 5)) pa_nil)) (pv 1)))) pss_nil) (pss_one (ps_ret (pe_op op_mod (pe_callTy call_int1 (by rfl) T.b_int bt_int (pa_cons (pe_op op_fdivW (pv 6) pe_int) pa_nil)) (pv 1))))))))), ?_⟩
    obtain ⟨c, hB⟩ := hB
    have hBC := hB
    obtain ⟨z, m, j, ns, eb, ec, hl, hn, hz, hj, hm⟩ := hB
    have hcb : c ≠ b := Bag.ne (xs := [.int z, .int m, .int j]) eb ec
    have sq : ∀ {H : Hp} {xs : List V}, H b = some (.lst xs) → SqL K H b xs := fun h => .inl (.inl h)
    -- behind the first if
    refine ⟨fun σ H1 => ∃ y2 y3 y4 y5 y6, σ = [some (.ref b), some (.int n), y2, y3, y4, y5, y6] ∧ Dr b H H1 ∧ BagC H1 b c, ?_, fun σ H1 hM => ?_⟩
    · refine ⟨.ref b, rfl, Or.inl ⟨b, _, 0, .int z, rfl, rfl, sq eb, rfl, Or.inl ⟨rfl, _, rfl, ite2 (fun e => ?_) (fun e => ?_)⟩⟩⟩
      · -- cell = 0; the next cell
        refine ⟨fun σ H1 => ∃ x : Int, 0 ≤ x ∧ σ = [some (.ref b), some (.int n), some (.int x), none, none, none, none] ∧ H1 = H, ?_, fun σ H1 hM => ?_⟩
        · refine ⟨.ref b, rfl, Or.inl ⟨b, _, 2, .int j, rfl, rfl, sq eb, rfl, .ref b, rfl, Or.inl ⟨b, _, 3, .ref c, rfl, rfl, sq eb, rfl, Or.inl ⟨c, _, rfl, .inl (.inl (.inl ec)), j, _, rfl, rfl, _, rfl, ite2 (fun e => ?_) (fun e => ?_)⟩⟩⟩⟩
          · have e' : j < (ns.map V.int).length := of_decide_eq_true e
            obtain ⟨i, rfl⟩ := Int.eq_ofNat_of_zero_le hj
            have hi : i < ns.length := by
              rw [List.length_map] at e'
              omega
            have gi : (ns.map V.int)[i]? = some (.int ns[i]) := by
              rw [List.getElem?_map, List.getElem?_eq_getElem hi]
              rfl
            refine ⟨.ref b, rfl, Or.inl ⟨b, _, 3, .ref c, rfl, rfl, sq eb, rfl, .ref b, rfl, Or.inl ⟨b, _, 2, .int (i : Int), rfl, rfl, sq eb, rfl, Or.inl ⟨c, _, _, .int ns[i], rfl, rfl, .inl (.inl ec), atI_nat gi, ?_⟩⟩⟩⟩
            exact ⟨ns[i], hn _ (List.getElem_mem hi), rfl, rfl⟩
          · exact ⟨0, Int.le_refl _, rfl, rfl⟩
        · obtain ⟨x, hx, rfl, rfl⟩ := hM
          -- bag[2] += 1
          refine ⟨.ref b, rfl, b, _, 2, .int j, rfl, rfl, sq eb, rfl, j, 1, rfl, rfl, rd_set eb rfl rfl fun H2 eb2 m1 k1 => ?_⟩
          have ec2 : H2 c = some (.lst (ns.map V.int)) := by rw [k1 c hcb]; exact ec
          -- a great cell is kept
          refine ⟨fun σ H3 => ∃ z' : Int, 0 ≤ z' ∧ σ = [some (.ref b), some (.int n), some (.int x), none, none, none, none] ∧ H3 b = some (.lst [.int z', .int m, .int (j + 1), .ref c]) ∧ H3 c = some (.lst (ns.map V.int)) ∧ Mv [b] H2 H3, ?_, fun σ H3 hM => ?_⟩
          · refine ⟨.int x, rfl, x, _, rfl, rfl, _, rfl, ite2 (fun e => ?_) (fun e => ?_)⟩
            · refine ⟨.int x, rfl, .ref b, rfl, b, _, 0, 0, rfl, rfl, eb2, rfl, x, hx, rfl, upd_same, ?_, .set eb2 (by simp)⟩
              rw [upd_ne hcb]
              exact ec2
            · exact ⟨z, hz, rfl, eb2, ec2, .refl⟩
          · obtain ⟨z', hz', rfl, eb3, ec3, m3⟩ := hM
            refine ⟨.ref b, rfl, Or.inl ⟨b, _, 1, .int m, rfl, rfl, sq eb3, rfl, Or.inl ⟨m, 48271, rfl, rfl, .inr ⟨by decide, by decide⟩, .int x, rfl, Or.inl ⟨x, rfl, x, _, rfl, rfl, (by decide : (0 : Int) < _), ?_⟩⟩⟩⟩
            refine Or.inl ⟨_, _, rfl, rfl, .ref b, rfl, Or.inl ⟨b, _, 2, .int (j + 1), rfl, rfl, sq eb3, rfl, Or.inl ⟨7919, j + 1, rfl, rfl, .inl ⟨by decide, by decide⟩, Or.inl ⟨_, _, rfl, rfl, ?_⟩⟩⟩⟩
            refine ⟨_, rfl, Or.inl ⟨_, rfl, _, _, rfl, rfl, (by decide : (0 : Int) < _), .ref b, rfl, b, _, 1, 1, rfl, rfl, eb3, rfl, _, _, _, _, _, rfl, ?_, ?_⟩⟩
            · exact .mkc ((m1.trans m3).trans (.set eb3 (by simp))) hBC (Bag.set eb3 ec3 hcb hl hn hz' (by omega) (Int.emod_nonneg _ (by decide)))
            · exact Bag.set eb3 ec3 hcb hl hn hz' (by omega) (Int.emod_nonneg _ (by decide))
      · exact ⟨_, _, _, _, _, rfl, .refl, z, m, j, ns, eb, ec, hl, hn, hz, hj, hm⟩
    · obtain ⟨y2, y3, y4, y5, y6, rfl, hD, hB⟩ := hM
      have hBC1 := hB
      obtain ⟨z, m, j, ns, eb, ec, hl, hn, hz, hj, hm⟩ := hB
      have hcb : c ≠ b := Bag.ne (xs := [.int z, .int m, .int j]) eb ec
      refine ⟨.ref b, rfl, Or.inl ⟨b, _, 0, .int z, rfl, rfl, sq eb, rfl, z, 0, rfl, rfl, _, rfl, ite2 (fun e => ?_) (fun e => ?_)⟩⟩
      · -- value = int(bag[0]) % many; bag[0] = bag[0] // many; return value
        refine ⟨.ref b, rfl, Or.inl ⟨b, _, 0, .int z, rfl, rfl, sq eb, rfl, Or.inl ⟨z, rfl, .int n, rfl, z, n, rfl, rfl, h0, ?_⟩⟩⟩
        refine ⟨.ref b, rfl, Or.inl ⟨b, _, 0, .int z, rfl, rfl, sq eb, rfl, .int n, rfl, z, n, rfl, rfl, ?_, ?_⟩⟩
        · exact wide_div (b := 64) h0 (by omega) (by decide) (by decide)
        · refine ⟨.ref b, rfl, b, _, 0, 0, rfl, rfl, eb, rfl, ?_⟩
          refine ⟨.int (z % n), rfl, q _ _ (Int.emod_nonneg z (by omega)) (Int.emod_lt_of_pos z h0) (hD.trans (.mkc (.set eb (by simp)) hBC1 ?_))⟩
          exact Bag.set eb ec hcb hl hn (Int.ediv_nonneg hz (by omega)) hj hm
      · refine ⟨.ref b, rfl, Or.inl ⟨b, _, 1, .int m, rfl, rfl, sq eb, rfl, Or.inl ⟨m, 1, rfl, rfl, Or.inl ⟨_, _, rfl, rfl, .inr ⟨by decide, by decide⟩, Or.inl ⟨_, rfl, _, _, rfl, rfl, (by decide : (0 : Int) < _), ?_⟩⟩⟩⟩⟩
        have hx0 : 0 ≤ (m + 1) * 39373 % 1000000007 := Int.emod_nonneg _ (by decide)
        have hx1 : (m + 1) * 39373 % 1000000007 < 1000000007 := Int.emod_lt_of_pos _ (by decide)
        refine ⟨_, rfl, _, rfl, Or.inl ⟨(m + 1) * 39373 % 1000000007, (m + 1) * 39373 % 1000000007, rfl, rfl, .inl ⟨by omega, by omega⟩, Or.inl ⟨_, rfl, _, _, rfl, rfl, (by decide : (0 : Int) < _), Or.inl ⟨_, _, rfl, rfl, .inr ⟨by decide, by decide⟩, Or.inl ⟨_, rfl, _, _, rfl, rfl, (by decide : (0 : Int) < _), ?_⟩⟩⟩⟩⟩
        refine ⟨.int n, rfl, n, _, rfl, rfl, _, rfl, ite2 (fun e => ?_) (fun e => ?_)⟩
        · exact absurd (of_decide_eq_true e) (by omega)
        · refine ⟨_, rfl, _, 7, rfl, rfl, ⟨by decide, by decide⟩, Or.inl ⟨_, rfl, .int n, rfl, _, n, rfl, rfl, h0, ?_⟩⟩
          exact q _ _ (Int.emod_nonneg _ (by omega)) (Int.emod_lt_of_pos _ h0) hD
end
end Fm
namespace Fm
open PySem PySem.Spec PyProof.Rows L2
/-- a new list of names -/
def sp_names : Sp := fun vs H Q _ => ∃ (b : Addr) (n : Nat), vs = [.ref b, .int n] ∧ Bag H b ∧ 0 < n ∧ n ≤ 12 ∧
  ∀ (p : Addr) (xs : List Str) H', xs.length = n → (∀ x ∈ xs, Nm x) → H p = none → H' p = some (.lst (xs.map V.str)) → Dr b H H' → Q (.ref p) H'
theorem rd_split {X : Cx} {a b : Str} {H : Hp} {Q : VK} (P : List Str → Bool) (hP : P (Txt.split a b) = true)
    (h : ∀ p ws H', P ws = true → H p = none → H' p = some (.lst (ws.map V.str)) → Mv [] H H' → Q (.ref p) H') : rNewStrs (Txt.split a b) H Q :=
  fun p np => h p _ _ hP np upd_same (.new np)
theorem str_len_append (x y : Str) : (x ++ y).length = x.length + y.length := by first | exact strLen_append x y | (show (x.cps ++ y.cps).size = _; simp [Str.length])
theorem str_cps_append (x y : Str) : (x ++ y).cps.toList = x.cps.toList ++ y.cps.toList := by
  show (x.cps ++ y.cps).toList = _
  simp
theorem join_chars : ∀ l : List Nat, Txt.join "" (l.map fun c => (⟨#[c]⟩ : Str)) = ⟨l.toArray⟩
  | [] => by decide +kernel
  | [c] => by
    show Builtin.Str.glued _ _ = _
    rw [StrLaws.glued_eq_join]
    rfl
  | c :: d :: l => by
    have ih := join_chars (d :: l)
    show Builtin.Str.glued _ _ = _
    have ih' : Builtin.Str.glued "" ((d :: l).map fun c => (⟨#[c]⟩ : Str)) = ⟨(d :: l).toArray⟩ := ih
    rw [StrLaws.glued_eq_join] at ih' ⊢
    show (⟨#[c]⟩ : Str) ++ "" ++ Str.join "" ((d :: l).map fun c => (⟨#[c]⟩ : Str)) = _
    rw [ih']
    show (⟨(#[c] ++ #[]) ++ (d :: l).toArray⟩ : Str) = _
    simp
theorem cutS_to (z : Str) (i : Nat) (h : i ≤ z.length) : (cutS z none (some (i : Int))).cps.toList = z.cps.toList.take i := by
  unfold cutS
  rw [HT.sIx_none, HT.sIx_nat, Nat.min_eq_left h]
  simp
theorem cutS_from (z : Str) (i : Nat) (h : i ≤ z.length) : (cutS z (some (i : Int)) none).cps.toList = z.cps.toList.drop i := by
  unfold cutS
  rw [HT.sIx_none, HT.sIx_nat, Nat.min_eq_left h]
  have e : z.cps.toList.length = z.length := by simp [Str.length]
  show ((z.cps.toList.drop i).take (z.length - i)).toArray.toList = _
  rw [List.take_of_length_le (by rw [List.length_drop, e]; exact Nat.le_refl _)]
theorem len_cps (z : Str) : z.cps.toList.length = z.length := by simp [Str.length]
theorem sum_ones : ∀ cs : List Nat, ((cs.map fun c => (⟨#[c]⟩ : Str)).map (·.length)).sum = cs.length
  | [] => rfl
  | c :: cs => by
    have := sum_ones cs
    simp only [List.map_cons, List.sum_cons, List.length_cons, this]
    show 1 + cs.length = _
    omega
theorem cutV_from {xs : List V} {i : Int} (h0 : 0 ≤ i) (h : i ≤ xs.length) : cutV xs (some i) none = xs.drop i.toNat := by
  obtain ⟨j, rfl⟩ := Int.eq_ofNat_of_zero_le h0
  unfold cutV
  rw [HT.sIx_none, HT.sIx_nat, Nat.min_eq_left (by omega), List.take_of_length_le (by rw [List.length_drop]; exact Nat.le_refl _)]
  rfl
theorem cutV_to {xs : List V} {i : Int} (h0 : 0 ≤ i) : cutV xs none (some i) = xs.take i.toNat := by
  obtain ⟨j, rfl⟩ := Int.eq_ofNat_of_zero_le h0
  unfold cutV
  rw [HT.sIx_none, HT.sIx_nat, List.drop_zero]
  show xs.take (min j xs.length - 0) = xs.take j
  rw [Nat.sub_zero]
  by_cases e : j ≤ xs.length
  · rw [Nat.min_eq_left e]
  · rw [Nat.min_eq_right (by omega), List.take_of_length_le (Nat.le_refl _), List.take_of_length_le (by omega)]
theorem rd_letter {K : PySem.W.Frag} {z : Str} {j : Int} {H : Hp} {Q : VK} (hz : (decide (z.length = 26) && z.cps.toList.all fun c => decide (97 ≤ c) && decide (c ≤ 122)) = true) (h0 : 0 ≤ j) (h1 : j < 26)
    (h : ∀ c : Nat, 97 ≤ c → c ≤ 122 → z.cps.toList[j.toNat]? = some c → Q (.str ⟨#[c]⟩) H) : rIx K (.str z) (.int j) H Q := by
  simp only [Bool.and_eq_true, decide_eq_true_eq, List.all_eq_true] at hz
  obtain ⟨hl, ha⟩ := hz
  obtain ⟨i, rfl⟩ := Int.eq_ofNat_of_zero_le h0
  have hi : i < z.cps.toList.length := by rw [len_cps, hl]; omega
  have e := List.getElem?_eq_getElem hi
  have hc := ha _ (List.getElem_mem hi)
  exact Or.inr (Or.inr ⟨z, i, _, rfl, rfl, by rw [hl]; decide, atI_nat e, h _ hc.1 hc.2 e⟩)
section
variable {P : Program} {w : World} {K : PySem.W.Frag} {mg : Str → Option Value} {base : Heap}
theorem ok__law_names (T : TX K mg) {k : Nat} : FnOk P w K mg base CX0 (k + 2) T.d__law_names.f T.d__law_names.fd P__law_names sp_names := by
  have G__law_take : FnOk P w K mg base CX0 (k + 1) T.d__law_take.f T.d__law_take.fd P__law_take sp_take := ok__law_take T
  refine T.d__law_names.F.ok sc__law_names (fun vs H Q E h => ?_) (fun cdv A outer s H vs Q E hr h => ?_)
  · obtain ⟨b, n, rfl, _⟩ := h
    rfl
  · obtain ⟨b, n, rfl, hB, h0, h1, q⟩ := h
    have hu64 := hr.units
    refine ⟨_, (pss_cons (ps_set (i := 2) sc__law_names.nd rfl (Or.inr rfl) pe_str) (pss_cons (ps_set (i := 3) sc__law_names.nd rfl (Or.inl rfl) pe_str) (pss_cons (ps_set (i := 3) sc__law_names.nd rfl (Or.inl rfl) (pe_bm PySem.F.plainAttrs_str PySem.F.slot_str_split PySem.F.type_str_split mt_split (pe_op (r := rAddG K) op_addG (pv 3) pe_str) (pa_cons pe_str pa_nil))) (pss_cons (ps_asg (pe_tup (pa_cons (pe_call G__law_take (hr.mono (by omega)) rfl T.d__law_take.g T.d__law_take.F.kp T.d__law_take.b .nil pass0 (pa_cons (pv 0) (pa_cons pe_int pa_nil))) (pa_cons (pe_call G__law_take (hr.mono (by omega)) rfl T.d__law_take.g T.d__law_take.F.kp T.d__law_take.b .nil pass0 (pa_cons (pv 0) (pa_cons pe_int pa_nil))) pa_nil))) (pg_tup rfl (pgs_cons (pg_name (i := 4) sc__law_names.nd rfl (Or.inl rfl)) (pgs_cons (pg_name (i := 5) sc__law_names.nd rfl (Or.inr rfl)) pgs_nil)))) (pss_cons (ps_set (i := 6) sc__law_names.nd rfl (Or.inr rfl) (pe_bm PySem.F.plainAttrs_str PySem.F.slot_str_join PySem.F.type_str_join mt_join pe_str (pa_cons (pe_lc (own := [("_law_k", 8)]) (g := gName 8) (by rfl) sc__law_names.nd (pi_range1 (by rfl) T.b_range (pa_cons (pe_op (r := rAddG K) op_addG pe_int (pe_call G__law_take (hr.mono (by omega)) rfl T.d__law_take.g T.d__law_take.F.kp T.d__law_take.b .nil pass0 (pa_cons (pv 0) (pa_cons pe_int pa_nil)))) pa_nil)) (blkOk_by (own := [("_law_k", 8)]) (N := N__law_names) (sc := defScope s__law_names) (by decide +kernel)) (fun _ _ _ _ _ => pg_name (i := 8) sc__law_names.nd rfl (Or.inl rfl)) (fun _ _ _ _ _ => pts_nil) (fun _ _ _ _ _ => (pe_ix (r := rIx K) ix_seq (pv 2) (pe_call G__law_take (hr.mono (by omega)) rfl T.d__law_take.g T.d__law_take.F.kp T.d__law_take.b .nil pass0 (pa_cons (pv 0) (pa_cons pe_int pa_nil))) (fun _ _ => rfl)))) pa_nil))) (pss_cons (ps_set (i := 7) sc__law_names.nd rfl (Or.inr rfl) (pe_call G__law_take (hr.mono (by omega)) rfl T.d__law_take.g T.d__law_take.F.kp T.d__law_take.b .nil pass0 (pa_cons (pv 0) (pa_cons (pe_op (r := rAddG K) op_addG (pe_callB (r := rLenG K) call_lenG (by rfl) T.b_len bt_len (pa_cons (pv 6) pa_nil)) pe_int) pa_nil)))) (pss_cons (ps_if (pt_cmpR (r := rEqG K) (op_eqG hu64) (pv 4) pe_int (nomark _)) (pss_one (ps_ret (pe_slice (r := rSlG K) sl_G (pe_op (r := rAddG K) op_addG (pe_slice (r := rSlG K) sl_G (pv 3) (po_some (pv 5)) po_none) (pe_slice (r := rSlG K) sl_G (pv 3) po_none (po_some (pv 5)))) po_none (po_some (pv 1))))) pss_nil) (pss_cons (ps_if (pt_cmpR (r := rEqG K) (op_eqG hu64) (pv 4) pe_int (nomark _)) (pss_one (ps_ret (pe_lc (own := [("_law_k", 8)]) (g := gName 8) (by rfl) sc__law_names.nd (pi_range1 (by rfl) T.b_range (pa_cons (pv 1) pa_nil)) (blkOk_by (own := [("_law_k", 8)]) (N := N__law_names) (sc := defScope s__law_names) (by decide +kernel)) (fun _ _ _ _ _ => pg_name (i := 8) sc__law_names.nd rfl (Or.inl rfl)) (fun _ _ _ _ _ => pts_nil) (fun _ _ _ _ _ => (pe_ix (r := rIx K) ix_seq (pv 2) (pe_op op_mod (pe_callTy call_int1 (by rfl) T.b_int bt_int (pa_cons (pe_op (r := rAddG K) op_addG (pv 5) (pe_op op_mulG pe_int (pv 8))) pa_nil)) pe_int) (fun _ _ => rfl)))))) pss_nil) (pss_one (ps_ret (pe_lc (own := [("_law_k", 8)]) (g := gName 8) (by rfl) sc__law_names.nd (pi_range1 (by rfl) T.b_range (pa_cons (pv 1) pa_nil)) (blkOk_by (own := [("_law_k", 8)]) (N := N__law_names) (sc := defScope s__law_names) (by decide +kernel)) (fun _ _ _ _ _ => pg_name (i := 8) sc__law_names.nd rfl (Or.inl rfl)) (fun _ _ _ _ _ => pts_nil) (fun _ _ _ _ _ => (pe_op (r := rAddG K) op_addG (pe_op (r := rAddG K) op_addG (pe_slice (r := rSlG K) sl_G (pv 6) po_none (po_some (pv 7))) (pe_ix (r := rIx K) ix_seq (pv 2) (pe_op op_mod (pe_callTy call_int1 (by rfl) T.b_int bt_int (pa_cons (pe_op (r := rAddG K) op_addG (pv 5) (pe_op op_mulG pe_int (pv 8))) pa_nil)) pe_int) (fun _ _ => rfl))) (pe_slice (r := rSlG K) sl_G (pv 6) (po_some (pv 7)) po_none)))))))))))))), ?_⟩
    refine ⟨_, rfl, Or.inr (Or.inl ⟨_, _, rfl, rfl, by decide +kernel, rfl, _, _, rfl, rfl, by decide +kernel, by decide +kernel, ?_⟩)⟩
    refine rd_split (X := (cxOf CX0 P w K mg base N__law_names "_law_names" (defScope s__law_names) T.d__law_names.f cdv A outer s H E)) (fun ws => decide (ws.length = 20) && ws.all fun x => decide (Nm x)) (by decide +kernel) fun wp ws H1 hws nwp ewp m1 => ?_
    simp only [Bool.and_eq_true, decide_eq_true_eq, List.all_eq_true] at hws
    obtain ⟨hw20, hwN⟩ := hws
    -- way, turn
    refine ⟨.ref b, rfl, b, 4, rfl, hB.mv m1, by decide, by decide, fun way H2 hw0 hw1 d2 => ⟨.ref b, rfl, b, 20, rfl, d2.bag (hB.mv m1), by decide, by decide, fun turn H3 ht0 ht1 d3 => ?_⟩⟩
    refine ⟨(by decide : 2 ≤ sizeLine), fun p np => ⟨p, _, rfl, .inl (.inl upd_same), rfl, _, _, rfl, _, _, rfl, rfl, ?_⟩⟩
    have d14 := (d2.trans d3).trans (Dr.new (o := .tup [.int way, .int turn]) np)
    have hB4 := d14.bag (hB.mv m1)
    generalize upd H3 p (.tup [.int way, .int turn]) = H4 at d14 hB4 ⊢
    have hwb : wp ≠ b := (hB.fneq nwp)
    have ew4 : H4 wp = some (.lst (ws.map V.str)) := d14.get hwb ewp
    -- base = ''.join([..])
    refine ⟨rfl, .ref b, rfl, b, 7, rfl, hB4, by decide, by decide, fun l H5 hl0 hl1 d5 => Or.inl ⟨1, l, rfl, rfl, 1 + l, rfl, by omega, by omega, fun D nD => ?_⟩⟩
    have hB5 := d5.bag hB4
    refine lc_range (lo := 0) (n := (1 + l).toNat) (fun i H6 => ∃ cs : List Nat, H6 D = some (.lst (cs.map fun c => V.str ⟨#[c]⟩)) ∧ cs.length = i ∧ (∀ c ∈ cs, 97 ≤ c ∧ c ≤ 122) ∧ Dr b H5 H6)
      ⟨[], upd_same, rfl, by simp, Dr.new nD⟩ (fun i H6 hi h6 => ?_) (fun H6 h6 => ?_)
    · obtain ⟨cs, e6, l6, c6, d6⟩ := h6
      refine ⟨rfl, _, rfl, .ref b, rfl, b, 26, rfl, d6.bag hB5, by decide, by decide, fun j H7 hj0 hj1 d7 => rd_letter (by decide +kernel) hj0 hj1 fun c hc0 hc1 _ => ?_⟩
      refine ⟨_, d7.get (hB5.fneq nD) e6, ?_, cs ++ [c], ?_, by simp [l6], ?_, (d6.trans d7).wr nD⟩
      · rw [List.length_map, l6]
        exact small1000 (by omega)
      · rw [upd_same, List.map_append]
        rfl
      · intro z hz
        rcases List.mem_append.mp hz with hz | hz
        · exact c6 z hz
        · rw [List.mem_singleton.mp hz]
          exact ⟨hc0, hc1⟩
    · obtain ⟨cs, e6, l6, c6, d6⟩ := h6
      have hmap : cs.map (fun c => V.str ⟨#[c]⟩) = (cs.map fun c => (⟨#[c]⟩ : Str)).map V.str := by rw [List.map_map]; rfl
      refine ⟨_, D, _, rfl, rfl, .inl (.inl (.inl (by rw [← hmap]; exact e6))), ?_, ?_⟩
      · rw [sum_ones, List.length_map, l6, show ("" : Str).length = 0 from by decide]
        omega
      · rw [join_chars]
        obtain ⟨B, hB0, hBl, hBc⟩ : ∃ B : Str, B = ⟨cs.toArray⟩ ∧ B.length = (1 + l).toNat ∧ ∀ c ∈ B.cps.toList, 97 ≤ c ∧ c ≤ 122 := ⟨_, rfl, by rw [← l6]; rfl, by simpa using c6⟩
        rw [← hB0]
        have hB6 := d6.bag hB5
        -- at
        refine ⟨.ref b, rfl, .str B, rfl, Or.inr (Or.inl ⟨B, rfl, Nat.le_of_lt (small1000 (by omega)), Or.inl ⟨_, 1, rfl, rfl, b, _, rfl, hB6, by omega, by omega, fun pl H7 hp0 hp1 d7 => ?_⟩⟩)⟩
        have d17 := (d14.trans d5).trans (d6.trans d7)
        have ew7 : H7 wp = some (.lst (ws.map V.str)) := d17.get hwb ewp
        have dH7 : Dr b H H7 := (Dr.of m1).trans d17
        have hB7 : Bag H7 b := dH7.bag hB
        have lenL : ∀ c : Nat, (⟨#[c]⟩ : Str).length = 1 := fun _ => rfl
        have fresh : ∀ {p H'}, Mv [] H7 H' → H' p = none → H p = none := fun m e => dH7.free hB (m.free e)
        refine ⟨.int way, rfl, Or.inl ⟨rfl, _, rfl, ite2 (fun e => ?_) (fun e => ?_)⟩⟩
        · -- the words, turned
          refine ⟨.ref wp, rfl, .int turn, rfl, turn, rfl, Or.inl ⟨wp, _, rfl, .inl (.inl ew7), fun p1 np1 => ?_⟩⟩
          have n1 : wp ≠ p1 := ne_of_none ew7 np1
          refine ⟨.ref wp, rfl, .int turn, rfl, turn, rfl, Or.inl ⟨wp, _, rfl, .inl (.inl (by rw [upd_ne n1]; exact ew7)), fun p2 np2 => ?_⟩⟩
          have n2 : p1 ≠ p2 := ne_of_none upd_same np2
          rw [cutV_from ht0 (by rw [List.length_map]; omega), cutV_to ht0] at *
          refine Or.inr (Or.inr (Or.inr ⟨p1, p2, _, _, rfl, rfl, by rw [upd_ne n2, upd_same], upd_same, ?_, fun p3 np3 => ?_⟩))
          · rw [List.length_drop, List.length_take, List.length_map]
            exact Nat.le_of_lt (small1000 (by omega))
          · refine ⟨.int n, rfl, (n : Int), rfl, Or.inl ⟨p3, _, rfl, .inl (.inl upd_same), fun p4 np4 => ?_⟩⟩
            refine q p4 ((ws.drop turn.toNat ++ ws.take turn.toNat).take n) _ ?_ (fun x hx => ?_) (fresh (((Mv.new (S := []) np1).trans (Mv.new np2)).trans (Mv.new np3)) np4) ?_ (dH7.trans (Dr.of (((Mv.new np1).trans (Mv.new np2)).trans ((Mv.new np3).trans (Mv.new np4)))))
            · rw [List.length_take, List.length_append, List.length_drop, List.length_take]
              omega
            · have h := List.mem_of_mem_take hx
              rcases List.mem_append.mp h with h | h
              · exact hwN x (List.mem_of_mem_drop h)
              · exact hwN x (List.mem_of_mem_take h)
            · rw [upd_same, cutV_to (by omega), List.map_take, List.map_append, List.map_drop, List.map_take]
              rfl
        · refine ⟨.int way, rfl, Or.inl ⟨rfl, _, rfl, ite2 (fun e => ?_) (fun e => ?_)⟩⟩
          · refine ⟨.int n, rfl, (n : Int), rfl, by omega, by omega, fun D8 nD8 => ?_⟩
            refine lc_range (lo := 0) (n := (n : Int).toNat) (fun i H8 => ∃ xs : List Str, H8 D8 = some (.lst (xs.map V.str)) ∧ xs.length = i ∧ (∀ x ∈ xs, Nm x) ∧ Mv [] H7 H8)
              ⟨[], upd_same, rfl, by simp, .new nD8⟩ (fun i H8 hi h8 => ?_) (fun H8 h8 => ?_)
            · obtain ⟨xs, e8, l8, c8, m8⟩ := h8
              refine ⟨rfl, _, rfl, .int turn, rfl, _, rfl, Or.inl ⟨3, _, rfl, rfl, .inl ⟨by decide, by decide⟩, Or.inl ⟨turn, _, rfl, rfl, Or.inl ⟨_, rfl, _, _, rfl, rfl, (by decide : (0 : Int) < _), ?_⟩⟩⟩⟩
              refine rd_letter (by decide +kernel) (Int.emod_nonneg _ (by decide)) (Int.emod_lt_of_pos _ (by decide)) fun c hc0 hc1 _ => ?_
              refine ⟨_, e8, ?_, xs ++ [⟨#[c]⟩], ?_, by simp [l8], ?_, m8.wr nD8⟩
              · rw [List.length_map, l8]
                exact small1000 (by omega)
              · rw [upd_same, List.map_append]
                rfl
              · intro z hz
                rcases List.mem_append.mp hz with hz | hz
                · exact c8 z hz
                · rw [List.mem_singleton.mp hz]
                  exact ⟨by rw [lenL]; decide, by rw [lenL]; decide, by simpa using ⟨hc0, hc1⟩⟩
            · obtain ⟨xs, e8, l8, c8, m8⟩ := h8
              exact q D8 xs H8 (by omega) c8 (dH7.free hB nD8) e8 (dH7.trans (Dr.of m8))
          · refine ⟨.int n, rfl, (n : Int), rfl, by omega, by omega, fun D8 nD8 => ?_⟩
            obtain ⟨at', rfl⟩ := Int.eq_ofNat_of_zero_le hp0
            have hat : at' ≤ B.length := by omega
            refine lc_range (lo := 0) (n := (n : Int).toNat) (fun i H8 => ∃ xs : List Str, H8 D8 = some (.lst (xs.map V.str)) ∧ xs.length = i ∧ (∀ x ∈ xs, Nm x) ∧ Mv [] H7 H8)
              ⟨[], upd_same, rfl, by simp, .new nD8⟩ (fun i H8 hi h8 => ?_) (fun H8 h8 => ?_)
            · obtain ⟨xs, e8, l8, c8, m8⟩ := h8
              have hsz : B.length ≤ sizeLine := Nat.le_of_lt (small1000 (by omega))
              have l1 : (cutS B none (some (at' : Int))).length = at' := by rw [← len_cps, cutS_to B at' hat, List.length_take, len_cps]; omega
              have l2 : (cutS B (some (at' : Int)) none).length = B.length - at' := by rw [← len_cps, cutS_from B at' hat, List.length_drop, len_cps]
              refine ⟨rfl, .str B, rfl, _, rfl, _, rfl, Or.inr (Or.inr ⟨B, rfl, hsz, _, rfl, .int turn, rfl, _, rfl, Or.inl ⟨3, _, rfl, rfl, .inl ⟨by decide, by decide⟩, Or.inl ⟨turn, _, rfl, rfl, Or.inl ⟨_, rfl, _, _, rfl, rfl, (by decide : (0 : Int) < _), ?_⟩⟩⟩⟩)⟩
              refine rd_letter (by decide +kernel) (Int.emod_nonneg _ (by decide)) (Int.emod_lt_of_pos _ (by decide)) fun c hc0 hc1 _ => ?_
              refine Or.inr (Or.inl ⟨_, _, rfl, rfl, by rw [l1, lenL]; exact Nat.le_of_lt (small1000 (by omega)), .str B, rfl, _, rfl, _, rfl, Or.inr (Or.inr ⟨B, rfl, hsz, Or.inr (Or.inl ⟨_, _, rfl, rfl, ?_, ?_⟩)⟩)⟩)
              · rw [str_len_append, l1, l2, lenL]
                exact Nat.le_of_lt (small1000 (by omega))
              · refine ⟨_, e8, ?_, xs ++ [cutS B none (some (at' : Int)) ++ ⟨#[c]⟩ ++ cutS B (some (at' : Int)) none], ?_, by simp [l8], ?_, m8.wr nD8⟩
                · rw [List.length_map, l8]
                  exact small1000 (by omega)
                · rw [upd_same, List.map_append]
                  rfl
                · intro z hz
                  rcases List.mem_append.mp hz with hz | hz
                  · exact c8 z hz
                  · rw [List.mem_singleton.mp hz]
                    refine ⟨?_, ?_, fun d hd => ?_⟩
                    · rw [str_len_append, str_len_append, l1, l2, lenL]
                      omega
                    · rw [str_len_append, str_len_append, l1, l2, lenL]
                      omega
                    · rw [str_cps_append, str_cps_append, cutS_to B at' hat, cutS_from B at' hat] at hd
                      rcases List.mem_append.mp hd with hd | hd
                      · rcases List.mem_append.mp hd with hd | hd
                        · exact hBc d (List.mem_of_mem_take hd)
                        · have : d = c := by simpa using hd
                          rw [this]
                          exact ⟨hc0, hc1⟩
                      · exact hBc d (List.mem_of_mem_drop hd)
            · obtain ⟨xs, e8, l8, c8, m8⟩ := h8
              exact q D8 xs H8 (by omega) c8 (dH7.free hB nD8) e8 (dH7.trans (Dr.of m8))
end
end Fm
namespace Fm
open PySem PySem.Spec PyProof.Rows L2
def sp_term (K : PySem.W.Frag) (d : Nat) : Sp := fun vs H Q _ => ∃ (b nm : Addr) (xs : List Str) (many deep : Int), vs = [.ref b, .ref nm, .int many, .int deep] ∧ Bag H b ∧
  H nm = some (.lst (xs.map V.str)) ∧ nm ≠ b ∧ xs ≠ [] ∧ xs.length ≤ 1000 ∧ (∀ x ∈ xs, Nm x) ∧ 0 ≤ many ∧ many ≤ 1000000 ∧ deep.toNat < d ∧
  ∀ v (t : Tm) H', t.ok (fun i => 0 ≤ i ∧ i < many) → t.dep ≤ max deep.toNat 1 → (0 < many → t.dep ≤ deep.toNat) → Im K H' v t.d → Dr b H H' → Q v H'
local macro_rules | `(tactic| walk_at "nn") => `(tactic| dsimp only [tC, tNil, tCons, tCB, tCall, gName, tSeq, tAsg, tPar, tDrop, tRet])
section
variable {P : Program} {w : World} {K : PySem.W.Frag} {mg : Str → Option Value} {base : Heap}
theorem ok__law_term (T : TX K mg) : ∀ d : Nat, FnOk P w K mg base CX0 (d + 2) T.d__law_term.f T.d__law_term.fd P__law_term (sp_term K d)
  | 0 => ⟨fun vs H Q E h => by obtain ⟨_, _, _, _, _, _, _, _, _, _, _, _, _, _, h, _⟩ := h; omega, fun _ _ _ _ _ _ _ _ _ _ _ _ _ h => by obtain ⟨_, _, _, _, _, _, _, _, _, _, _, _, _, _, h, _⟩ := h; omega⟩
  | d + 1 => by
    have G__law_term := ok__law_term T d
    have G__law_take : FnOk P w K mg base CX0 1 T.d__law_take.f T.d__law_take.fd P__law_take sp_take := ok__law_take T
    refine T.d__law_term.F.ok sc__law_term (fun vs H Q E h => ?_) (fun cdv A outer s H vs Q E hr h => ?_)
    · obtain ⟨b, nm, xs, many, deep, rfl, _⟩ := h
      rfl
    · obtain ⟨b, nm, xs, many, deep, rfl, hB, hN, hnb, hx0, hx1, hxN, hm0, hm1, hd, q⟩ := h
      have hu64 := hr.units
      have hlen : 0 < xs.length := List.length_pos_iff.mpr hx0
      refine ⟨_, (pss_cons (ps_set (i := 4) sc__law_term.nd rfl (Or.inl rfl) (pe_call G__law_take (hr.mono (by omega)) rfl T.d__law_take.g T.d__law_take.F.kp T.d__law_take.b .nil pass0 (pa_cons (pv 0) (pa_cons pe_int pa_nil)))) (pss_cons (ps_if (PW.pt (pw_and (pt_cmpR op_gt (pv 2) pe_int (nomark _)) (pw_and1 (PW.pt (pw_or (pt_cmpR op_lt (pv 3) pe_int (nomark _)) (pw_or1 (pt_cmpR (r := rEqG K) (op_eqG hu64) (pv 4) pe_int (nomark _)))))))) (pss_one (ps_ret (pe_call G__law_take (hr.mono (by omega)) rfl T.d__law_take.g T.d__law_take.F.kp T.d__law_take.b .nil pass0 (pa_cons (pv 0) (pa_cons (pv 2) pa_nil))))) pss_nil) (pss_cons (ps_par (i := 5) (j := 6) rfl sc__law_term.nd rfl rfl (by decide) rfl rfl (pa_cons (pe_ix (r := rIx K) ix_seq (pv 1) (pe_call G__law_take (hr.mono (by omega)) rfl T.d__law_take.g T.d__law_take.F.kp T.d__law_take.b .nil pass0 (pa_cons (pv 0) (pa_cons (pe_callB (r := rLenG K) call_lenG (by rfl) T.b_len bt_len (pa_cons (pv 1) pa_nil)) pa_nil))) (fun _ _ => rfl)) (pa_cons (pe_call G__law_take (hr.mono (by omega)) rfl T.d__law_take.g T.d__law_take.F.kp T.d__law_take.b .nil pass0 (pa_cons (pv 0) (pa_cons pe_int pa_nil))) pa_nil)) rfl) (pss_cons (ps_if (PW.pt (pw_or (PW.pt (pw_and (pt_cmpR op_le (pv 3) pe_int (nomark _)) (pw_and1 (pt_cmpR (r := rEqG K) (op_eqG hu64) (pv 2) pe_int (nomark _))))) (pw_or1 (pt_cmpR (r := rEqG K) (op_eqG hu64) (pv 4) pe_int (nomark _))))) (pss_one (ps_ret (pe_tup (pa_cons (pv 5) pa_nil)))) pss_nil) (pss_one (ps_ret (pe_op (r := rAddG K) op_addG (pe_tup (pa_cons (pv 5) pa_nil)) (pe_callTy (r := rTupOf K) call_tupG (by rfl) T.b_tuple bt_tuple (pa_cons (pe_lc (own := [("_law_k", 7)]) (g := gName 7) (by rfl) sc__law_term.nd (pi_range1 (by rfl) T.b_range (pa_cons (pv 6) pa_nil)) (blkOk_by (own := [("_law_k", 7)]) (N := N__law_term) (sc := defScope s__law_term) (by decide +kernel)) (fun _ _ _ _ _ => pg_name (i := 7) sc__law_term.nd rfl (Or.inl rfl)) (fun _ _ _ _ _ => pts_nil) (fun _ _ _ _ _ => (pe_call G__law_term (hr.mono (by omega)) rfl T.d__law_term.g T.d__law_term.F.kp T.d__law_term.b .nil pass0 (pa_cons (pv 0) (pa_cons (pv 1) (pa_cons (pv 2) (pa_cons (pe_op op_sub (pv 3) pe_int) pa_nil))))))) pa_nil))))))))), ?_⟩
      -- way
      refine ⟨.ref b, rfl, b, 4, rfl, hB, by decide, by decide, fun way H1 hw0 hw1 d1 => ?_⟩
      have hB1 := d1.bag hB
      have hN1 := d1.get hnb hN
      dsimp only [gName, tSeq, tPar]
      refine st_if (tb_and (tb_test (tv_I (tv_var rfl) tv_c)) (tb_or (tb_test (tv_I (tv_var rfl) tv_c)) (tb_test (tv_eqI (tv_var rfl) tv_c)))) ?_ ?_
      · -- an unknown
        intro e
        simp only [Bool.and_eq_true, decide_eq_true_eq] at e
        refine ⟨.ref b, rfl, .int many, rfl, b, many, rfl, hB1, e.1, hm1, fun i H2 hi0 hi1 d2 => ?_⟩
        exact q _ (.var i) H2 ⟨hi0, hi1⟩ (by simp [Tm.dep]) (fun _ => by simp [Tm.dep]) (Im.int i) (d1.trans d2)
      · intro e
        have e1 : ¬ (0 < many ∧ deep < 1) := fun z => by simp [z.1, z.2] at e
        -- name, parts
        refine ⟨.ref nm, rfl, .ref b, rfl, .ref nm, rfl, ?_⟩
        walk_at "nn"
        refine rd_len (.inl (.inl (.inl hN1))) ?_
        refine ⟨b, _, rfl, hB1, by rw [List.length_map]; omega, by rw [List.length_map]; omega, fun ni H2 hn0 hn1 d2 => ?_⟩
        rw [List.length_map] at hn1
        have hni : ni.toNat < xs.length := by omega
        have hB2 := d2.bag hB1
        have hN2 := d2.get hnb hN1
        refine rd_ixL (.inl (.inl hN2)) hn0 (v := .str xs[ni.toNat]) (by rw [List.getElem?_map, List.getElem?_eq_getElem hni]; rfl) ?_
        obtain ⟨nx, hnx, hNm⟩ : ∃ nx, nx = xs[ni.toNat] ∧ Nm nx := ⟨_, rfl, hxN _ (List.getElem_mem hni)⟩
        rw [← hnx]
        refine ⟨.ref b, rfl, b, 4, rfl, hB2, by decide, by decide, fun parts H3 hp0 hp1 d3 => ⟨_, _, rfl, ?_⟩⟩
        have hB3 := d3.bag hB2
        have hN3 := d3.get hnb hN2
        have d13 := (d1.trans d2).trans d3
        refine st_if (tb_or (tb_and (tb_test (tv_I (tv_var rfl) tv_c)) (tb_test (tv_eqI (tv_var rfl) tv_c))) (tb_test (tv_eqI (tv_var rfl) tv_c))) ?_ ?_
        · -- a constant
          intro e
          refine ⟨_, rfl, (by decide : 1 ≤ sizeLine), fun p np => ?_⟩
          refine q _ (.op nx []) _ ⟨hNm, by simp, trivial⟩ (by simp [Tm.dep, Tm.deps]; omega) (fun z => ?_) (Im.tup (.inl (.inl upd_same)) (Ims.cons (Im.str nx) Ims.nil)) (d13.trans (Dr.new np))
          simp only [Tm.dep, Tm.deps]
          omega
        · intro e
          have e2 : ¬ (deep ≤ 1 ∧ many = 0) := fun z => by simp [z.1, z.2] at e
          have hdeep : 1 ≤ deep := by omega
          refine ⟨_, rfl, (by decide : 1 ≤ sizeLine), fun p np => ?_⟩
          have d4 := d13.trans (Dr.new (o := .tup [.str nx]) np)
          have e4 : SqT K (upd H3 p (.tup [.str nx])) p [.str nx] := .inl (.inl upd_same)
          have hB4 := d4.bag hB
          have hN4 := d4.get hnb hN
          generalize upd H3 p (.tup [.str nx]) = H4 at d4 e4 hB4 hN4 ⊢
          refine ⟨.int parts, rfl, parts, rfl, by omega, by omega, fun D nD => ?_⟩
          refine lc_range (lo := 0) (n := parts.toNat) (fun i H5 => ∃ (vs : List V) (ts : List Tm), H5 D = some (.lst vs) ∧ Ims K H5 vs (Tm.ds ts) ∧ ts.length = i ∧ Tm.oks (fun i => 0 ≤ i ∧ i < many) ts ∧ Tm.deps ts ≤ max (deep - 1).toNat 1 ∧ (0 < many → Tm.deps ts ≤ (deep - 1).toNat) ∧ Dr b H4 H5)
            ⟨[], [], upd_same, Ims.nil, rfl, trivial, by simp [Tm.deps], fun _ => by simp [Tm.deps], Dr.new nD⟩ (fun i H5 hi h5 => ?_) (fun H5 h5 => ?_)
          · obtain ⟨vs, ts, e5, i5, l5, o5, p5, r5, d5⟩ := h5
            have hB5 := d5.bag hB4
            have hN5 := d5.get hnb hN4
            refine ⟨rfl, .ref b, rfl, .ref nm, rfl, .int many, rfl, .int deep, rfl, deep, 1, rfl, rfl, b, nm, xs, many, deep - 1, rfl, hB5, hN5, hnb, hx0, hx1, hxN, hm0, hm1, by omega, fun v t H6 ho hd1 hd2 him d6 => ?_⟩
            refine ⟨_, d6.get (hB4.fneq nD) e5, ?_, vs ++ [v], ts ++ [t], upd_same, ?_, by simp [l5], ?_, ?_, fun z => ?_, (d5.trans d6).wr nD⟩
            · rw [i5.length, Tm.ds_map, List.length_map, l5]
              exact small1000 (by omega)
            · rw [show Tm.ds (ts ++ [t]) = Tm.ds ts ++ [t.d] by simp [Tm.ds_map]]
              exact ((i5.mv d6.mv).append (Ims.cons him Ims.nil)).mv (Mv.set (S := [D]) (d6.get (hB4.fneq nD) e5) (by simp))
            · rw [Tm.oks_iff] at o5 ⊢
              intro y hy
              rcases List.mem_append.mp hy with hy | hy
              · exact o5 y hy
              · rw [List.mem_singleton.mp hy]
                exact ho
            · rw [Tm.deps_le] at p5 ⊢
              intro y hy
              rcases List.mem_append.mp hy with hy | hy
              · exact p5 y hy
              · rw [List.mem_singleton.mp hy]
                exact hd1
            · have r5' := r5 z
              have hd2' := hd2 z
              rw [Tm.deps_le] at r5' ⊢
              intro y hy
              rcases List.mem_append.mp hy with hy | hy
              · exact r5' y hy
              · rw [List.mem_singleton.mp hy]
                exact hd2'
          · obtain ⟨vs, ts, e5, i5, l5, o5, p5, r5, d5⟩ := h5
            walk_at "nn"
            refine rd_tupOf (.inl (.inl e5)) fun p6 H6 m6 e6 => ?_
            refine rd_cat (m6.sqT (d5.mv.sqT e4)) e6 ?_ fun p7 H7 m7 e7 => ?_
            · rw [i5.length, Tm.ds_map, List.length_map, l5]
              exact Nat.le_of_lt (small1000 (by simp; omega))
            · refine q _ (.op nx ts) H7 ⟨hNm, by omega, o5⟩ ?_ (fun z => ?_) (Im.tup e7 ?_) (d4.trans (d5.trans (Dr.of (m6.trans m7))))
              · simp only [Tm.dep]
                omega
              · have := r5 z
                simp only [Tm.dep]
                omega
              · exact Ims.cons (Im.str nx) ((i5.mv m6).mv m7)
end
end Fm
namespace Fm
open PySem PySem.Spec PyProof.Rows L2
local macro_rules | `(tactic| walk_at "nn") => `(tactic| dsimp only [tC, tNil, tCons, tCB, tCall, gName, tSeq, tAsg, tPar, tDrop, tRet])
/-- values by numbers: in a list, a tuple, a dict -/
def Look1 (K : PySem.W.Frag) (H : Hp) (vals : V) (P : Int → Prop) (f : Int → Tm) : Prop := ∃ a, vals = .ref a ∧
  ((∃ xs, SqL K H a xs ∧ ∀ i, P i → 0 ≤ i ∧ ∃ v, xs[i.toNat]? = some v ∧ Im K H v (f i).d) ∨
   (∃ xs, SqT K H a xs ∧ ∀ i, P i → 0 ≤ i ∧ ∃ v, xs[i.toNat]? = some v ∧ Im K H v (f i).d) ∨
   (∃ kvs, H a = some (.dK kvs) ∧ ∀ i, P i → ∃ v, valV kvs (.inl i) = some v ∧ Im K H v (f i).d))
theorem Look1.mv {K : PySem.W.Frag} {H H' : Hp} {vals : V} {P : Int → Prop} {f : Int → Tm} (h : Look1 K H vals P f) (m : Mv [] H H') : Look1 K H' vals P f := by
  obtain ⟨a, rfl, h⟩ := h
  refine ⟨a, rfl, ?_⟩
  rcases h with ⟨xs, h1, h2⟩ | ⟨xs, h1, h2⟩ | ⟨xs, h1, h2⟩
  · refine .inl ⟨xs, m.same.seq h1, fun i hi => ?_⟩
    obtain ⟨h0, v, hv, hm⟩ := h2 i hi
    exact ⟨h0, v, hv, hm.mv m⟩
  · refine .inr (.inl ⟨xs, m.sqT h1, fun i hi => ?_⟩)
    obtain ⟨h0, v, hv, hm⟩ := h2 i hi
    exact ⟨h0, v, hv, hm.mv m⟩
  · refine .inr (.inr ⟨xs, m.same _ _ h1, fun i hi => ?_⟩)
    obtain ⟨v, hv, hm⟩ := h2 i hi
    exact ⟨v, hv, hm.mv m⟩
def sp_put (K : PySem.W.Frag) (d : Nat) : Sp := fun vs H Q _ => ∃ (v vals : V) (t : Tm) (P : Int → Prop) (f : Int → Tm), vs = [v, vals] ∧ Im K H v t.d ∧ t.ok P ∧ t.dep < d ∧ Look1 K H vals P f ∧
  ∀ v' H', Mv [] H H' → Im K H' v' (t.put f).d → Q v' H'
section
variable {P : Program} {w : World} {K : PySem.W.Frag} {mg : Str → Option Value} {base : Heap}

theorem ok_put (T : TX K mg) : ∀ d : Nat, FnOk P w K mg base CX0 (d + 1) T.d_put.f T.d_put.fd P_put (sp_put K d)
  | 0 => ⟨fun vs H Q E h => by obtain ⟨_, _, _, _, _, _, _, _, h, _⟩ := h; omega, fun _ _ _ _ _ _ _ _ _ _ _ _ _ h => by obtain ⟨_, _, _, _, _, _, _, _, h, _⟩ := h; omega⟩
  | d + 1 => by
    have G_put := ok_put T d
    refine T.d_put.F.ok sc_put (fun vs H Q E h => ?_) (fun cdv A outer s H vs Q E hr h => ?_)
    · obtain ⟨_, _, _, _, _, rfl, _⟩ := h
      rfl
    · obtain ⟨v, vals, t, R, f, rfl, him, hok, hdp, hlk, q⟩ := h
      have hu1 := hu_of hr
      refine ⟨_, (pss_cons (ps_if (pt_val (pe_callB (r := rIsi K) call_isi (by rfl) T.b_isinstance bt_isinstance (pa_cons (pv 0) (pa_cons (pe_ty T.b_int bt_int) pa_nil)))) (pss_one (ps_ret (pe_or2 (pe_ix (r := rIx K) ix_seq (pv 1) (pv 0) (fun _ _ => rfl)) (pe_dget hu1 (pv 1) (pv 0) (fun _ _ => rfl))))) pss_nil) (pss_one (ps_ret (pe_op (r := rAddG K) op_addG (pe_slice (r := rSlG K) sl_G (pv 0) po_none (po_some pe_int)) (pe_callTy (r := rTupOf K) call_tupG (by rfl) T.b_tuple bt_tuple (pa_cons (pe_lc (own := [("part", 2)]) (g := gName 2) (by rfl) sc_put.nd (pi_seq (pe_slice (r := rSlG K) sl_G (pv 0) (po_some pe_int) po_none)) (blkOk_by (own := [("part", 2)]) (N := N_put) (sc := defScope s_put) (by decide +kernel)) (fun _ _ _ _ _ => pg_name (i := 2) sc_put.nd rfl (Or.inl rfl)) (fun _ _ _ _ _ => pts_nil) (fun _ _ _ _ _ => (pe_call G_put (hr.mono (by omega)) rfl T.d_put.g T.d_put.F.kp T.d_put.b .nil pass0 (pa_cons (pv 2) (pa_cons (pv 1) pa_nil))))) pa_nil)))))), ?_⟩
      refine ⟨v, rfl, ?_⟩
      walk_at "nn"
      refine rd_isInt him ?_
      refine ⟨_, rfl, ?_⟩
      cases t with
      | var i =>
        cases him.intI
        obtain ⟨a, rfl, hlk⟩ := hlk
        rcases hlk with ⟨xs, h1, h2⟩ | ⟨xs, h1, h2⟩ | ⟨xs, h1, h2⟩
        · obtain ⟨h0, y, hy, hm⟩ := h2 i hok
          exact Or.inl ⟨.ref a, rfl, .int i, rfl, rd_ixL h1 h0 hy (q _ _ .refl hm)⟩
        · obtain ⟨h0, y, hy, hm⟩ := h2 i hok
          exact Or.inl ⟨.ref a, rfl, .int i, rfl, rd_ixT h1 h0 hy (q _ _ .refl hm)⟩
        · obtain ⟨y, hy, hm⟩ := h2 i hok
          exact Or.inr ⟨.ref a, rfl, .int i, rfl, a, y, rfl, by rw [← hy]; exact DGet.k (k := .inl i) h1, q _ _ .refl hm⟩
      | op x ts =>
        obtain ⟨a, xs0, rfl, ha, hxs⟩ := him.tupI
        obtain ⟨x', xs, rfl, hx', hys⟩ := hxs.invD
        cases hx'.strI
        refine ⟨.ref a, rfl, 1, rfl, rd_slA ha fun p1 H1 m1 e1 => ⟨.ref a, rfl, 1, rfl, rd_sl1 (m1.sqT ha) fun p2 H2 m2 e2 => ⟨p2, rfl, Or.inr ⟨⟨_, e2⟩, fun D nD => ?_⟩⟩⟩⟩
        have m12 := m1.trans m2
        have hl : xs.length = ts.length := by rw [hys.length, Tm.ds_map, List.length_map]
        refine lc_tup (K := K) (a := p2) (xs := xs) (fun i H3 => ∃ ys, H3 D = some (.lst ys) ∧ Ims K H3 ys (Tm.ds ((ts.take i).map (Tm.put f))) ∧ Mv [] H2 H3)
          ⟨[], upd_same, Ims.nil, .new nD⟩ (fun i H3 _ h3 => ?_) (fun i z H3 hz h3 => ?_) (fun H3 h3 => ?_)
        · obtain ⟨ys, _, _, m3⟩ := h3
          exact m3.sqT e2
        · obtain ⟨ys, e3, i3, m3⟩ := h3
          obtain ⟨zd, hzd, hzi⟩ := hys.get hz
          rw [Tm.ds_map, List.getElem?_map] at hzd
          obtain ⟨zt, hzt, rfl⟩ := Option.map_eq_some_iff.mp hzd
          have hmem := List.mem_of_getElem? hzt
          refine ⟨rfl, z, rfl, vals, rfl, z, vals, zt, R, f, rfl, hzi.mv (m12.trans m3), Tm.oks_iff.mp hok.2.2 zt hmem, ?_, hlk.mv (m12.trans m3), fun y H4 m4 h4 => ?_⟩
          · have h5 := Tm.deps_le.mp (show Tm.deps ts ≤ Tm.deps ts from Nat.le_refl _) zt hmem
            simp only [Tm.dep] at hdp
            omega
          · have e4 := m4.same _ _ e3
            refine ⟨_, e4, ?_, ys ++ [y], upd_same, ?_, (m3.trans m4).wr nD⟩
            · have h6 := (List.getElem?_eq_some_iff.mp hzt).1
              have h7 := hok.2.1
              rw [i3.length, Tm.ds_map, List.length_map, List.length_map, List.length_take]
              exact small1000 (by omega)
            · rw [List.take_add_one, hzt]
              rw [show Tm.ds (List.map (Tm.put f) (ts.take i ++ (some zt).toList)) = Tm.ds ((ts.take i).map (Tm.put f)) ++ [(zt.put f).d] by simp [Tm.ds_map]]
              exact ((i3.mv m4).append (Ims.cons h4 Ims.nil)).mv (Mv.set (S := [D]) e4 (by simp))
        · obtain ⟨ys, e3, i3, m3⟩ := h3
          rw [hl, List.take_length] at i3
          walk_at "nn"
          refine rd_tupOf (.inl (.inl e3)) fun p4 H4 m4 e4 => ?_
          refine rd_cat (m4.sqT (m3.sqT (m2.sqT e1))) e4 ?_ fun p5 H5 m5 e5 => ?_
          · have h7 := hok.2.1
            rw [i3.length, Tm.ds_map, List.length_map, List.length_map]
            exact Nat.le_of_lt (small1000 (by simp; omega))
          · refine q _ H5 (((m12.trans m3).trans m4).trans m5) (Im.tup e5 (Ims.cons (Im.str x) ?_))
            rw [← Tm.puts_map] at i3
            exact (i3.mv m4).mv m5

theorem ok__law_put (T : TX K mg) : ∀ d : Nat, FnOk P w K mg base CX0 (d + 1) T.d__law_put.f T.d__law_put.fd P__law_put (sp_put K d)
  | 0 => ⟨fun vs H Q E h => by obtain ⟨_, _, _, _, _, _, _, _, h, _⟩ := h; omega, fun _ _ _ _ _ _ _ _ _ _ _ _ _ h => by obtain ⟨_, _, _, _, _, _, _, _, h, _⟩ := h; omega⟩
  | d + 1 => by
    have G__law_put := ok__law_put T d
    refine T.d__law_put.F.ok sc__law_put (fun vs H Q E h => ?_) (fun cdv A outer s H vs Q E hr h => ?_)
    · obtain ⟨_, _, _, _, _, rfl, _⟩ := h
      rfl
    · obtain ⟨v, vals, t, R, f, rfl, him, hok, hdp, hlk, q⟩ := h
      have hu1 := hu_of hr
      refine ⟨_, (pss_cons (ps_if (pt_val (pe_callB (r := rIsi K) call_isi (by rfl) T.b_isinstance bt_isinstance (pa_cons (pv 0) (pa_cons (pe_ty T.b_int bt_int) pa_nil)))) (pss_one (ps_ret (pe_or2 (pe_ix (r := rIx K) ix_seq (pv 1) (pv 0) (fun _ _ => rfl)) (pe_dget hu1 (pv 1) (pv 0) (fun _ _ => rfl))))) pss_nil) (pss_one (ps_ret (pe_op (r := rAddG K) op_addG (pe_slice (r := rSlG K) sl_G (pv 0) po_none (po_some pe_int)) (pe_callTy (r := rTupOf K) call_tupG (by rfl) T.b_tuple bt_tuple (pa_cons (pe_lc (own := [("_law_part", 2)]) (g := gName 2) (by rfl) sc__law_put.nd (pi_seq (pe_slice (r := rSlG K) sl_G (pv 0) (po_some pe_int) po_none)) (blkOk_by (own := [("_law_part", 2)]) (N := N__law_put) (sc := defScope s__law_put) (by decide +kernel)) (fun _ _ _ _ _ => pg_name (i := 2) sc__law_put.nd rfl (Or.inl rfl)) (fun _ _ _ _ _ => pts_nil) (fun _ _ _ _ _ => (pe_call G__law_put (hr.mono (by omega)) rfl T.d__law_put.g T.d__law_put.F.kp T.d__law_put.b .nil pass0 (pa_cons (pv 2) (pa_cons (pv 1) pa_nil))))) pa_nil)))))), ?_⟩
      refine ⟨v, rfl, ?_⟩
      walk_at "nn"
      refine rd_isInt him ?_
      refine ⟨_, rfl, ?_⟩
      cases t with
      | var i =>
        cases him.intI
        obtain ⟨a, rfl, hlk⟩ := hlk
        rcases hlk with ⟨xs, h1, h2⟩ | ⟨xs, h1, h2⟩ | ⟨xs, h1, h2⟩
        · obtain ⟨h0, y, hy, hm⟩ := h2 i hok
          exact Or.inl ⟨.ref a, rfl, .int i, rfl, rd_ixL h1 h0 hy (q _ _ .refl hm)⟩
        · obtain ⟨h0, y, hy, hm⟩ := h2 i hok
          exact Or.inl ⟨.ref a, rfl, .int i, rfl, rd_ixT h1 h0 hy (q _ _ .refl hm)⟩
        · obtain ⟨y, hy, hm⟩ := h2 i hok
          exact Or.inr ⟨.ref a, rfl, .int i, rfl, a, y, rfl, by rw [← hy]; exact DGet.k (k := .inl i) h1, q _ _ .refl hm⟩
      | op x ts =>
        obtain ⟨a, xs0, rfl, ha, hxs⟩ := him.tupI
        obtain ⟨x', xs, rfl, hx', hys⟩ := hxs.invD
        cases hx'.strI
        refine ⟨.ref a, rfl, 1, rfl, rd_slA ha fun p1 H1 m1 e1 => ⟨.ref a, rfl, 1, rfl, rd_sl1 (m1.sqT ha) fun p2 H2 m2 e2 => ⟨p2, rfl, Or.inr ⟨⟨_, e2⟩, fun D nD => ?_⟩⟩⟩⟩
        have m12 := m1.trans m2
        have hl : xs.length = ts.length := by rw [hys.length, Tm.ds_map, List.length_map]
        refine lc_tup (K := K) (a := p2) (xs := xs) (fun i H3 => ∃ ys, H3 D = some (.lst ys) ∧ Ims K H3 ys (Tm.ds ((ts.take i).map (Tm.put f))) ∧ Mv [] H2 H3)
          ⟨[], upd_same, Ims.nil, .new nD⟩ (fun i H3 _ h3 => ?_) (fun i z H3 hz h3 => ?_) (fun H3 h3 => ?_)
        · obtain ⟨ys, _, _, m3⟩ := h3
          exact m3.sqT e2
        · obtain ⟨ys, e3, i3, m3⟩ := h3
          obtain ⟨zd, hzd, hzi⟩ := hys.get hz
          rw [Tm.ds_map, List.getElem?_map] at hzd
          obtain ⟨zt, hzt, rfl⟩ := Option.map_eq_some_iff.mp hzd
          have hmem := List.mem_of_getElem? hzt
          refine ⟨rfl, z, rfl, vals, rfl, z, vals, zt, R, f, rfl, hzi.mv (m12.trans m3), Tm.oks_iff.mp hok.2.2 zt hmem, ?_, hlk.mv (m12.trans m3), fun y H4 m4 h4 => ?_⟩
          · have h5 := Tm.deps_le.mp (show Tm.deps ts ≤ Tm.deps ts from Nat.le_refl _) zt hmem
            simp only [Tm.dep] at hdp
            omega
          · have e4 := m4.same _ _ e3
            refine ⟨_, e4, ?_, ys ++ [y], upd_same, ?_, (m3.trans m4).wr nD⟩
            · have h6 := (List.getElem?_eq_some_iff.mp hzt).1
              have h7 := hok.2.1
              rw [i3.length, Tm.ds_map, List.length_map, List.length_map, List.length_take]
              exact small1000 (by omega)
            · rw [List.take_add_one, hzt]
              rw [show Tm.ds (List.map (Tm.put f) (ts.take i ++ (some zt).toList)) = Tm.ds ((ts.take i).map (Tm.put f)) ++ [(zt.put f).d] by simp [Tm.ds_map]]
              exact ((i3.mv m4).append (Ims.cons h4 Ims.nil)).mv (Mv.set (S := [D]) e4 (by simp))
        · obtain ⟨ys, e3, i3, m3⟩ := h3
          rw [hl, List.take_length] at i3
          walk_at "nn"
          refine rd_tupOf (.inl (.inl e3)) fun p4 H4 m4 e4 => ?_
          refine rd_cat (m4.sqT (m3.sqT (m2.sqT e1))) e4 ?_ fun p5 H5 m5 e5 => ?_
          · have h7 := hok.2.1
            rw [i3.length, Tm.ds_map, List.length_map, List.length_map]
            exact Nat.le_of_lt (small1000 (by simp; omega))
          · refine q _ H5 (((m12.trans m3).trans m4).trans m5) (Im.tup e5 (Ims.cons (Im.str x) ?_))
            rw [← Tm.puts_map] at i3
            exact (i3.mv m4).mv m5

end
end Fm
namespace Fm
open PySem PySem.Spec PyProof.Rows L2
local macro_rules | `(tactic| walk_at "nn") => `(tactic| dsimp only [tC, tNil, tCons, tCB, tCall, gName, tSeq, tAsg, tPar, tDrop, tRet])
theorem line5 {n : Nat} (h : n ≤ 100000) : n ≤ sizeLine := Nat.le_trans h (by decide)
theorem line5lt {n : Nat} (h : n ≤ 100000) : n < sizeLine := Nat.lt_of_le_of_lt h (by decide)
theorem Tm.mem_parts {x : Str} {us ts : List Tm} (h : Tm.op x us ∈ ts) : Tm.deps us < Tm.deps ts := by
  have := Tm.deps_le.mp (show Tm.deps ts ≤ Tm.deps ts from Nat.le_refl _) _ h
  simp only [Tm.dep] at this
  omega
theorem Tm.lv_mem : ∀ {t : Tm} {ts : List Tm}, t ∈ ts → t.lv ≤ Tm.lvs ts
  | t, u :: ts, h => by
    rcases List.mem_cons.mp h with rfl | h
    · simp only [Tm.lvs]; omega
    · have := Tm.lv_mem h
      simp only [Tm.lvs]; omega
theorem Tm.lvs_take : ∀ (i : Nat) (ts : List Tm), Tm.lvs (ts.take i) ≤ Tm.lvs ts
  | 0, ts => by simp [Tm.lvs]
  | i + 1, [] => by simp [Tm.lvs]
  | i + 1, t :: ts => by
    have := Tm.lvs_take i ts
    simp only [List.take_succ_cons, Tm.lvs]
    omega
def sp_leavesR (K : PySem.W.Frag) (d : Nat) : Sp := fun vs H Q _ => ∃ (a : Addr) (xs : List V) (ts : List Tm), vs = [.ref a] ∧ (SqL K H a xs ∨ SqT K H a xs) ∧ Ims K H xs (Tm.ds ts) ∧ Tm.deps ts < d ∧ Tm.lvs ts ≤ 100000 ∧
  ∀ p H', H p = none → Mv [] H H' → H' p = some (.lst ((Tm.leavesL ts).map V.int)) → Q (.ref p) H'
def sp_sizeR (K : PySem.W.Frag) (d : Nat) : Sp := fun vs H Q _ => ∃ (a : Addr) (xs : List V) (ts : List Tm), vs = [.ref a] ∧ (SqL K H a xs ∨ SqT K H a xs) ∧ Ims K H xs (Tm.ds ts) ∧ Tm.deps ts < d ∧ ts.length ≤ 100000 ∧ Tm.oks (fun _ => True) ts ∧
  ∀ H', Mv [] H H' → Q (.int (Tm.sizes ts)) H'
section
variable {P : Program} {w : World} {K : PySem.W.Frag} {mg : Str → Option Value} {base : Heap}
theorem ok__law_leaves (T : TX K mg) : ∀ d : Nat, FnOk P w K mg base CX0 (d + 1) T.d__law_leaves.f T.d__law_leaves.fd P__law_leaves (sp_leavesR K d)
  | 0 => ⟨fun vs H Q E h => by obtain ⟨_, _, _, _, _, _, h, _⟩ := h; omega, fun _ _ _ _ _ _ _ _ _ _ _ _ _ h => by obtain ⟨_, _, _, _, _, _, h, _⟩ := h; omega⟩
  | d + 1 => by
    have G__law_leaves := ok__law_leaves T d
    refine T.d__law_leaves.F.ok sc__law_leaves (fun vs H Q E h => ?_) (fun cdv A outer s H vs Q E hr h => ?_)
    · obtain ⟨_, _, _, rfl, _⟩ := h
      rfl
    · obtain ⟨a, xs, ts, rfl, hS, hxs, hdp, hlv, q⟩ := h
      refine ⟨_, (pss_cons (ps_set (i := 1) sc__law_leaves.nd rfl (Or.inl rfl) (pe_lst pa_nil)) (pss_cons (ps_for PassesOwn.never rfl (pi_seq (pv 0)) (pg_name (i := 2) sc__law_leaves.nd rfl (Or.inl rfl)) (pss_one (ps_set (i := 1) sc__law_leaves.nd rfl (Or.inl rfl) (pe_op (r := rAddG K) op_addG (pv 1) (pe_ifExp (pt_val (pe_callB (r := rIsi K) call_isi (by rfl) T.b_isinstance bt_isinstance (pa_cons (pv 2) (pa_cons (pe_ty T.b_int bt_int) pa_nil)))) (pe_lst (pa_cons (pv 2) pa_nil)) (pe_call G__law_leaves (hr.mono (by omega)) rfl T.d__law_leaves.g T.d__law_leaves.F.kp T.d__law_leaves.b .nil pass0 (pa_cons (pe_slice (r := rSlG K) sl_G (pv 2) (po_some pe_int) po_none) pa_nil))))))) (pss_one (ps_ret (pv 1))))), ?_⟩
      have hl : xs.length = ts.length := by rw [hxs.length, Tm.ds_map, List.length_map]
      refine ⟨Nat.zero_le _, fun p0 n0 => ⟨.ref a, rfl, a, rfl, ?_⟩⟩
      have m0 : Mv [] H (upd H p0 (.lst [])) := .new n0
      refine for_seq (xs := xs) (hS.elim (fun h => .inl (m0.same.seq h)) (fun h => .inr (m0.sqT h))) (fun i σ H1 => ∃ p y, σ = [some (.ref a), some (.ref p), y] ∧ H p = none ∧ H1 p = some (.lst ((Tm.leavesL (ts.take i)).map V.int)) ∧ Mv [] (upd H p0 (.lst [])) H1)
        ⟨p0, none, rfl, n0, upd_same, .refl⟩ (fun i σ H1 h1 => ?_) (fun i x σ H1 hx h1 => ?_) (fun σ H1 h1 => ?_)
      · obtain ⟨_, _, _, _, _, m⟩ := h1
        exact m
      · obtain ⟨p, y, rfl, np, ep, m⟩ := h1
        have mH := m0.trans m
        obtain ⟨xd, hxd, him⟩ := hxs.get hx
        rw [Tm.ds_map, List.getElem?_map] at hxd
        obtain ⟨t, ht, rfl⟩ := Option.map_eq_some_iff.mp hxd
        have hmem := List.mem_of_getElem? ht
        have htake : Tm.leavesL (ts.take (i + 1)) = Tm.leavesL (ts.take i) ++ t.leaves := by
          rw [List.take_add_one, ht, Tm.leavesL_append]
          simp [Tm.leavesL]
        have hb : (Tm.leavesL (ts.take i)).length + t.leaves.length ≤ 100000 := by
          have h1 := Tm.lvs_take (i + 1) ts
          rw [← Tm.leavesL_len, htake, List.length_append] at h1
          omega
        refine ⟨.ref p, rfl, x, rfl, ?_⟩
        walk_at "nn"
        refine rd_isInt (him.mv mH) ?_
        refine ⟨_, rfl, ?_⟩
        cases t with
        | var j =>
          cases him.intI
          refine ⟨.int j, rfl, (by decide : 1 ≤ sizeLine), fun p1 n1 => ?_⟩
          refine rd_catL (by rw [upd_ne (ne_of_none ep n1)]; exact ep) upd_same (line5 (by simpa [Tm.leaves] using hb)) fun p2 H2 n2 m2 e2 => ?_
          refine ⟨p2, _, rfl, ((mH.trans (.new n1)).free n2), ?_, m.trans ((Mv.new n1).trans m2)⟩
          rw [e2, htake, List.map_append]
          rfl
        | op x us =>
          obtain ⟨a1, ys0, rfl, ha1, hys⟩ := him.tupI
          obtain ⟨x', ys, rfl, hx', hzs⟩ := hys.invD
          refine ⟨.ref a1, rfl, 1, rfl, rd_sl1 (mH.sqT ha1) fun p1 H2 m1 e1 => ?_⟩
          have hlt := Tm.mem_parts hmem
          have hle := Tm.lv_mem hmem
          refine ⟨p1, ys, us, rfl, .inr e1, (hzs.mv mH).mv m1, by omega, by simp only [Tm.lv] at hle; omega, fun p2 H3 n2 m2 e2 => ?_⟩
          refine rd_catL ((m1.trans m2).same _ _ ep) e2 (line5 (by simpa [Tm.leaves] using hb)) fun p3 H4 n3 m3 e3 => ?_
          refine ⟨p3, _, rfl, ((mH.trans (m1.trans m2)).free n3), ?_, m.trans ((m1.trans m2).trans m3)⟩
          rw [e3, htake, List.map_append]
          simp [Tm.leaves]
      · obtain ⟨p, y, rfl, np, ep, m⟩ := h1
        rw [hl, List.take_length] at ep
        exact ⟨.ref p, rfl, q p H1 np (m0.trans m) ep⟩
theorem sizes_sum : ∀ ts : List Tm, (ts.map fun t => ((t.size : Nat) : Int)).sum = ((Tm.sizes ts : Nat) : Int)
  | [] => by simp [Tm.sizes]
  | t :: ts => by
    rw [List.map_cons, List.sum_cons, sizes_sum ts]
    simp only [Tm.sizes]
    omega
theorem ok__law_size (T : TX K mg) : ∀ d : Nat, FnOk P w K mg base CX0 (d + 1) T.d__law_size.f T.d__law_size.fd P__law_size (sp_sizeR K d)
  | 0 => ⟨fun vs H Q E h => by obtain ⟨_, _, _, _, _, _, h, _⟩ := h; omega, fun _ _ _ _ _ _ _ _ _ _ _ _ _ h => by obtain ⟨_, _, _, _, _, _, h, _⟩ := h; omega⟩
  | d + 1 => by
    have G__law_size := ok__law_size T d
    refine T.d__law_size.F.ok sc__law_size (fun vs H Q E h => ?_) (fun cdv A outer s H vs Q E hr h => ?_)
    · obtain ⟨_, _, _, rfl, _⟩ := h
      rfl
    · obtain ⟨a, xs, ts, rfl, hS, hxs, hdp, hln, hok, q⟩ := h
      refine ⟨_, (pss_one (ps_ret (pe_callB (r := rSum K) (cr_sum rfl) (by rfl) T.b_sum bt_sum (pa_cons (pe_lc (own := [("_law_term_here", 1)]) (g := gName 1) (by rfl) sc__law_size.nd (pi_seq (pv 0)) (blkOk_by (own := [("_law_term_here", 1)]) (N := N__law_size) (sc := defScope s__law_size) (by decide +kernel)) (fun _ _ _ _ _ => pg_name (i := 1) sc__law_size.nd rfl (Or.inl rfl)) (fun _ _ _ _ _ => pts_nil) (fun _ _ _ _ _ => (pe_ifExp (pt_val (pe_callB (r := rIsi K) call_isi (by rfl) T.b_isinstance bt_isinstance (pa_cons (pv 1) (pa_cons (pe_ty T.b_int bt_int) pa_nil)))) pe_int (pe_op (r := rAddG K) op_addG pe_int (pe_call G__law_size (hr.mono (by omega)) rfl T.d__law_size.g T.d__law_size.F.kp T.d__law_size.b .nil pass0 (pa_cons (pe_slice (r := rSlG K) sl_G (pv 1) (po_some pe_int) po_none) pa_nil)))))) pa_nil)))), ?_⟩
      have hl : xs.length = ts.length := by rw [hxs.length, Tm.ds_map, List.length_map]
      refine ⟨.ref a, rfl, a, rfl, ?_⟩
      refine lc_seq (xs := xs) hS (fun i D H1 => H1 D = some (.lst (((ts.take i).map fun t => ((t.size : Nat) : Int)).map V.int)) ∧ Mv [] H H1)
        (fun D nD => ⟨upd_same, .new nD⟩) (fun i D H1 nD h1 => h1.2) (fun D nD i x H1 hx h1 => ?_) (fun D H1 nD h1 => ?_)
      · obtain ⟨e1, m1⟩ := h1
        obtain ⟨xd, hxd, him⟩ := hxs.get hx
        rw [Tm.ds_map, List.getElem?_map] at hxd
        obtain ⟨t, ht, rfl⟩ := Option.map_eq_some_iff.mp hxd
        have hmem := List.mem_of_getElem? ht
        have hi : i < ts.length := (List.getElem?_eq_some_iff.mp ht).1
        have htake : (ts.take (i + 1)).map (fun t => ((t.size : Nat) : Int)) = (ts.take i).map (fun t => ((t.size : Nat) : Int)) ++ [(t.size : Int)] := by
          rw [List.take_add_one, ht]
          simp
        refine ⟨rfl, x, rfl, ?_⟩
        walk_at "nn"
        refine rd_isInt (him.mv m1) ?_
        refine ⟨_, rfl, ?_⟩
        cases t with
        | var j =>
          refine ⟨_, e1, ?_, ?_, m1.wr nD⟩
          · rw [List.length_map, List.length_map, List.length_take]
            exact line5lt (by omega)
          · rw [upd_same, htake, List.map_append]
            rfl
        | op x us =>
          obtain ⟨a1, ys0, rfl, ha1, hys⟩ := him.tupI
          obtain ⟨x', ys, rfl, hx', hzs⟩ := hys.invD
          have hlt := Tm.mem_parts hmem
          have hok1 := Tm.oks_iff.mp hok _ hmem
          refine ⟨.ref a1, rfl, 1, rfl, rd_sl1 (m1.sqT ha1) fun p1 H2 m2 e2 => ?_⟩
          refine ⟨p1, ys, us, rfl, .inr e2, (hzs.mv m1).mv m2, by omega, by have := hok1.2.1; omega, hok1.2.2, fun H3 m3 => ?_⟩
          refine Or.inl ⟨1, _, rfl, rfl, _, (m2.trans m3).same _ _ e1, ?_, ?_, ((m1.trans m2).trans m3).wr nD⟩
          · rw [List.length_map, List.length_map, List.length_take]
            exact line5lt (by omega)
          · rw [upd_same, htake, List.map_append]
            have e9 : (1 : Int) + ((Tm.sizes us : Nat) : Int) = (((Tm.op x us).size : Nat) : Int) := by simp only [Tm.size]; omega
            show some (HO.lst (_ ++ [V.int ((1 : Int) + ((Tm.sizes us : Nat) : Int))])) = _
            rw [e9]
            rfl
      · obtain ⟨e1, m1⟩ := h1
        rw [hl, List.take_length] at e1
        refine ⟨D, _, rfl, .inl (.inl e1), ?_⟩
        rw [sizes_sum]
        exact q H1 m1
end
end Fm
namespace Fm
open PySem PySem.Spec PyProof.Rows L2
local macro_rules | `(tactic| walk_at "nn") => `(tactic| dsimp only [tC, tNil, tCons, tCB, tCall, gName, tSeq, tAsg, tPar, tDrop, tRet])
/-- how many operations and unknowns -/
def Tm.nod (ts : List Tm) : Nat := Tm.sizes ts + Tm.lvs ts
theorem Tm.nod_len : ∀ ts : List Tm, ts.length ≤ Tm.nod ts
  | [] => Nat.zero_le _
  | t :: ts => by
    have h := Tm.nod_len ts
    have h1 : 1 ≤ t.size + t.lv := by cases t <;> simp [Tm.size, Tm.lv] <;> omega
    simp only [Tm.nod, Tm.sizes, Tm.lvs, List.length_cons] at *
    omega
theorem Tm.nod_append (ts us : List Tm) : Tm.nod (ts ++ us) = Tm.nod ts + Tm.nod us := by
  unfold Tm.nod
  rw [Tm.sizes_append, Tm.lvs_append]
  omega
theorem Tm.nod_op (x : Str) (us : List Tm) : Tm.nod [Tm.op x us] = Tm.nod us + 1 := by
  simp only [Tm.nod, Tm.sizes, Tm.lvs, Tm.size, Tm.lv]
  omega
theorem Tm.nod_var (i : Int) : Tm.nod [Tm.var i] = 1 := by simp [Tm.nod, Tm.sizes, Tm.lvs, Tm.size, Tm.lv]
theorem Tm.nod_rev : ∀ ts : List Tm, Tm.nod ts.reverse = Tm.nod ts
  | [] => rfl
  | t :: ts => by
    rw [List.reverse_cons, Tm.nod_append, Tm.nod_rev ts, show t :: ts = [t] ++ ts from rfl, Tm.nod_append]
    omega
theorem Tm.ds_append (ts us : List Tm) : Tm.ds (ts ++ us) = Tm.ds ts ++ Tm.ds us := by simp [Tm.ds_map]
theorem Tm.ds_rev (ts : List Tm) : Tm.ds ts.reverse = (Tm.ds ts).reverse := by simp [Tm.ds_map]
section
variable {K : PySem.W.Frag} {H : Hp}
theorem Ims.reverse : ∀ {ds : List PyData} {vs : List V}, Ims K H vs ds → Ims K H vs.reverse ds.reverse
  | [], _, h => by rw [h.nilD]; exact Ims.nil
  | d :: ds, _, h => by
    obtain ⟨v, vs', rfl, h1, h2⟩ := h.invD
    rw [List.reverse_cons, List.reverse_cons]
    exact h2.reverse.append (Ims.cons h1 Ims.nil)
/-- the last one -/
theorem Ims.last {vs : List V} {ds : List PyData} {d : PyData} (h : Ims K H vs (ds ++ [d])) : ∃ vs' v, vs = vs' ++ [v] ∧ Ims K H vs' ds ∧ Im K H v d := by
  have hr := h.reverse
  rw [List.reverse_append] at hr
  obtain ⟨v, vs', e, h1, h2⟩ := hr.invD
  refine ⟨vs'.reverse, v, ?_, ?_, h1⟩
  · have := congrArg List.reverse e
    simpa using this
  · have := h2.reverse
    simpa using this
/-- a list of terms is compared with the empty one -/
theorem rd_neNil {l q : Addr} {ys : List V} {us : List Tm} {P : Int → Prop} {Q : VK} (hP : ∀ i, P i → i.natAbs < 10 ^ 40) (hl : H l = some (.lst ys)) (hq : H q = some (.lst [])) (hi : Ims K H ys (Tm.ds us)) (ho : Tm.oks P us) (hd : Tm.deps us ≤ 50)
    (h : Q (.bl (!us.isEmpty)) H) : rNeG K (.ref l) (.ref q) H Q := by
  have s1 : SeqAt.shaped (.list (Tm.ds us)) = true := by
    show (PyData.canLay0 (.list (Tm.ds us)) && decide (PyData.depth (.list (Tm.ds us)) ≤ 64)) = true
    have e := (fine_lay (.list (Tm.ds us)) (fine_ds hP us ho)).1
    have e2 : PyData.depth (.list (Tm.ds us)) ≤ 64 := by
      simp only [PyData.depth, depth_ds]
      omega
    rw [e, decide_eq_true e2]
    rfl
  refine Or.inr ⟨.list (Tm.ds us), .list [], .lst (.inl (.inl hl)) hi.dp, .lst (.inl (.inl hq)) .nil, s1, by decide, ?_⟩
  rw [eqv_nil]
  have e : (Tm.ds us).isEmpty = us.isEmpty := by cases us <;> simp [Tm.ds]
  rw [e]
  exact h
end
def sp_size (K : PySem.W.Frag) : Sp := fun vs H Q _ => ∃ (a : Addr) (xs : List V) (ts : List Tm) (P : Int → Prop), vs = [.ref a] ∧ (SqL K H a xs ∨ SqT K H a xs) ∧ Ims K H xs (Tm.ds ts) ∧ Tm.oks P ts ∧ (∀ i, P i → i.natAbs < 10 ^ 40) ∧ Tm.deps ts ≤ 50 ∧
  Tm.nod ts ≤ 100000 ∧ ∀ H', Mv [] H H' → Q (.int (Tm.sizes ts)) H'
def sp_leaves (K : PySem.W.Frag) : Sp := fun vs H Q _ => ∃ (a : Addr) (xs : List V) (ts : List Tm) (P : Int → Prop), vs = [.ref a] ∧ (SqL K H a xs ∨ SqT K H a xs) ∧ Ims K H xs (Tm.ds ts) ∧ Tm.oks P ts ∧ (∀ i, P i → i.natAbs < 10 ^ 40) ∧ Tm.deps ts ≤ 50 ∧
  Tm.nod ts ≤ 100000 ∧ ∀ p H', H p = none → Mv [] H H' → H' p = some (.lst ((Tm.leavesL ts).map V.int)) → Q (.ref p) H'
section
variable {P : Program} {w : World} {K : PySem.W.Frag} {mg : Str → Option Value} {base : Heap}
theorem ok_size (T : TX K mg) {k : Nat} : FnOk P w K mg base CX0 (k + 1) T.d_size.f T.d_size.fd P_size (sp_size K) := by
  refine T.d_size.F.ok sc_size (fun vs H Q E h => ?_) (fun cdv A outer s H vs Q E hr h => ?_)
  · obtain ⟨_, _, _, _, rfl, _⟩ := h
    rfl
  · obtain ⟨a, xs, ts, R, rfl, hS, hxs, hok, hR, hdp, hnd, q⟩ := h
    have hu64 := hr.units
    refine ⟨_, (pss_cons (ps_par (i := 1) (j := 2) rfl sc_size.nd rfl rfl (by decide) rfl rfl (pa_cons pe_int (pa_cons (pe_callTy (r := rListOf K) call_listG (by rfl) T.b_list bt_list (pa_cons (pv 0) pa_nil)) pa_nil)) rfl) (pss_cons (ps_while PassesOwn.never (pt_cmpR (r := rNeG K) (op_neG hu64) (pv 2) (pe_lst pa_nil) (nomark _)) (pss_cons (ps_set (i := 3) sc_size.nd rfl (Or.inl rfl) (pe_bm0 PySem.F.plainAttrs_list PySem.F.slot_list_pop PySem.F.type_list_pop mt_pop (pv 2))) (pss_one (ps_if (pt_not (pt_val (pe_callB (r := rIsi K) call_isi (by rfl) T.b_isinstance bt_isinstance (pa_cons (pv 3) (pa_cons (pe_ty T.b_int bt_int) pa_nil))))) (pss_cons (ps_set (i := 1) sc_size.nd rfl (Or.inl rfl) (pe_op (r := rAddG K) op_addG (pv 1) pe_int)) (pss_one (ps_expr (pe_bm PySem.F.plainAttrs_list PySem.F.slot_list_extend PySem.F.type_list_extend (r := rExtG K) mt_extendG (pv 2) (pa_cons (pe_slice (r := rSlG K) sl_G (pv 3) (po_some pe_int) po_none) pa_nil))))) pss_nil)))) (pss_one (ps_ret (pv 1))))), ?_⟩
    refine ⟨.ref a, rfl, ?_⟩
    walk_at "nn"
    refine rd_listOf hS fun l H1 nl m1 e1 => ⟨_, _, rfl, ?_⟩
    refine ⟨fun m σ H2 => ∃ (ys : List V) (us : List Tm) (n : Int) (y : Option V), σ = [some (.ref a), some (.int n), some (.ref l), y] ∧ H2 l = some (.lst ys) ∧ Ims K H2 ys (Tm.ds us) ∧ Tm.oks R us ∧ Tm.deps us ≤ 50 ∧
      n + (Tm.sizes us : Nat) = (Tm.sizes ts : Nat) ∧ Tm.nod us ≤ 100000 ∧ m = Tm.nod us ∧ Mv [] H H2, ⟨_, xs, ts, 0, none, rfl, e1, hxs.mv m1, hok, hdp, by omega, hnd, rfl, m1⟩, fun m σ H2 hW => ?_⟩
    obtain ⟨ys, us, n, y, rfl, e2, i2, o2, d2, s2, b2, rfl, m2⟩ := hW
    refine ⟨.ref l, rfl, Nat.zero_le _, fun q1 n1 => ?_⟩
    have nq : l ≠ q1 := ne_of_none e2 n1
    have m3 : Mv [] H2 (upd H2 q1 (.lst [])) := .new n1
    have e3 : upd H2 q1 (.lst []) l = some (.lst ys) := m3.same _ _ e2
    refine rd_neNil hR e3 upd_same (i2.mv m3) o2 d2 ?_
    have m23 := m2.trans m3
    have i3 := i2.mv m3
    generalize upd H2 q1 (.lst []) = H3 at m3 e3 m23 i3 ⊢
    refine ⟨_, rfl, ?_⟩
    rcases List.eq_nil_or_concat us with rfl | ⟨us', u, rfl⟩
    · refine ⟨.int n, rfl, ?_⟩
      have e : n = (Tm.sizes ts : Nat) := by
        simp only [Tm.sizes] at s2
        omega
      rw [e]
      exact q H3 m23
    · rw [List.concat_eq_append] at *
      rw [show (!(us' ++ [u]).isEmpty) = true by simp]
      rw [Tm.ds_append] at i3
      obtain ⟨ys', z, rfl, i4, hz⟩ := Ims.last (ds := Tm.ds us') (d := u.d) i3
      refine ⟨fun σ' H' => ∃ m', m' < Tm.nod (us' ++ [u]) ∧ _, fun _ _ h => h, ?_⟩
      -- term = waiting.pop()
      refine ⟨.ref l, rfl, .inl ⟨rfl, _, .inl (.inl e3)⟩, l, _, z, rfl, rfl, e3, by simp, ?_⟩
      have m5 : Mv [l] H3 (upd H3 l (.lst (ys' ++ [z]).dropLast)) := .set e3 (by simp)
      have m25 : Mv [] H (upd H3 l (.lst (ys' ++ [z]).dropLast)) := m23.wr nl
      have e5 : upd H3 l (.lst (ys' ++ [z]).dropLast) l = some (.lst ys') := by rw [upd_same, List.dropLast_concat]
      generalize upd H3 l (.lst (ys' ++ [z]).dropLast) = H5 at m5 m25 e5 ⊢
      refine ⟨z, rfl, ?_⟩
      walk_at "nn"
      refine rd_isInt (hz.mv m5) ?_
      refine ⟨_, rfl, ?_⟩
      have o' : Tm.oks R us' ∧ u.ok R := ⟨Tm.oks_iff.mpr fun t ht => Tm.oks_iff.mp o2 t (by simp [ht]), Tm.oks_iff.mp o2 u (by simp)⟩
      have d' : Tm.deps us' ≤ 50 ∧ u.dep ≤ 50 := ⟨Tm.deps_le.mpr fun t ht => Tm.deps_le.mp d2 t (by simp [ht]), Tm.deps_le.mp d2 u (by simp)⟩
      rw [Tm.nod_append] at b2 ⊢
      rw [Tm.sizes_append] at s2
      cases u with
      | var i =>
        refine ⟨Tm.nod us', by rw [Tm.nod_var]; omega, ys', us', n, _, rfl, e5, i4.mv m5, o'.1, d'.1, ?_, by omega, rfl, m25⟩
        simp only [Tm.sizes, Tm.size] at s2
        omega
      | op x vs =>
        obtain ⟨a1, zs0, rfl, ha1, hzs0⟩ := (hz.mv m5).tupI
        obtain ⟨x', zs, rfl, hx', hzs⟩ := hzs0.invD
        refine ⟨.int n, rfl, Or.inl ⟨n, 1, rfl, rfl, ?_⟩⟩
        refine ⟨.ref l, rfl, .inl ⟨rfl, _, .inl (.inl e5)⟩, .ref a1, rfl, 1, rfl, rd_sl1 ha1 fun p6 H6 m6 e6 => ?_⟩
        have e7 := m6.same _ _ e5
        have hlen : zs.length = vs.length := by rw [hzs.length, Tm.ds_map, List.length_map]
        have hl' : ys'.length = us'.length := by rw [i4.length, Tm.ds_map, List.length_map]
        have h1 := Tm.nod_len vs
        have h2 := Tm.nod_len us'
        rw [Tm.nod_op] at b2 ⊢
        refine Or.inr ⟨l, p6, ys', zs, rfl, rfl, e7, e6, line5 (by omega), ?_⟩
        refine ⟨Tm.nod (us' ++ vs), by rw [Tm.nod_append]; omega, ys' ++ zs, us' ++ vs, n + 1, _, rfl, upd_same, ?_, ?_, ?_, ?_, by rw [Tm.nod_append]; omega, rfl, (m25.trans m6).wr nl⟩
        · rw [Tm.ds_append]
          exact (((i4.mv m5).mv m6).append (hzs.mv m6)).mv (Mv.set (S := [l]) e7 (by simp))
        · exact Tm.oks_iff.mpr fun t ht => (List.mem_append.mp ht).elim (Tm.oks_iff.mp o'.1 t) (Tm.oks_iff.mp o'.2.2.2 t)
        · have hd := d'.2
          simp only [Tm.dep] at hd
          exact Tm.deps_le.mpr fun t ht => (List.mem_append.mp ht).elim (Tm.deps_le.mp d'.1 t) (fun h => Tm.deps_le.mp (show Tm.deps vs ≤ 50 by omega) t h)
        · simp only [Tm.sizes, Tm.size] at s2
          rw [Tm.sizes_append]
          omega
end
end Fm
namespace Fm
open PySem PySem.Spec PyProof.Rows L2
local macro_rules | `(tactic| walk_at "nn") => `(tactic| dsimp only [tC, tNil, tCons, tCB, tCall, gName, tSeq, tAsg, tPar, tDrop, tRet])
theorem Tm.leaves_le (ts : List Tm) : (Tm.leavesL ts).length ≤ Tm.nod ts := by
  rw [Tm.leavesL_len]
  unfold Tm.nod
  omega
section
variable {P : Program} {w : World} {K : PySem.W.Frag} {mg : Str → Option Value} {base : Heap}
theorem ok_leaves (T : TX K mg) {k : Nat} : FnOk P w K mg base CX0 (k + 1) T.d_leaves.f T.d_leaves.fd P_leaves (sp_leaves K) := by
  refine T.d_leaves.F.ok sc_leaves (fun vs H Q E h => ?_) (fun cdv A outer s H vs Q E hr h => ?_)
  · obtain ⟨_, _, _, _, rfl, _⟩ := h
    rfl
  · obtain ⟨a, xs, ts, R, rfl, hS, hxs, hok, hR, hdp, hnd, q⟩ := h
    have hu64 := hr.units
    refine ⟨_, (pss_cons (ps_set (i := 1) sc_leaves.nd rfl (Or.inl rfl) (pe_lst pa_nil)) (pss_cons (ps_set (i := 2) sc_leaves.nd rfl (Or.inl rfl) (pe_callTy (r := rListOf K) call_listG (by rfl) T.b_list bt_list (pa_cons (pv 0) pa_nil))) (pss_cons (ps_expr (pe_bm0 PySem.F.plainAttrs_list PySem.F.slot_list_reverse PySem.F.type_list_reverse mt_reverse (pv 2))) (pss_cons (ps_while PassesOwn.never (pt_cmpR (r := rNeG K) (op_neG hu64) (pv 2) (pe_lst pa_nil) (nomark _)) (pss_cons (ps_set (i := 3) sc_leaves.nd rfl (Or.inl rfl) (pe_bm0 PySem.F.plainAttrs_list PySem.F.slot_list_pop PySem.F.type_list_pop mt_pop (pv 2))) (pss_one (ps_if (pt_val (pe_callB (r := rIsi K) call_isi (by rfl) T.b_isinstance bt_isinstance (pa_cons (pv 3) (pa_cons (pe_ty T.b_int bt_int) pa_nil)))) (pss_one (ps_expr (pe_bm PySem.F.plainAttrs_list PySem.F.slot_list_append PySem.F.type_list_append mt_append (pv 1) (pa_cons (pv 3) pa_nil)))) (pss_one (ps_expr (pe_bm PySem.F.plainAttrs_list PySem.F.slot_list_extend PySem.F.type_list_extend (r := rExtG K) mt_extendG (pv 2) (pa_cons (pe_slice3 (pv 3)) pa_nil)))))))) (pss_one (ps_ret (pv 1))))))), ?_⟩
    refine ⟨Nat.zero_le _, fun fl nf => ⟨.ref a, rfl, ?_⟩⟩
    have m0 : Mv [] H (upd H fl (.lst [])) := .new nf
    have e0 : upd H fl (.lst []) fl = some (.lst []) := upd_same
    generalize upd H fl (.lst []) = H0 at m0 e0 ⊢
    walk_at "nn"
    refine rd_listOf (hS.elim (fun h => .inl (m0.same.seq h)) fun h => .inr (m0.sqT h)) fun l H1 nl0 m1 e1 => ?_
    have nl : H l = none := m0.free nl0
    have nlf : fl ≠ l := ne_of_none e0 nl0
    have f1 := m1.same _ _ e0
    have i1 := hxs.mv (m0.trans m1)
    refine ⟨.ref l, rfl, .inl ⟨rfl, _, .inl (.inl e1)⟩, l, xs, rfl, rfl, e1, ?_⟩
    refine ⟨fun m σ H2 => ∃ (ys : List V) (us : List Tm) (acc : List Int) (y : Option V), σ = [some (.ref a), some (.ref fl), some (.ref l), y] ∧ H2 l = some (.lst ys) ∧ H2 fl = some (.lst (acc.map V.int)) ∧ Ims K H2 ys (Tm.ds us) ∧ Tm.oks R us ∧ Tm.deps us ≤ 50 ∧
      acc ++ Tm.leavesL us.reverse = Tm.leavesL ts ∧ Tm.nod us ≤ 100000 ∧ m = Tm.nod us ∧ Mv [] H H2, ⟨_, xs.reverse, ts.reverse, [], none, rfl, upd_same, ?_, ?_, ?_, ?_, by simp, by rw [Tm.nod_rev]; exact hnd, rfl, (m0.trans m1).wr nl⟩, fun m σ H2 hW => ?_⟩
    · rw [upd_ne nlf]
      exact f1
    · rw [Tm.ds_rev]
      exact i1.reverse.mv (Mv.set (S := [l]) e1 (by simp))
    · exact Tm.oks_iff.mpr fun t ht => Tm.oks_iff.mp hok t (by simpa using ht)
    · exact Tm.deps_le.mpr fun t ht => Tm.deps_le.mp hdp t (by simpa using ht)
    obtain ⟨ys, us, acc, y, rfl, e2, f2, i2, o2, d2, s2, b2, rfl, m2⟩ := hW
    refine ⟨.ref l, rfl, Nat.zero_le _, fun q1 n1 => ?_⟩
    have m3 : Mv [] H2 (upd H2 q1 (.lst [])) := .new n1
    have e3 : upd H2 q1 (.lst []) l = some (.lst ys) := m3.same _ _ e2
    have f3 : upd H2 q1 (.lst []) fl = some (.lst (acc.map V.int)) := m3.same _ _ f2
    refine rd_neNil hR e3 upd_same (i2.mv m3) o2 d2 ?_
    have m23 := m2.trans m3
    have i3 := i2.mv m3
    generalize upd H2 q1 (.lst []) = H3 at m3 e3 f3 m23 i3 ⊢
    refine ⟨_, rfl, ?_⟩
    rcases List.eq_nil_or_concat us with rfl | ⟨us', u, rfl⟩
    · refine ⟨.ref fl, rfl, q fl H3 nf m23 ?_⟩
      rw [f3]
      simp only [List.reverse_nil, Tm.leavesL, List.append_nil] at s2
      rw [s2]
    · rw [List.concat_eq_append] at *
      rw [show (!(us' ++ [u]).isEmpty) = true by simp]
      rw [Tm.ds_append] at i3
      obtain ⟨ys', z, rfl, i4, hz⟩ := Ims.last (ds := Tm.ds us') (d := u.d) i3
      refine ⟨fun σ' H' => ∃ m', m' < Tm.nod (us' ++ [u]) ∧ _, fun _ _ h => h, ?_⟩
      refine ⟨.ref l, rfl, .inl ⟨rfl, _, .inl (.inl e3)⟩, l, _, z, rfl, rfl, e3, by simp, ?_⟩
      have m5 : Mv [l] H3 (upd H3 l (.lst (ys' ++ [z]).dropLast)) := .set e3 (by simp)
      have m25 : Mv [] H (upd H3 l (.lst (ys' ++ [z]).dropLast)) := m23.wr nl
      have e5 : upd H3 l (.lst (ys' ++ [z]).dropLast) l = some (.lst ys') := by rw [upd_same, List.dropLast_concat]
      have f5 : upd H3 l (.lst (ys' ++ [z]).dropLast) fl = some (.lst (acc.map V.int)) := by rw [upd_ne nlf]; exact f3
      generalize upd H3 l (.lst (ys' ++ [z]).dropLast) = H5 at m5 m25 e5 f5 ⊢
      refine ⟨z, rfl, ?_⟩
      walk_at "nn"
      refine rd_isInt (hz.mv m5) ?_
      refine ⟨_, rfl, ?_⟩
      have o' : Tm.oks R us' ∧ u.ok R := ⟨Tm.oks_iff.mpr fun t ht => Tm.oks_iff.mp o2 t (by simp [ht]), Tm.oks_iff.mp o2 u (by simp)⟩
      have d' : Tm.deps us' ≤ 50 ∧ u.dep ≤ 50 := ⟨Tm.deps_le.mpr fun t ht => Tm.deps_le.mp d2 t (by simp [ht]), Tm.deps_le.mp d2 u (by simp)⟩
      have hacc : acc.length ≤ 100000 := by
        have h1 := congrArg List.length s2
        have h2 := Tm.leaves_le ts
        rw [List.length_append] at h1
        omega
      have hacc1 : acc.length + (Tm.leavesL (us' ++ [u]).reverse).length ≤ 100000 := by
        have h1 := congrArg List.length s2
        have h2 := Tm.leaves_le ts
        rw [List.length_append] at h1
        omega
      rw [Tm.nod_append] at b2 ⊢
      rw [List.reverse_append] at s2
      cases u with
      | var i =>
        cases hz.intI
        refine ⟨.ref fl, rfl, .inl ⟨rfl, _, .inl (.inl f5)⟩, .int i, rfl, fl, _, _, rfl, rfl, f5, by rw [List.length_map]; exact line5lt hacc, ?_⟩
        refine ⟨Tm.nod us', by rw [Tm.nod_var]; omega, ys', us', acc ++ [i], _, rfl, ?_, ?_, ?_, o'.1, d'.1, ?_, by omega, rfl, m25.wr nf⟩
        · rw [upd_ne nlf.symm]
          exact e5
        · rw [upd_same, List.map_append]
          rfl
        · exact (i4.mv m5).mv (Mv.set (S := [fl]) f5 (by simp))
        · rw [← s2, List.append_assoc]
          simp [Tm.leavesL, Tm.leaves]
      | op x vs =>
        obtain ⟨a1, zs0, rfl, ha1, hzs0⟩ := (hz.mv m5).tupI
        obtain ⟨x', zs, rfl, hx', hzs⟩ := hzs0.invD
        refine ⟨.ref l, rfl, .inl ⟨rfl, _, .inl (.inl e5)⟩, .ref a1, rfl, a1, _, zs, rfl, ha1, fun p6 n6 => ?_⟩
        have m6 : Mv [] H5 (upd H5 p6 (.tup zs.reverse)) := .new n6
        have e6 : SqT K (upd H5 p6 (.tup zs.reverse)) p6 zs.reverse := .inl (.inl upd_same)
        generalize upd H5 p6 (.tup zs.reverse) = H6 at m6 e6 ⊢
        have e7 := m6.same _ _ e5
        have f7 := m6.same _ _ f5
        have hlen : zs.length = vs.length := by rw [hzs.length, Tm.ds_map, List.length_map]
        have hl' : ys'.length = us'.length := by rw [i4.length, Tm.ds_map, List.length_map]
        have h1 := Tm.nod_len vs
        have h2 := Tm.nod_len us'
        rw [Tm.nod_op] at b2 ⊢
        refine Or.inr ⟨l, p6, ys', zs.reverse, rfl, rfl, e7, e6, line5 (by rw [List.length_reverse]; omega), ?_⟩
        refine ⟨Tm.nod (us' ++ vs.reverse), by rw [Tm.nod_append, Tm.nod_rev]; omega, ys' ++ zs.reverse, us' ++ vs.reverse, acc, _, rfl, upd_same, ?_, ?_, ?_, ?_, ?_, by rw [Tm.nod_append, Tm.nod_rev]; omega, rfl, (m25.trans m6).wr nl⟩
        · rw [upd_ne nlf]
          exact f7
        · rw [Tm.ds_append, Tm.ds_rev]
          exact (((i4.mv m5).mv m6).append (hzs.mv m6).reverse).mv (Mv.set (S := [l]) e7 (by simp))
        · exact Tm.oks_iff.mpr fun t ht => (List.mem_append.mp ht).elim (Tm.oks_iff.mp o'.1 t) (fun h => Tm.oks_iff.mp o'.2.2.2 t (by simpa using h))
        · have hd := d'.2
          simp only [Tm.dep] at hd
          exact Tm.deps_le.mpr fun t ht => (List.mem_append.mp ht).elim (Tm.deps_le.mp d'.1 t) (fun h => Tm.deps_le.mp (show Tm.deps vs ≤ 50 by omega) t (by simpa using h))
        · rw [← s2, List.reverse_append, List.reverse_reverse, Tm.leavesL_append, Tm.leavesL_append]
          simp [Tm.leavesL, Tm.leaves]
end
end Fm
namespace Fm
open PySem PySem.Spec PyProof.Rows L2
local macro_rules | `(tactic| walk_at "nn") => `(tactic| dsimp only [tC, tNil, tCons, tCB, tCall, gName, tSeq, tAsg, tPar, tDrop, tRet])
local macro_rules | `(tactic| walk_at "nc") => `(tactic| dsimp only [tC, tNil, tCons, tCB])
/-! the order of first places -/
def stp (acc : List Int) (u : Int) : List Int := if u ∈ acc then acc else acc ++ [u]
def ordr (l : List Int) : List Int := l.foldl stp []
theorem ordr_take {l : List Int} {i : Nat} {u : Int} (h : l[i]? = some u) : ordr (l.take (i + 1)) = stp (ordr (l.take i)) u := by
  unfold ordr
  rw [List.take_add_one, h, List.foldl_append]
  rfl
theorem stp_mem {acc : List Int} {u x : Int} : x ∈ stp acc u ↔ x ∈ acc ∨ x = u := by
  unfold stp
  split
  · constructor
    · exact .inl
    · rintro (h | rfl) <;> assumption
  · simp
theorem foldl_mem : ∀ (l acc : List Int) (x : Int), x ∈ l.foldl stp acc ↔ x ∈ acc ∨ x ∈ l
  | [], acc, x => by simp
  | u :: l, acc, x => by
    rw [List.foldl_cons, foldl_mem l, stp_mem, List.mem_cons, or_assoc]
theorem ordr_mem {l : List Int} {x : Int} : x ∈ ordr l ↔ x ∈ l := by simp [ordr, foldl_mem]
theorem foldl_nd : ∀ (l acc : List Int), acc.Nodup → (l.foldl stp acc).Nodup
  | [], _, h => h
  | u :: l, acc, h => by
    refine foldl_nd l _ ?_
    unfold stp
    split
    · exact h
    · rename_i hu
      rw [List.nodup_append]
      exact ⟨h, by simp, fun a ha b hb => by rintro rfl; rw [List.mem_singleton.mp hb] at ha; exact hu ha⟩
theorem ordr_nd (l : List Int) : (ordr l).Nodup := foldl_nd l [] List.nodup_nil
theorem foldl_len : ∀ (l acc : List Int), (l.foldl stp acc).length ≤ acc.length + l.length
  | [], _ => by simp
  | u :: l, acc => by
    have := foldl_len l (stp acc u)
    have h2 : (stp acc u).length ≤ acc.length + 1 := by
      unfold stp
      split <;> simp
    rw [List.foldl_cons, List.length_cons]
    omega
theorem ordr_len (l : List Int) : (ordr l).length ≤ l.length := by simpa [ordr] using foldl_len l []
mutual
theorem Tm.ok_on {P R : Int → Prop} : ∀ t : Tm, t.ok P → (∀ i ∈ t.leaves, R i) → t.ok R
  | .var i, _, h => h i (by simp [Tm.leaves])
  | .op x ts, k, h => ⟨k.1, k.2.1, Tm.oks_on ts k.2.2 fun i hi => h i (by simpa [Tm.leaves] using hi)⟩
theorem Tm.oks_on {P R : Int → Prop} : ∀ ts : List Tm, Tm.oks P ts → (∀ i ∈ Tm.leavesL ts, R i) → Tm.oks R ts
  | [], _, _ => trivial
  | t :: ts, k, h => ⟨Tm.ok_on t k.1 fun i hi => h i (by simp [Tm.leavesL, hi]), Tm.oks_on ts k.2 fun i hi => h i (by simp [Tm.leavesL, hi])⟩
end
theorem Tm.leaf_mem : ∀ {t : Tm} {ts : List Tm} {i : Int}, t ∈ ts → i ∈ t.leaves → i ∈ Tm.leavesL ts
  | t, u :: ts, i, h, hi => by
    rcases List.mem_cons.mp h with rfl | h
    · simp [Tm.leavesL, hi]
    · simp [Tm.leavesL, Tm.leaf_mem h hi]
/-- the number of an unknown -/
def numF (o : List Int) (u : Int) : Tm := .var ((o.idxOf u : Nat) : Int)
/-- a dict that knows the numbers -/
def NumD (kvs : List (Key × V)) (o : List Int) : Prop := kvs.length = o.length ∧ ∀ u, valV kvs (.inl u) = if u ∈ o then some (.int ((o.idxOf u : Nat) : Int)) else none
theorem idx_new {o : List Int} {u x : Int} (h : x ∈ o) : (o ++ [u]).idxOf x = o.idxOf x := by
  rw [List.idxOf_append, if_pos h]
theorem idx_last {o : List Int} {u : Int} (h : u ∉ o) : (o ++ [u]).idxOf u = o.length := by
  rw [List.idxOf_append, if_neg h]
  simp
theorem NumD.stp {kvs : List (Key × V)} {o : List Int} {u : Int} (h : NumD kvs o) (hu : u ∉ o) : NumD (putK kvs (.inl u) (.int ((o.length : Nat) : Int))) (o ++ [u]) := by
  have hn : valV kvs (.inl u) = none := by rw [h.2 u, if_neg hu]
  refine ⟨by rw [putK_new _ hn, List.length_append, List.length_append, h.1]; rfl, fun x => ?_⟩
  rw [valV_put, h.2 x]
  by_cases e : x = u
  · subst e
    rw [if_pos rfl, if_pos (by simp), idx_last hu]
  · rw [if_neg (fun z => e (Sum.inl.inj z))]
    by_cases hx : x ∈ o
    · rw [if_pos hx, if_pos (by simp [hx]), idx_new hx]
    · rw [if_neg hx, if_neg (by simp [hx, e])]
theorem NumD.look {K : PySem.W.Frag} {H : Hp} {a : Addr} {kvs : List (Key × V)} {o : List Int} (h : NumD kvs o) (ha : H a = some (.dK kvs)) : Look1 K H (.ref a) (fun i => i ∈ o) (numF o) := by
  refine ⟨a, rfl, .inr (.inr ⟨kvs, ha, fun i hi => ⟨_, ?_, Im.int _⟩⟩)⟩
  rw [h.2 i, if_pos hi]
/-- two rising lists with the same members are one -/
theorem asc_eq : ∀ {xs ys : List Int}, xs.Pairwise (· < ·) → ys.Pairwise (· < ·) → (∀ k, k ∈ xs ↔ k ∈ ys) → xs = ys
  | [], [], _, _, _ => rfl
  | [], y :: ys, _, _, h => by have := (h y).mpr (by simp); simp at this
  | x :: xs, [], _, _, h => by have := (h x).mp (by simp); simp at this
  | x :: xs, y :: ys, h1, h2, h => by
    have a1 := List.pairwise_cons.mp h1
    have a2 := List.pairwise_cons.mp h2
    have e : x = y := by
      have hx := (h x).mp (by simp)
      have hy := (h y).mpr (by simp)
      rcases List.mem_cons.mp hx with e | hx
      · exact e
      · rcases List.mem_cons.mp hy with e | hy
        · exact e.symm
        · have := a1.1 y hy
          have := a2.1 x hx
          omega
    subst e
    congr 1
    refine asc_eq a1.2 a2.2 fun k => ?_
    have hk := h k
    simp only [List.mem_cons] at hk
    constructor
    · intro z
      rcases hk.mp (.inr z) with e | e
      · have := a1.1 k z
        omega
      · exact e
    · intro z
      rcases hk.mpr (.inr z) with e | e
      · have := a2.1 k z
        omega
      · exact e
/-- a list without twins among few -/
theorem nd_few : ∀ {ks : List Int} {l : List Int}, ks.Nodup → (∀ k ∈ ks, k ∈ l) → ks.length ≤ l.length
  | [], _, _, _ => Nat.zero_le _
  | k :: ks, l, h, hs => by
    have h' := List.nodup_cons.mp h
    have hk := hs k (by simp)
    have := nd_few (l := l.erase k) h'.2 fun j hj => by
      have hjk : j ≠ k := fun e => h'.1 (by rw [← e]; exact hj)
      exact (List.mem_erase_of_ne hjk).mpr (hs j (by simp [hj]))
    rw [List.length_erase_of_mem hk] at this
    have hp : 0 < l.length := List.length_pos_of_mem hk
    rw [List.length_cons]
    omega
/-- which unknowns, rising; the terms numbered anew -/
def sp_unknowns (K : PySem.W.Frag) : Sp := fun vs H Q _ => ∃ (a : Addr) (xs : List V) (ts : List Tm) (P : Int → Prop) (fw : List Int), vs = [.ref a] ∧ (SqL K H a xs ∨ SqT K H a xs) ∧ Ims K H xs (Tm.ds ts) ∧ Tm.oks P ts ∧ (∀ i, P i → i.natAbs < 10 ^ 40) ∧ Tm.deps ts ≤ 50 ∧
  Tm.nod ts ≤ 4000 ∧ (∀ i, P i → i ∈ fw) ∧ fw.length < 64 ∧ ∀ p H' (ns : List Int), H p = none → Mv [] H H' → H' p = some (.lst (ns.map V.int)) → ns.Pairwise (· < ·) → (∀ k, k ∈ ns ↔ k ∈ Tm.leavesL ts) → Q (.ref p) H'
def sp_numbered (K : PySem.W.Frag) : Sp := fun vs H Q _ => ∃ (a : Addr) (xs : List V) (ts : List Tm) (P : Int → Prop), vs = [.ref a] ∧ (SqL K H a xs ∨ SqT K H a xs) ∧ Ims K H xs (Tm.ds ts) ∧ Tm.oks P ts ∧ (∀ i, P i → i.natAbs < 10 ^ 40) ∧ Tm.deps ts ≤ 50 ∧
  Tm.nod ts ≤ 4000 ∧ ∀ p H' ys, H p = none → Mv [] H H' → H' p = some (.lst ys) → Ims K H' ys (Tm.ds (Tm.puts (numF (ordr (Tm.leavesL ts))) ts)) → Q (.ref p) H'
section
variable {P : Program} {w : World} {K : PySem.W.Frag} {mg : Str → Option Value} {base : Heap}
theorem ok_unknowns (T : TX K mg) {k : Nat} : FnOk P w K mg base CX0 (k + 2) T.d_unknowns.f T.d_unknowns.fd P_unknowns (sp_unknowns K) := by
  have G_leaves : FnOk P w K mg base CX0 1 T.d_leaves.f T.d_leaves.fd P_leaves (sp_leaves K) := ok_leaves T
  refine T.d_unknowns.F.ok sc_unknowns (fun vs H Q E h => ?_) (fun cdv A outer s H vs Q E hr h => ?_)
  · obtain ⟨_, _, _, _, _, rfl, _⟩ := h
    rfl
  · obtain ⟨a, xs, ts, R, fw, rfl, hS, hxs, hok, hR, hdp, hnd, hfw, hf, q⟩ := h
    refine ⟨_, (pss_one (ps_ret (pe_callB (cr_sortedG rfl) (by rfl) T.b_sorted bt_sorted (pa_cons (pe_callTy (cr_setG rfl) (by rfl) T.b_set bt_set (pa_cons (pe_call G_leaves (hr.mono (by omega)) rfl T.d_leaves.g T.d_leaves.F.kp T.d_leaves.b .nil pass0 (pa_cons (pv 0) pa_nil)) pa_nil)) pa_nil)))), ?_⟩
    refine ⟨.ref a, rfl, a, xs, ts, R, rfl, hS, hxs, hok, hR, hdp, by omega, fun p1 H1 n1 m1 e1 => ?_⟩
    have hl := Tm.leaves_le ts
    refine ⟨p1, Tm.leavesL ts, rfl, .inl (.inl e1), by omega, fun p2 n ks n2 hnk hlk hk => ?_⟩
    have hfew : n < 64 := by
      have := nd_few hnk (l := fw) fun k hk1 => hfw k (Tm.oks_leaves ts hok k ((hk k).mp hk1))
      omega
    refine Or.inl ⟨p2, _, n, rfl, upd_same, hfew, fun ns p3 hs hm hln n3 => ?_⟩
    refine q p3 _ ns ((m1.trans (.new n2)).free n3) (m1.trans ((Mv.new n2).trans (.new n3))) upd_same hs fun k => ?_
    rw [hm k]
    simp
theorem ok_numbered (T : TX K mg) : FnOk P w K mg base CX0 53 T.d_numbered.f T.d_numbered.fd P_numbered (sp_numbered K) := by
  have G_leaves : FnOk P w K mg base CX0 1 T.d_leaves.f T.d_leaves.fd P_leaves (sp_leaves K) := ok_leaves T
  have G_put : FnOk P w K mg base CX0 52 T.d_put.f T.d_put.fd P_put (sp_put K 51) := ok_put T 51
  refine T.d_numbered.F.ok sc_numbered (fun vs H Q E h => ?_) (fun cdv A outer s H vs Q E hr h => ?_)
  · obtain ⟨_, _, _, _, rfl, _⟩ := h
    rfl
  · obtain ⟨a, xs, ts, R, rfl, hS, hxs, hok, hR, hdp, hnd, q⟩ := h
    refine ⟨_, (pss_cons (ps_set (i := 1) sc_numbered.nd rfl (Or.inr rfl) pe_dnewK) (pss_cons (ps_for PassesOwn.never rfl (pi_seq (pe_call G_leaves (hr.mono (by omega)) rfl T.d_leaves.g T.d_leaves.F.kp T.d_leaves.b .nil pass0 (pa_cons (pv 0) pa_nil))) (pg_name (i := 2) sc_numbered.nd rfl (Or.inl rfl)) (pss_one (ps_expr (pe_dsetd (pv 1) (pv 2) (pe_callB (r := rLenG K) call_lenG (by rfl) T.b_len bt_len (pa_cons (pv 1) pa_nil)) ⟨rfl, rfl, rfl, rfl⟩)))) (pss_one (ps_ret (pe_lc (own := [("term", 3)]) (g := gName 3) (by rfl) sc_numbered.nd (pi_seq (pv 0)) (blkOk_by (own := [("term", 3)]) (N := N_numbered) (sc := defScope s_numbered) (by decide +kernel)) (fun _ _ _ _ _ => pg_name (i := 3) sc_numbered.nd rfl (Or.inl rfl)) (fun _ _ _ _ _ => pts_nil) (fun _ _ _ _ _ => (pe_call G_put (hr.mono (by omega)) rfl T.d_put.g T.d_put.F.kp T.d_put.b .nil pass0 (pa_cons (pv 3) (pa_cons (pv 1) pa_nil))))))))), ?_⟩
    have hl := Tm.leaves_le ts
    have hxl : xs.length = ts.length := by rw [hxs.length, Tm.ds_map, List.length_map]
    have htl := Tm.nod_len ts
    refine fun dn nd => ?_
    have m0 : Mv [] H (upd H dn (.dK [])) := .new nd
    have e0 : upd H dn (.dK []) dn = some (.dK []) := upd_same
    generalize upd H dn (.dK []) = H0 at m0 e0 ⊢
    have hS0 : SqL K H0 a xs ∨ SqT K H0 a xs := hS.elim (fun h => .inl (m0.same.seq h)) fun h => .inr (m0.sqT h)
    refine ⟨.ref a, rfl, a, xs, ts, R, rfl, hS0, hxs.mv m0, hok, hR, hdp, by omega, fun lp H1 n1 m1 e1 => ⟨lp, rfl, Or.inl ⟨⟨_, .inl (.inl e1)⟩, ?_⟩⟩⟩
    have m01 := m0.trans m1
    have ndl : dn ≠ lp := ne_of_none e0 n1
    refine for_list (K := K) (a := lp) (xs := (Tm.leavesL ts).map V.int) (fun i σ H2 => ∃ (kvs : List (Key × V)) (y y3 : Option V), σ = [some (.ref a), some (.ref dn), y, y3] ∧ H2 dn = some (.dK kvs) ∧ NumD kvs (ordr ((Tm.leavesL ts).take i)) ∧ H2 lp = some (.lst ((Tm.leavesL ts).map V.int)) ∧ Mv [] H H2)
      ⟨[], none, none, rfl, m1.same _ _ e0, ⟨rfl, fun u => rfl⟩, e1, m01⟩ (fun i σ H2 _ h2 => ?_) (fun i x σ H2 hx h2 => ?_) (fun σ H2 h2 => ?_)
    · obtain ⟨_, _, _, _, _, _, h, _⟩ := h2
      exact .inl (.inl h)
    · obtain ⟨kvs, y, y3, rfl, e2, hN, f2, m2⟩ := h2
      rw [List.getElem?_map] at hx
      obtain ⟨u, hu, rfl⟩ := Option.map_eq_some_iff.mp hx
      have hi := (List.getElem?_eq_some_iff.mp hu).1
      have hol := ordr_len ((Tm.leavesL ts).take i)
      rw [List.length_take] at hol
      refine ⟨.ref dn, rfl, dn, rfl, .inl ⟨kvs, .inl e2⟩, .int u, rfl, .ref dn, rfl, ?_⟩
      walk_at "nn"
      refine Or.inr (Or.inr ⟨dn, kvs, rfl, e2, kvs, .inl u, e2, rfl, line5lt (by rw [hN.1]; omega), fun v hv => ?_, fun hv => ?_⟩)
      · rw [hN.2 u] at hv
        have hmem : u ∈ ordr ((Tm.leavesL ts).take i) := by
          by_cases hm : u ∈ ordr ((Tm.leavesL ts).take i)
          · exact hm
          · rw [if_neg hm] at hv
            cases hv
        refine ⟨kvs, _, y3, rfl, e2, ?_, f2, m2⟩
        rw [ordr_take hu]
        unfold stp
        rw [if_pos hmem]
        exact hN
      · rw [hN.2 u] at hv
        have hmem : u ∉ ordr ((Tm.leavesL ts).take i) := fun hm => by
          rw [if_pos hm] at hv
          cases hv
        refine ⟨_, _, y3, rfl, upd_same, ?_, ?_, m2.wr nd⟩
        · rw [ordr_take hu]
          unfold stp
          rw [if_neg hmem, hN.1]
          exact hN.stp hmem
        · rw [upd_ne ndl.symm]
          exact f2
    · obtain ⟨kvs, y, y3, rfl, e2, hN, f2, m2⟩ := h2
      rw [List.length_map, List.take_length] at hN
      have hS2 : SqL K H2 a xs ∨ SqT K H2 a xs := hS.elim (fun h => .inl (m2.same.seq h)) fun h => .inr (m2.sqT h)
      refine ⟨.ref a, rfl, a, rfl, ?_⟩
      refine lc_seq (xs := xs) hS2 (fun i D H3 => ∃ ys, H3 D = some (.lst ys) ∧ Ims K H3 ys (Tm.ds ((ts.take i).map (Tm.put (numF (ordr (Tm.leavesL ts)))))) ∧ Mv [] H2 H3)
        (fun D nD => ⟨[], upd_same, Ims.nil, .new nD⟩) (fun i D H3 nD h3 => h3.elim fun _ h => h.2.2) (fun D nD i x H3 hx h3 => ?_) (fun D H3 nD h3 => ?_)
      · obtain ⟨ys, e3, i3, m3⟩ := h3
        obtain ⟨xd, hxd, him⟩ := hxs.get hx
        rw [Tm.ds_map, List.getElem?_map] at hxd
        obtain ⟨t, ht, rfl⟩ := Option.map_eq_some_iff.mp hxd
        have hmem := List.mem_of_getElem? ht
        have hi := (List.getElem?_eq_some_iff.mp ht).1
        have htd := Tm.deps_le.mp hdp t hmem
        have hlk := (hN.look (K := K) e2).mv m3
        have hokt := Tm.oks_iff.mp hok t hmem
        refine ⟨rfl, x, rfl, .ref dn, rfl, x, .ref dn, t, _, _, rfl, him.mv (m2.trans m3), Tm.ok_on t hokt fun i hi => ordr_mem.mpr (Tm.leaf_mem hmem hi), by omega, hlk, fun y H4 m4 h4 => ?_⟩
        have e4 := m4.same _ _ e3
        refine ⟨_, e4, ?_, ys ++ [y], upd_same, ?_, (m3.trans m4).wr nD⟩
        · rw [i3.length, Tm.ds_map, List.length_map, List.length_map, List.length_take]
          exact line5lt (by omega)
        · rw [List.take_add_one, ht]
          rw [show Tm.ds (List.map (Tm.put (numF (ordr (Tm.leavesL ts)))) (ts.take i ++ (some t).toList)) = Tm.ds ((ts.take i).map (Tm.put (numF (ordr (Tm.leavesL ts))))) ++ [(t.put (numF (ordr (Tm.leavesL ts)))).d] by simp [Tm.ds_map]]
          exact ((i3.mv m4).append (Ims.cons h4 Ims.nil)).mv (Mv.set (S := [D]) e4 (by simp))
      · obtain ⟨ys, e3, i3, m3⟩ := h3
        rw [hxl, List.take_length, ← Tm.puts_map] at i3
        exact q D H3 ys (m2.free nD) (m2.trans m3) e3 i3
theorem ints_shaped : ∀ o : List Int, SeqAt.shaped (.list (o.map PyData.int)) = true := fun o => by
  have h1 : ∀ o : List Int, PyData.canLayAll0 (o.map PyData.int) = true := fun o => by
    induction o with
    | nil => rfl
    | cons x o ih => simp [PyData.canLayAll0, PyData.canLay0, ih]
  have h2 : ∀ o : List Int, PyData.depthAll (o.map PyData.int) = 0 := fun o => by
    induction o with
    | nil => rfl
    | cons x o ih => simp [PyData.depthAll, PyData.depth, ih]
  show (PyData.canLay0 (.list (o.map PyData.int)) && decide (PyData.depth (.list (o.map PyData.int)) ≤ 64)) = true
  simp only [PyData.canLay0, PyData.depth, h1, h2]
  rfl
theorem dp_ints {H : Hp} : ∀ o : List Int, DpAll K H (o.map V.int) (o.map PyData.int)
  | [] => .nil
  | x :: o => .cons (.int x) (dp_ints o)
theorem ints_any (o : List Int) (u : Int) : ((o.map PyData.int).any fun z => PyData.eqv z (.int u)) = decide (u ∈ o) := by
  rw [List.any_map]
  have e : ((fun z => PyData.eqv z (.int u)) ∘ PyData.int) = fun z => z == u := by
    funext z
    simp [PyData.eqv]
  rw [e, Bool.eq_iff_iff]
  simp
/-- the dict of (order[at], at) -/
theorem merge_num : ∀ (o pre : List Int) (kvs : List (Key × V)), (pre ++ o).Nodup → NumD kvs pre →
    NumD (mergeK kvs ((o.zipIdx pre.length).map fun p => ((.inl p.1 : Key), V.int ((p.2 : Nat) : Int)))) (pre ++ o)
  | [], pre, kvs, _, h => by simpa [mergeK] using h
  | u :: o, pre, kvs, hn, h => by
    have hu : u ∉ pre := fun hm => by
      have := (List.nodup_append.mp hn).2.2 u hm u (by simp)
      exact this rfl
    have ih := merge_num o (pre ++ [u]) _ (by simpa using hn) (h.stp hu)
    rw [List.length_append] at ih
    rw [show pre ++ u :: o = (pre ++ [u]) ++ o by simp, List.zipIdx_cons, List.map_cons]
    exact ih
theorem paired_snoc {α β : Type} {F : α → β → Prop} {a : α} {b : β} : ∀ {l : List α} {m : List β}, Paired F l m → F a b → Paired F (l ++ [a]) (m ++ [b])
  | _, _, .nil, h => .cons h .nil
  | _, _, .cons r t, h => .cons r (paired_snoc t h)
theorem paired_imp {α β : Type} {F G : α → β → Prop} (hFG : ∀ a b, F a b → G a b) : ∀ {l : List α} {m : List β}, Paired F l m → Paired G l m
  | _, _, .nil => .nil
  | _, _, .cons r t => .cons (hFG _ _ r) (paired_imp hFG t)
theorem ok__law_numbered (T : TX K mg) : FnOk P w K mg base CX0 53 T.d__law_numbered.f T.d__law_numbered.fd P__law_numbered (sp_numbered K) := by
  have G__law_leaves : FnOk P w K mg base CX0 52 T.d__law_leaves.f T.d__law_leaves.fd P__law_leaves (sp_leavesR K 51) := ok__law_leaves T 51
  have G__law_put : FnOk P w K mg base CX0 52 T.d__law_put.f T.d__law_put.fd P__law_put (sp_put K 51) := ok__law_put T 51
  refine T.d__law_numbered.F.ok sc__law_numbered (fun vs H Q E h => ?_) (fun cdv A outer s H vs Q E hr h => ?_)
  · obtain ⟨_, _, _, _, rfl, _⟩ := h
    rfl
  · obtain ⟨a, xs, ts, R, rfl, hS, hxs, hok, hR, hdp, hnd, q⟩ := h
    have hu65 : (A.deeper (envOfC "_law_numbered" (defScope s__law_numbered) s.heap.objs.size T.d__law_numbered.f cdv)).units + 65 < cLine := by
      have := hr.un
      omega
    refine ⟨_, (pss_cons (ps_set (i := 1) sc__law_numbered.nd rfl (Or.inr rfl) (pe_lst pa_nil)) (pss_cons (ps_for PassesOwn.never rfl (pi_seq (pe_call G__law_leaves (hr.mono (by omega)) rfl T.d__law_leaves.g T.d__law_leaves.F.kp T.d__law_leaves.b .nil pass0 (pa_cons (pv 0) pa_nil))) (pg_name (i := 2) sc__law_numbered.nd rfl (Or.inl rfl)) (pss_one (ps_if (pt_cmpR (r := rNotInG K) (op_notInG hu65) (pv 2) (pv 1) rfl) (pss_one (ps_expr (pe_bm PySem.F.plainAttrs_list PySem.F.slot_list_append PySem.F.type_list_append mt_append (pv 1) (pa_cons (pv 2) pa_nil)))) pss_nil))) (pss_cons (ps_set (i := 3) sc__law_numbered.nd rfl (Or.inr rfl) (pe_callTy (call_dictP rfl) (by rfl) T.b_dict bt_dict (pa_cons (pe_lc (own := [("_law_at", 5)]) (g := gName 5) (by rfl) sc__law_numbered.nd (pi_range1 (by rfl) T.b_range (pa_cons (pe_callB (r := rLenG K) call_lenG (by rfl) T.b_len bt_len (pa_cons (pv 1) pa_nil)) pa_nil)) (blkOk_by (own := [("_law_at", 5)]) (N := N__law_numbered) (sc := defScope s__law_numbered) (by decide +kernel)) (fun _ _ _ _ _ => pg_name (i := 5) sc__law_numbered.nd rfl (Or.inl rfl)) (fun _ _ _ _ _ => pts_nil) (fun _ _ _ _ _ => (pe_tup (pa_cons (pe_ix (r := rIx K) ix_seq (pv 1) (pv 5) (fun _ _ => rfl)) (pa_cons (pv 5) pa_nil))))) pa_nil))) (pss_one (ps_ret (pe_lc (own := [("_law_term_here", 4)]) (g := gName 4) (by rfl) sc__law_numbered.nd (pi_seq (pv 0)) (blkOk_by (own := [("_law_term_here", 4)]) (N := N__law_numbered) (sc := defScope s__law_numbered) (by decide +kernel)) (fun _ _ _ _ _ => pg_name (i := 4) sc__law_numbered.nd rfl (Or.inl rfl)) (fun _ _ _ _ _ => pts_nil) (fun _ _ _ _ _ => (pe_call G__law_put (hr.mono (by omega)) rfl T.d__law_put.g T.d__law_put.F.kp T.d__law_put.b .nil pass0 (pa_cons (pv 4) (pa_cons (pv 3) pa_nil)))))))))), ?_⟩
    have hl := Tm.leaves_le ts
    have hlv : Tm.lvs ts ≤ 4000 := by
      unfold Tm.nod at hnd
      omega
    have hxl : xs.length = ts.length := by rw [hxs.length, Tm.ds_map, List.length_map]
    have htl := Tm.nod_len ts
    refine ⟨Nat.zero_le _, fun op no => ?_⟩
    have m0 : Mv [] H (upd H op (.lst [])) := .new no
    have e0 : upd H op (.lst []) op = some (.lst []) := upd_same
    generalize upd H op (.lst []) = H0 at m0 e0 ⊢
    have hS0 : SqL K H0 a xs ∨ SqT K H0 a xs := hS.elim (fun h => .inl (m0.same.seq h)) fun h => .inr (m0.sqT h)
    refine ⟨.ref a, rfl, a, xs, ts, rfl, hS0, hxs.mv m0, by omega, by omega, fun lp H1 n1 m1 e1 => ⟨lp, rfl, Or.inl ⟨⟨_, .inl (.inl e1)⟩, ?_⟩⟩⟩
    have m01 := m0.trans m1
    have nol : op ≠ lp := ne_of_none e0 n1
    refine for_list (K := K) (a := lp) (xs := (Tm.leavesL ts).map V.int) (fun i σ H2 => ∃ (y y3 y4 y5 : Option V), σ = [some (.ref a), some (.ref op), y, y3, y4, y5] ∧ H2 op = some (.lst ((ordr ((Tm.leavesL ts).take i)).map V.int)) ∧ H2 lp = some (.lst ((Tm.leavesL ts).map V.int)) ∧ Mv [] H H2)
      ⟨none, none, none, none, rfl, m1.same _ _ e0, e1, m01⟩ (fun i σ H2 _ h2 => ?_) (fun i x σ H2 hx h2 => ?_) (fun σ H2 h2 => ?_)
    · obtain ⟨_, _, _, _, _, _, h, _⟩ := h2
      exact .inl (.inl h)
    · obtain ⟨y, y3, y4, y5, rfl, e2, f2, m2⟩ := h2
      rw [List.getElem?_map] at hx
      obtain ⟨u, hu, rfl⟩ := Option.map_eq_some_iff.mp hx
      have hi := (List.getElem?_eq_some_iff.mp hu).1
      have hol := ordr_len ((Tm.leavesL ts).take i)
      rw [List.length_take] at hol
      refine ⟨.int u, rfl, .ref op, rfl, Or.inl ⟨.int u, (ordr ((Tm.leavesL ts).take i)).map PyData.int, .int u, .lst (.inl (.inl e2)) (dp_ints _), rfl, ints_shaped _, _, rfl, ?_⟩⟩
      rw [ints_any]
      by_cases hm : u ∈ ordr ((Tm.leavesL ts).take i)
      · rw [decide_eq_true hm]
        refine ⟨_, y3, y4, y5, rfl, ?_, f2, m2⟩
        rw [ordr_take hu]
        unfold stp
        rw [if_pos hm]
        exact e2
      · rw [decide_eq_false hm]
        refine ⟨.ref op, rfl, .inl ⟨rfl, _, .inl (.inl e2)⟩, .int u, rfl, op, _, _, rfl, rfl, e2, by rw [List.length_map]; exact line5lt (by omega), ?_⟩
        refine ⟨_, y3, y4, y5, rfl, ?_, ?_, m2.wr no⟩
        · rw [upd_same, ordr_take hu]
          unfold stp
          rw [if_neg hm, List.map_append]
          rfl
        · rw [upd_ne nol.symm]
          exact f2
    · obtain ⟨y, y3, y4, y5, rfl, e2, f2, m2⟩ := h2
      rw [List.length_map, List.take_length] at e2
      obtain ⟨o, ho⟩ : ∃ o, o = ordr (Tm.leavesL ts) := ⟨_, rfl⟩
      have hol := ordr_len (Tm.leavesL ts)
      rw [← ho] at e2 hol
      refine ⟨.ref op, rfl, ?_⟩
      walk_at "nc"
      refine rd_len (.inl (.inl (.inl e2))) ?_
      rw [List.length_map]
      refine ⟨_, rfl, by omega, by omega, fun D nD => ?_⟩
      refine lc_range (lo := 0) (n := ((o.length : Nat) : Int).toNat) (fun i H3 => ∃ ps : List Addr, H3 D = some (.lst (ps.map V.ref)) ∧ ps.length = i ∧ Paired (fun p (kv : Key × V) => SqT K H3 p [kV kv.1, kv.2]) ps ((((o.zipIdx 0).take i)).map fun p => ((.inl p.1 : Key), V.int ((p.2 : Nat) : Int))) ∧ Mv [] H2 H3)
        ⟨[], upd_same, rfl, .nil, .new nD⟩ (fun i H3 hi h3 => ?_) (fun H3 h3 => ?_)
      · obtain ⟨ps, e3, l3, p3, m3⟩ := h3
        have hi' : i < o.length := by omega
        have eo3 := m3.same _ _ e2
        refine ⟨rfl, .ref op, rfl, _, rfl, rd_ixL (.inl (.inl eo3)) (by omega) (v := .int o[i]) ?_ ?_⟩
        · rw [List.getElem?_map, show (0 + (i : Int)).toNat = i by omega, List.getElem?_eq_getElem hi']
          rfl
        · refine ⟨_, rfl, (by decide : 2 ≤ sizeLine), fun p np => ?_⟩
          have m4 : Mv [] H3 (upd H3 p (.tup [.int o[i], .int (0 + (i : Int))])) := .new np
          have e4 := m4.same _ _ e3
          refine ⟨_, e4, ?_, ps ++ [p], ?_, by simp [l3], ?_, (m3.trans m4).wr nD⟩
          · rw [List.length_map, l3]
            exact line5lt (by omega)
          · rw [upd_same, List.map_append]
            rfl
          · have hz : (o.zipIdx 0)[i]? = some (o[i], i) := by
              rw [List.getElem?_zipIdx, List.getElem?_eq_getElem hi']
              simp
            rw [List.take_add_one, hz, List.map_append]
            have m5 : Mv [D] H3 (upd (upd H3 p (.tup [.int o[i], .int (0 + (i : Int))])) D (.lst (ps.map V.ref ++ [V.ref p]))) := (m4.mono (by simp)).trans (.set e4 (by simp))
            refine paired_snoc (paired_imp (fun q kv hq => m5.sqT hq) p3) ?_
            refine Mv.sqT (Mv.set (S := [D]) e4 (by simp)) (.inl (.inl ?_))
            rw [upd_same]
            show some (HO.tup [V.int o[i], V.int (0 + (i : Int))]) = some (HO.tup [V.int o[i], V.int ((i : Nat) : Int)])
            rw [Int.zero_add]
      · obtain ⟨ps, e3, l3, p3, m3⟩ := h3
        rw [show ((o.length : Nat) : Int).toNat = (o.zipIdx 0).length by simp, List.take_length] at p3
        walk_at "nn"
        refine ⟨D, ps, _, rfl, .inl (.inl e3), p3, fun dn n4 => ?_⟩
        have hN : NumD (mergeK [] ((o.zipIdx 0).map fun p => ((.inl p.1 : Key), V.int ((p.2 : Nat) : Int)))) o := by
          have := merge_num o [] [] (by rw [ho]; simpa using ordr_nd _) ⟨rfl, fun u => rfl⟩
          simpa using this
        have m4 : Mv [] H3 (upd H3 dn (.dK (mergeK [] ((o.zipIdx 0).map fun p => ((.inl p.1 : Key), V.int ((p.2 : Nat) : Int)))))) := .new n4
        have e4 : upd H3 dn (.dK (mergeK [] ((o.zipIdx 0).map fun p => ((.inl p.1 : Key), V.int ((p.2 : Nat) : Int))))) dn = some (.dK (mergeK [] ((o.zipIdx 0).map fun p => ((.inl p.1 : Key), V.int ((p.2 : Nat) : Int))))) := upd_same
        generalize mergeK [] ((o.zipIdx 0).map fun p => ((.inl p.1 : Key), V.int ((p.2 : Nat) : Int))) = kvs at hN m4 e4 ⊢
        generalize upd H3 dn (.dK kvs) = H4 at m4 e4 ⊢
        have m24 := m2.trans (m3.trans m4)
        have hS4 : SqL K H4 a xs ∨ SqT K H4 a xs := hS.elim (fun h => .inl (m24.same.seq h)) fun h => .inr (m24.sqT h)
        refine ⟨.ref a, rfl, a, rfl, ?_⟩
        refine lc_seq (xs := xs) hS4 (fun i D H5 => ∃ ys, H5 D = some (.lst ys) ∧ Ims K H5 ys (Tm.ds ((ts.take i).map (Tm.put (numF o)))) ∧ Mv [] H4 H5)
          (fun D nD => ⟨[], upd_same, Ims.nil, .new nD⟩) (fun i D H3 nD h3 => h3.elim fun _ h => h.2.2) (fun D nD i x H5 hx h5 => ?_) (fun D H5 nD h5 => ?_)
        · obtain ⟨ys, e5, i5, m5⟩ := h5
          obtain ⟨xd, hxd, him⟩ := hxs.get hx
          rw [Tm.ds_map, List.getElem?_map] at hxd
          obtain ⟨t, ht, rfl⟩ := Option.map_eq_some_iff.mp hxd
          have hmem := List.mem_of_getElem? ht
          have hi := (List.getElem?_eq_some_iff.mp ht).1
          have htd := Tm.deps_le.mp hdp t hmem
          have hlk := (hN.look (K := K) e4).mv m5
          have hokt := Tm.oks_iff.mp hok t hmem
          refine ⟨rfl, x, rfl, .ref dn, rfl, x, .ref dn, t, _, _, rfl, him.mv (m24.trans m5), Tm.ok_on t hokt fun i hi => ?_, by omega, hlk, fun y H6 m6 h6 => ?_⟩
          · rw [ho]
            exact ordr_mem.mpr (Tm.leaf_mem hmem hi)
          · have e6 := m6.same _ _ e5
            refine ⟨_, e6, ?_, ys ++ [y], upd_same, ?_, (m5.trans m6).wr nD⟩
            · rw [i5.length, Tm.ds_map, List.length_map, List.length_map, List.length_take]
              exact line5lt (by omega)
            · rw [List.take_add_one, ht]
              rw [show Tm.ds (List.map (Tm.put (numF o)) (ts.take i ++ (some t).toList)) = Tm.ds ((ts.take i).map (Tm.put (numF o))) ++ [(t.put (numF o)).d] by simp [Tm.ds_map]]
              exact ((i5.mv m6).append (Ims.cons h6 Ims.nil)).mv (Mv.set (S := [D]) e6 (by simp))
        · obtain ⟨ys, e5, i5, m5⟩ := h5
          rw [hxl, List.take_length, ← Tm.puts_map] at i5
          rw [ho] at i5
          exact q D H5 ys (m24.free nD) (m24.trans m5) e5 i5
end
end Fm
namespace Fm
open PySem PySem.Spec PyProof.Rows L2
local macro_rules | `(tactic| walk_at "nn") => `(tactic| dsimp only [tC, tNil, tCons, tCB, tCall, gName, tSeq, tAsg, tPar, tDrop, tRet])
local macro_rules | `(tactic| walk_at "nc") => `(tactic| dsimp only [tC, tNil, tCons, tCB])
/-- terms as they are drawn here -/
structure Gr (P : Int → Prop) (t : Tm) : Prop where
  ok : t.ok P
  dep : t.dep ≤ 20
  lv : t.lv ≤ 81
  cst : t.cst ≤ 4000
mutual
theorem Tm.size_cst : ∀ t : Tm, 90 * t.size ≤ t.cst
  | .var _ => by simp [Tm.size, Tm.cst]
  | .op _ ts => by
    have := Tm.sizes_csts ts
    simp only [Tm.size, Tm.cst]
    omega
theorem Tm.sizes_csts : ∀ ts : List Tm, 90 * Tm.sizes ts ≤ Tm.csts ts
  | [] => by simp [Tm.sizes, Tm.csts]
  | t :: ts => by
    have := Tm.size_cst t
    have := Tm.sizes_csts ts
    simp only [Tm.sizes, Tm.csts]
    omega
end
/-- names at hand -/
structure Nms (H : Hp) (b nm : Addr) (xs : List Str) : Prop where
  at_ : H nm = some (.lst (xs.map V.str))
  ne : nm ≠ b
  some_ : xs ≠ []
  few : xs.length ≤ 1000
  ok : ∀ x ∈ xs, Nm x
theorem Nms.dr {H H' : Hp} {b nm : Addr} {xs : List Str} (h : Nms H b nm xs) (d : Dr b H H') : Nms H' b nm xs := ⟨d.get h.ne h.at_, h.ne, h.some_, h.few, h.ok⟩
def in5 (i : Int) : Prop := 0 ≤ i ∧ i < 5
def sp_great (K : PySem.W.Frag) : Sp := fun vs H Q _ => ∃ (b nm : Addr) (xs : List Str), vs = [.ref b, .ref nm] ∧ Bag H b ∧ Nms H b nm xs ∧ ∀ v (t : Tm) H', Gr in5 t → Im K H' v t.d → Dr b H H' → Q v H'
def sp_alike (K : PySem.W.Frag) : Sp := fun vs H Q _ => ∃ (x y : V) (d : PyData), vs = [x, y] ∧ Dp K H x d ∧ Dp K H y d ∧ Shw d ∧ Q (.bl true) H
section
variable {P : Program} {w : World} {K : PySem.W.Frag} {mg : Str → Option Value} {base : Heap}
theorem ok__law_alike (T : TX K mg) {k : Nat} : FnOkG P w K mg base CX0 (k + 1) T.d__law_alike.f T.d__law_alike.fd P__law_alike (sp_alike K) := by
  refine okG T.d__law_alike.F sc__law_alike (fun vs H Q E h => ?_) (fun cdv A outer s H vs Q E hgd hr h => ?_)
  · obtain ⟨_, _, _, rfl, _⟩ := h
    rfl
  · obtain ⟨x, y, d, rfl, hx, hy, hs, q⟩ := h
    have hu64 := hr.units
    refine ⟨_, (pss_one (ps_ret (pe_and (pe_cmpR (r := rEqG K) (op_eqG hu64) (pv 0) (pv 1) (nomark _)) (pe_one (pe_cmpR (r := rEqG K) (op_eqG hu64) (pe_callB (r := rReprG K) (call_reprG hgd hu64) (by rfl) T.b_repr bt_repr (pa_cons (pv 0) pa_nil)) (pe_callB (r := rReprG K) (call_reprG hgd hu64) (by rfl) T.b_repr bt_repr (pa_cons (pv 1) pa_nil)) (nomark _)))))), ?_⟩
    have hf := fine_lay d hs.fi
    refine ⟨x, rfl, y, rfl, Or.inr ⟨d, d, hx, hy, hs.shaped, hs.shaped, _, rfl, ?_⟩⟩
    rw [hs.eqv]
    refine ⟨x, rfl, ?_⟩
    walk_at "nc"
    refine ⟨x, d, rfl, hx, hf.2.1, hf.2.2, hs.dp, hs.len, y, rfl, ?_⟩
    refine ⟨y, d, rfl, hy, hf.2.1, hf.2.2, hs.dp, hs.len, Or.inl ⟨rfl, ?_⟩⟩
    rw [decide_eq_true rfl]
    exact q
theorem ok__law_great (T : TX K mg) : FnOk P w K mg base CX0 8 T.d__law_great.f T.d__law_great.fd P__law_great (sp_great K) := by
  have G__law_take : FnOk P w K mg base CX0 1 T.d__law_take.f T.d__law_take.fd P__law_take sp_take := ok__law_take T
  have G__law_term : FnOk P w K mg base CX0 7 T.d__law_term.f T.d__law_term.fd P__law_term (sp_term K 5) := ok__law_term T 5
  refine T.d__law_great.F.ok sc__law_great (fun vs H Q E h => ?_) (fun cdv A outer s H vs Q E hr h => ?_)
  · obtain ⟨_, _, _, rfl, _⟩ := h
    rfl
  · obtain ⟨b, nm, xs, rfl, hB, hN, q⟩ := h
    refine ⟨_, (pss_cons (ps_if (pt_cmpR op_gt (pe_call G__law_take (hr.mono (by omega)) rfl T.d__law_take.g T.d__law_take.F.kp T.d__law_take.b .nil pass0 (pa_cons (pv 0) (pa_cons pe_int pa_nil))) pe_int (nomark _)) (pss_one (ps_ret (pe_call G__law_term (hr.mono (by omega)) rfl T.d__law_term.g T.d__law_term.F.kp T.d__law_term.b .nil pass0 (pa_cons (pv 0) (pa_cons (pv 1) (pa_cons (pe_op (r := rAddG K) op_addG pe_int (pe_call G__law_take (hr.mono (by omega)) rfl T.d__law_take.g T.d__law_take.F.kp T.d__law_take.b .nil pass0 (pa_cons (pv 0) (pa_cons pe_int pa_nil)))) (pa_cons (pe_call G__law_take (hr.mono (by omega)) rfl T.d__law_take.g T.d__law_take.F.kp T.d__law_take.b .nil pass0 (pa_cons (pv 0) (pa_cons pe_int pa_nil))) pa_nil))))))) pss_nil) (pss_cons (ps_set (i := 2) sc__law_great.nd rfl (Or.inl rfl) (pe_call G__law_take (hr.mono (by omega)) rfl T.d__law_take.g T.d__law_take.F.kp T.d__law_take.b .nil pass0 (pa_cons (pv 0) (pa_cons pe_int pa_nil)))) (pss_cons (ps_for PassesOwn.never rfl (pi_range1 (by rfl) T.b_range (pa_cons (pe_call G__law_take (hr.mono (by omega)) rfl T.d__law_take.g T.d__law_take.F.kp T.d__law_take.b .nil pass0 (pa_cons (pv 0) (pa_cons pe_int pa_nil))) pa_nil)) (pg_name (i := 3) sc__law_great.nd rfl (Or.inl rfl)) (pss_cons (ps_set (i := 4) sc__law_great.nd rfl (Or.inl rfl) (pe_ix (r := rIx K) ix_seq (pv 1) (pe_call G__law_take (hr.mono (by omega)) rfl T.d__law_take.g T.d__law_take.F.kp T.d__law_take.b .nil pass0 (pa_cons (pv 0) (pa_cons (pe_callB (r := rLenG K) call_lenG (by rfl) T.b_len bt_len (pa_cons (pv 1) pa_nil)) pa_nil))) (fun _ _ => rfl))) (pss_one (ps_set (i := 2) sc__law_great.nd rfl (Or.inl rfl) (pe_ix (r := rIx K) ix_seq (pe_lst (pa_cons (pe_tup (pa_cons (pv 4) (pa_cons (pv 2) pa_nil))) (pa_cons (pe_tup (pa_cons (pv 4) (pa_cons pe_int (pa_cons (pv 2) pa_nil)))) (pa_cons (pe_tup (pa_cons (pv 4) (pa_cons (pv 2) (pa_cons (pe_tup (pa_cons pe_str pa_nil)) pa_nil)))) (pa_cons (pe_tup (pa_cons (pv 4) (pa_cons (pv 2) (pa_cons pe_int pa_nil)))) pa_nil))))) (pe_call G__law_take (hr.mono (by omega)) rfl T.d__law_take.g T.d__law_take.F.kp T.d__law_take.b .nil pass0 (pa_cons (pv 0) (pa_cons pe_int pa_nil))) (fun _ _ => rfl)))))) (pss_one (ps_ret (pv 2)))))), ?_⟩
    have hlen : 0 < xs.length := List.length_pos_iff.mpr hN.some_
    have hfew := hN.few
    refine ⟨.ref b, rfl, b, 3, rfl, hB, by decide, by decide, fun i H1 hi0 hi1 d1 => ⟨i, 0, rfl, rfl, _, rfl, ite2 (fun e => ?_) (fun e => ?_)⟩⟩
    · have hB1 := d1.bag hB
      refine ⟨.ref b, rfl, .ref nm, rfl, .ref b, rfl, b, 5, rfl, hB1, by decide, by decide, fun m H2 hm0 hm1 d2 => Or.inl ⟨1, m, rfl, rfl, ?_⟩⟩
      have hB2 := d2.bag hB1
      refine ⟨.ref b, rfl, b, 5, rfl, hB2, by decide, by decide, fun dp H3 hd0 hd1 d3 => ?_⟩
      have d13 := (d1.trans d2).trans d3
      have hN3 := hN.dr d13
      refine ⟨b, nm, xs, 1 + m, dp, rfl, d3.bag hB2, hN3.at_, hN3.ne, hN3.some_, hN3.few, hN3.ok, by omega, by omega, by omega, fun v t H4 ho hx1 hx2 him d4 => ?_⟩
      have hd4 : t.dep ≤ 4 := by
        have := hx2 (by omega)
        omega
      obtain ⟨s1, s2⟩ := Tm.small 4 t ho hd4
      exact q v t H4 ⟨Tm.ok_mono (fun i hi => ⟨hi.1, by omega⟩) t ho, by omega, by omega, by omega⟩ him (d13.trans d4)
    · have hB1 := d1.bag hB
      refine ⟨.ref b, rfl, b, 5, rfl, hB1, by decide, by decide, fun t0 H2 ht0 ht1 d2 => ?_⟩
      have hB2 := d2.bag hB1
      refine ⟨.ref b, rfl, b, 20, rfl, hB2, by decide, by decide, fun n H3 hn0 hn1 d3 => ⟨n, rfl, by omega, by omega, ?_⟩⟩
      have d13 := (d1.trans d2).trans d3
      have hB3 := d3.bag hB2
      have hN3 := hN.dr d13
      refine for_range (lo := 0) (n := n.toNat) (fun i σ H4 => ∃ (v : V) (t : Tm) (y3 y4 : Option V), σ = [some (.ref b), some (.ref nm), some v, y3, y4] ∧ Im K H4 v t.d ∧ t.ok in5 ∧ t.dep ≤ i + 1 ∧ t.lv ≤ 1 + i ∧ t.cst ≤ 190 * i ∧ Dr b H3 H4)
        ⟨.int t0, .var t0, none, none, rfl, Im.int _, ⟨ht0, ht1⟩, by simp [Tm.dep], by simp [Tm.lv], by simp [Tm.cst], .refl⟩ (fun i σ H4 hi h4 => ?_) (fun σ H4 h4 => ?_)
      · obtain ⟨v, t, y3, y4, rfl, him, ho, hdp, hlv, hcs, d4⟩ := h4
        have hB4 := d4.bag hB3
        have hN4 := hN3.dr d4
        -- name
        refine ⟨.ref nm, rfl, .ref b, rfl, .ref nm, rfl, ?_⟩
        walk_at "nc"
        refine rd_len (.inl (.inl (.inl hN4.at_))) ?_
        refine ⟨b, _, rfl, hB4, by rw [List.length_map]; omega, by rw [List.length_map]; omega, fun ni H5 hn0 hn1 d5 => ?_⟩
        rw [List.length_map] at hn1
        have hni : ni.toNat < xs.length := by omega
        have hB5 := d5.bag hB4
        have hN5 := hN4.dr d5
        refine rd_ixL (.inl (.inl hN5.at_)) hn0 (v := .str xs[ni.toNat]) (by rw [List.getElem?_map, List.getElem?_eq_getElem hni]; rfl) ?_
        obtain ⟨nx, hnx, hNm⟩ : ∃ nx, nx = xs[ni.toNat] ∧ Nm nx := ⟨_, rfl, hN.ok _ (List.getElem_mem hni)⟩
        rw [← hnx]
        -- the four
        refine ⟨_, rfl, v, rfl, (by decide : 2 ≤ sizeLine), fun p1 n1 => ⟨_, rfl, v, rfl, (by decide : 3 ≤ sizeLine), fun p2 n2 => ⟨_, rfl, v, rfl, (by decide : 1 ≤ sizeLine), fun p0 n0 => ⟨(by decide : 3 ≤ sizeLine), fun p3 n3 => ?_⟩⟩⟩⟩
        refine ⟨_, rfl, v, rfl, (by decide : 3 ≤ sizeLine), fun p4 n4 => ⟨(by decide : 4 ≤ sizeLine), fun pl nl => ?_⟩⟩
        have m1 : Mv [] H5 (upd H5 p1 (.tup [.str nx, v])) := .new n1
        have m2 := Mv.new (S := []) (o := .tup [.str nx, .int 3, v]) n2
        have m3 := Mv.new (S := []) (o := .tup [.str "c"]) n0
        have m4 := Mv.new (S := []) (o := .tup [.str nx, v, .ref p0]) n3
        have m5 := Mv.new (S := []) (o := .tup [.str nx, v, .int 0]) n4
        have m6 := Mv.new (S := []) (o := .lst [.ref p1, .ref p2, .ref p3, .ref p4]) nl
        have m46 := m4.trans (m5.trans m6)
        have M := m1.trans (m2.trans (m3.trans m46))
        have hpl : pl ≠ b := (hB5.mv (m1.trans (m2.trans (m3.trans (m4.trans m5))))).fneq nl
        have e1 := (m2.trans (m3.trans m46)).sqT (K := K) (a := p1) (xs := [.str nx, v]) (.inl (.inl upd_same))
        have e2 := (m3.trans m46).sqT (K := K) (a := p2) (xs := [.str nx, .int 3, v]) (.inl (.inl upd_same))
        have e0 := m46.sqT (K := K) (a := p0) (xs := [.str "c"]) (.inl (.inl upd_same))
        have e3 := (m5.trans m6).sqT (K := K) (a := p3) (xs := [.str nx, v, .ref p0]) (.inl (.inl upd_same))
        have e4 := m6.sqT (K := K) (a := p4) (xs := [.str nx, v, .int 0]) (.inl (.inl upd_same))
        have el : upd (upd (upd (upd (upd (upd H5 p1 (.tup [.str nx, v])) p2 (.tup [.str nx, .int 3, v])) p0 (.tup [.str "c"])) p3 (.tup [.str nx, v, .ref p0])) p4 (.tup [.str nx, v, .int 0])) pl (.lst [.ref p1, .ref p2, .ref p3, .ref p4]) pl = some (.lst [.ref p1, .ref p2, .ref p3, .ref p4]) := upd_same
        generalize upd (upd (upd (upd (upd (upd H5 p1 (.tup [.str nx, v])) p2 (.tup [.str nx, .int 3, v])) p0 (.tup [.str "c"])) p3 (.tup [.str nx, v, .ref p0])) p4 (.tup [.str nx, v, .int 0])) pl (.lst [.ref p1, .ref p2, .ref p3, .ref p4]) = H6 at M e1 e2 e0 e3 e4 el ⊢
        have hB6 := hB5.mv M
        refine ⟨.ref b, rfl, b, 4, rfl, hB6, by decide, by decide, fun j H7 hj0 hj1 d7 => ?_⟩
        have el7 := d7.get hpl el
        have dAll : Dr b H3 H7 := (d4.trans d5).trans ((Dr.of M).trans d7)
        have hv7 : Im K H7 v t.d := him.mv ((d5.mv.trans (M.mono (by simp))).trans d7.mv)
        have hc : Im K H7 (.ref p0) (Tm.op "c" []).d := Im.tup (d7.mv.sqT e0) (Ims.cons (Im.str _) Ims.nil)
        have hcN : Nm "c" := by decide +kernel
        have hcases : j = 0 ∨ j = 1 ∨ j = 2 ∨ j = 3 := by omega
        rcases hcases with rfl | rfl | rfl | rfl
        · refine rd_ixL (.inl (.inl el7)) (by decide) (v := .ref p1) rfl ⟨_, .op nx [t], _, _, rfl, Im.tup (d7.mv.sqT e1) (Ims.cons (Im.str nx) (Ims.cons hv7 Ims.nil)), ⟨hNm, by simp, ho, trivial⟩, ?_, ?_, ?_, dAll⟩
          · simp only [Tm.dep, Tm.deps]; omega
          · simp only [Tm.lv, Tm.lvs]; omega
          · simp only [Tm.cst, Tm.csts]; omega
        · refine rd_ixL (.inl (.inl el7)) (by decide) (v := .ref p2) rfl ⟨_, .op nx [.var 3, t], _, _, rfl, Im.tup (d7.mv.sqT e2) (Ims.cons (Im.str nx) (Ims.cons (Im.int 3) (Ims.cons hv7 Ims.nil))), ⟨hNm, by simp, ⟨by decide, by decide⟩, ho, trivial⟩, ?_, ?_, ?_, dAll⟩
          · simp only [Tm.dep, Tm.deps]; omega
          · simp only [Tm.lv, Tm.lvs]; omega
          · simp only [Tm.cst, Tm.csts]; omega
        · refine rd_ixL (.inl (.inl el7)) (by decide) (v := .ref p3) rfl ⟨_, .op nx [t, .op "c" []], _, _, rfl, Im.tup (d7.mv.sqT e3) (Ims.cons (Im.str nx) (Ims.cons hv7 (Ims.cons hc Ims.nil))), ⟨hNm, by simp, ho, ⟨hcN, by simp, trivial⟩, trivial⟩, ?_, ?_, ?_, dAll⟩
          · simp only [Tm.dep, Tm.deps]; omega
          · simp only [Tm.lv, Tm.lvs]; omega
          · simp only [Tm.cst, Tm.csts]; omega
        · refine rd_ixL (.inl (.inl el7)) (by decide) (v := .ref p4) rfl ⟨_, .op nx [t, .var 0], _, _, rfl, Im.tup (d7.mv.sqT e4) (Ims.cons (Im.str nx) (Ims.cons hv7 (Ims.cons (Im.int 0) Ims.nil))), ⟨hNm, by simp, ho, ⟨by decide, by decide⟩, trivial⟩, ?_, ?_, ?_, dAll⟩
          · simp only [Tm.dep, Tm.deps]; omega
          · simp only [Tm.lv, Tm.lvs]; omega
          · simp only [Tm.cst, Tm.csts]; omega
      · obtain ⟨v, t, y3, y4, rfl, him, ho, hdp, hlv, hcs, d4⟩ := h4
        exact ⟨v, rfl, q v t H4 ⟨ho, by omega, by omega, by omega⟩ him (d13.trans d4)⟩
end
end Fm
namespace Fm
open PySem PySem.Spec PyProof.Rows L2
local macro_rules | `(tactic| walk_at "nn") => `(tactic| dsimp only [tC, tNil, tCons, tCB, tCall, gName, tSeq, tAsg, tPar, tDrop, tRet])
local macro_rules | `(tactic| walk_at "nc") => `(tactic| dsimp only [tC, tNil, tCons, tCB])
def fw4 : List Int := [0, 5, 10 ^ 39, 7]
def in4 (i : Int) : Prop := i ∈ fw4
theorem in4_fit : ∀ i, in4 i → i.natAbs < 10 ^ 40 := by
  intro i hi
  have h : i = 0 ∨ i = 5 ∨ i = 10 ^ 39 ∨ i = 7 := by simpa [in4, fw4] using hi
  rcases h with rfl | rfl | rfl | rfl <;> decide
theorem in5_fit : ∀ i, in5 i → i.natAbs < 10 ^ 40 := by
  intro i hi
  have h1 := hi.1
  have h2 := hi.2
  have : i.natAbs < 5 := by omega
  exact Nat.lt_trans this (by decide)
def sp_far (K : PySem.W.Frag) : Sp := fun vs H Q _ => ∃ (b : Addr) (v : V) (t : Tm), vs = [.ref b, v] ∧ Bag H b ∧ Im K H v t.d ∧ Gr in5 t ∧ ∀ v' (t' : Tm) H', Gr in4 t' → Im K H' v' t'.d → Dr b H H' → Q v' H'
section
variable {P : Program} {w : World} {K : PySem.W.Frag} {mg : Str → Option Value} {base : Heap}
theorem ok__law_far (T : TX K mg) : FnOk P w K mg base CX0 53 T.d__law_far.f T.d__law_far.fd P__law_far (sp_far K) := by
  have G__law_take : FnOk P w K mg base CX0 1 T.d__law_take.f T.d__law_take.fd P__law_take sp_take := ok__law_take T
  have G__law_put : FnOk P w K mg base CX0 52 T.d__law_put.f T.d__law_put.fd P__law_put (sp_put K 51) := ok__law_put T 51
  refine T.d__law_far.F.ok sc__law_far (fun vs H Q E h => ?_) (fun cdv A outer s H vs Q E hr h => ?_)
  · obtain ⟨_, _, _, rfl, _⟩ := h
    rfl
  · obtain ⟨b, v, t, rfl, hB, him, hG, q⟩ := h
    refine ⟨_, (pss_cons (ps_setLc (i := 2) (own := [("_law_k", 3)]) (g := gName 3) (by rfl) sc__law_far.nd rfl rfl (sw_true rfl rfl rfl (by decide +kernel)) (pi_range1 (by rfl) T.b_range (pa_cons pe_int pa_nil)) (blkOk_by (own := [("_law_k", 3)]) (N := N__law_far) (sc := defScope s__law_far) (by decide +kernel)) (fun _ _ _ _ _ => pg_name (i := 3) sc__law_far.nd rfl (Or.inl rfl)) (fun _ _ _ _ _ => pts_nil) (fun _ _ _ _ _ => (pe_ix (r := rIx K) ix_seq (pe_lst (pa_cons pe_int (pa_cons pe_int (pa_cons (pe_op op_pow pe_int pe_int) (pa_cons pe_int (pa_cons pe_int pa_nil)))))) (pe_call G__law_take (hr.mono (by omega)) rfl T.d__law_take.g T.d__law_take.F.kp T.d__law_take.b .nil pass0 (pa_cons (pv 0) (pa_cons pe_int pa_nil))) (fun _ _ => rfl)))) (pss_one (ps_ret (pe_call G__law_put (hr.mono (by omega)) rfl T.d__law_put.g T.d__law_put.F.kp T.d__law_put.b .nil pass0 (pa_cons (pv 1) (pa_cons (pv 2) pa_nil)))))), ?_⟩
    refine ⟨6, rfl, by decide, by decide, fun D nD => ?_⟩
    refine lc_range (lo := 0) (n := (6 : Int).toNat) (fun i H2 => ∃ ns : List Int, H2 D = some (.lst (ns.map V.int)) ∧ ns.length = i ∧ (∀ n ∈ ns, in4 n) ∧ Dr b H H2)
      ⟨[], upd_same, rfl, by simp, Dr.new nD⟩ (fun i H2 hi h2 => ?_) (fun H2 h2 => ?_)
    · obtain ⟨ns, e2, l2, c2, d2⟩ := h2
      refine ⟨rfl, 10, 39, rfl, rfl, ⟨by decide, by decide, by decide⟩, (by decide : 5 ≤ sizeLine), fun p np => ?_⟩
      have m3 : Mv [] H2 (upd H2 p (.lst [.int 0, .int 5, .int (10 ^ (39 : Int).toNat), .int 7, .int 7])) := .new np
      have e3 : upd H2 p (.lst [.int 0, .int 5, .int (10 ^ (39 : Int).toNat), .int 7, .int 7]) p = some (.lst [.int 0, .int 5, .int (10 ^ (39 : Int).toNat), .int 7, .int 7]) := upd_same
      have hB2 := d2.bag hB
      have hpb : p ≠ b := hB2.fneq np
      refine ⟨.ref b, rfl, b, 5, rfl, hB2.mv m3, by decide, by decide, fun j H4 hj0 hj1 d4 => ?_⟩
      have e4 := d4.get hpb e3
      have d24 : Dr b H2 H4 := (Dr.of m3).trans d4
      have hDb : D ≠ b := hB.fneq nD
      have fin : ∀ n : Int, in4 n → ∃ acc, H4 D = some (.lst acc) ∧ acc.length < sizeLine ∧ ∃ ns' : List Int, upd H4 D (.lst (acc ++ [.int n])) D = some (.lst (ns'.map V.int)) ∧ ns'.length = i + 1 ∧ (∀ n ∈ ns', in4 n) ∧ Dr b H (upd H4 D (.lst (acc ++ [.int n]))) := fun n hn => by
        refine ⟨_, d24.get hDb e2, ?_, ns ++ [n], ?_, by simp [l2], ?_, (d2.trans d24).wr nD⟩
        · rw [List.length_map, l2]
          exact small1000 (by have : (6 : Int).toNat = 6 := rfl; omega)
        · rw [upd_same, List.map_append]
          rfl
        · intro z hz
          rcases List.mem_append.mp hz with hz | hz
          · exact c2 z hz
          · rw [List.mem_singleton.mp hz]
            exact hn
      have hcases : j = 0 ∨ j = 1 ∨ j = 2 ∨ j = 3 ∨ j = 4 := by omega
      rcases hcases with rfl | rfl | rfl | rfl | rfl
      · exact rd_ixL (.inl (.inl e4)) (by decide) (v := .int 0) rfl (fin 0 (by simp [in4, fw4]))
      · exact rd_ixL (.inl (.inl e4)) (by decide) (v := .int 5) rfl (fin 5 (by simp [in4, fw4]))
      · exact rd_ixL (.inl (.inl e4)) (by decide) (v := .int (10 ^ (39 : Int).toNat)) rfl (fin _ (by show (10 : Int) ^ (39 : Int).toNat ∈ fw4; simp [fw4]))
      · exact rd_ixL (.inl (.inl e4)) (by decide) (v := .int 7) rfl (fin 7 (by simp [in4, fw4]))
      · exact rd_ixL (.inl (.inl e4)) (by decide) (v := .int 7) rfl (fin 7 (by simp [in4, fw4]))
    · obtain ⟨ns, e2, l2, c2, d2⟩ := h2
      have l6 : ns.length = 6 := l2
      have hget : ∀ i : Int, in5 i → i.toNat < ns.length := fun i hi => by
        have := hi.1
        have := hi.2
        omega
      have hlk : Look1 K H2 (.ref D) in5 (fun i => .var (ns.getD i.toNat 0)) := by
        refine ⟨D, rfl, .inl ⟨_, .inl (.inl e2), fun i hi => ⟨hi.1, _, ?_, Im.int _⟩⟩⟩
        rw [List.getElem?_map, List.getElem?_eq_getElem (hget i hi), List.getD_eq_getElem?_getD, List.getElem?_eq_getElem (hget i hi)]
        rfl
      have hd := hG.dep
      refine ⟨v, rfl, .ref D, rfl, v, .ref D, t, in5, _, rfl, him.mv d2.mv, hG.ok, by omega, hlk, fun v' H3 m3 h3 => ?_⟩
      refine q v' _ H3 ⟨Tm.ok_put (P := in5) (fun i hi => ?_) t hG.ok, ?_, ?_, ?_⟩ h3 (d2.trans (.of m3))
      · show in4 (ns.getD i.toNat 0)
        rw [List.getD_eq_getElem?_getD, List.getElem?_eq_getElem (hget i hi)]
        exact c2 _ (List.getElem_mem (hget i hi))
      · exact Nat.le_trans (Tm.dep_put (P := in5) (n := 0) (fun i _ => by simp [Tm.dep]) t hG.ok) (by omega)
      · have := Tm.lv_put (P := in5) (f := fun i => .var (ns.getD i.toNat 0)) (c := 1) (fun i _ => by simp [Tm.lv]) t hG.ok
        have := hG.lv
        omega
      · have := Tm.cst_put (P := in5) (f := fun i => .var (ns.getD i.toNat 0)) (c := 0) (fun i _ => by simp [Tm.cst]) t hG.ok
        have := hG.cst
        omega
end
end Fm
namespace Fm
open PySem PySem.Spec PyProof.Rows L2
local macro_rules | `(tactic| walk_at "nn") => `(tactic| dsimp only [tC, tNil, tCons, tCB, tCall, gName, tSeq, tAsg, tPar, tDrop, tRet])
local macro_rules | `(tactic| walk_at "nc") => `(tactic| dsimp only [tC, tNil, tCons, tCB])
section
variable {K : PySem.W.Frag} {H H' : Hp}
theorem same_sqT {a : Addr} {xs : List V} (e : Same H H') (h : SqT K H a xs) : SqT K H' a xs := (Mv.of_same (S := []) e).sqT h
mutual
theorem dp_same (e : Same H H') : ∀ (d : PyData) (v : V), Dp K H v d → Dp K H' v d
  | .none, _, h => by cases h; exact .non
  | .bool b, _, h => by cases h; exact .bl b
  | .int i, _, h => by cases h; exact .int i
  | .str x, _, h => by cases h; exact .str x
  | .tuple ds, _, h => by
    cases h with
    | tup hs ha => exact .tup (same_sqT e hs) (dps_same e ds _ ha)
  | .list ds, _, h => by
    cases h with
    | lst hs ha => exact .lst (e.seq hs) (dps_same e ds _ ha)
  | .dict _, _, h => by cases h
theorem dps_same (e : Same H H') : ∀ (ds : List PyData) (vs : List V), DpAll K H vs ds → DpAll K H' vs ds
  | [], _, h => by cases h; exact .nil
  | d :: ds, _, h => by
    cases h with
    | cons h1 h2 => exact .cons (dp_same e d _ h1) (dps_same e ds _ h2)
end
end
/-- lists of drawn terms -/
def Grs (P : Int → Prop) (ts : List Tm) : Prop := ∀ t ∈ ts, Gr P t
theorem Grs.oks {P : Int → Prop} {ts : List Tm} (h : Grs P ts) : Tm.oks P ts := Tm.oks_iff.mpr fun t ht => (h t ht).ok
theorem Grs.deps {P : Int → Prop} {ts : List Tm} (h : Grs P ts) : Tm.deps ts ≤ 20 := Tm.deps_le.mpr fun t ht => (h t ht).dep
theorem Grs.csts {P : Int → Prop} : ∀ {ts : List Tm}, Grs P ts → Tm.csts ts ≤ 4002 * ts.length ∧ Tm.lvs ts ≤ 81 * ts.length ∧ Tm.nod ts ≤ 125 * ts.length
  | [], _ => by simp [Tm.csts, Tm.lvs, Tm.nod, Tm.sizes]
  | t :: ts, h => by
    have ih := Grs.csts (P := P) (ts := ts) fun u hu => h u (by simp [hu])
    have h1 := (h t (by simp)).cst
    have h2 := (h t (by simp)).lv
    have h3 := Tm.size_cst t
    simp only [Tm.csts, Tm.lvs, Tm.nod, Tm.sizes, List.length_cons] at *
    omega
theorem Grs.shw {P : Int → Prop} (hP : ∀ i, P i → i.natAbs < 10 ^ 40) {ts : List Tm} (h : Grs P ts) (hl : ts.length ≤ 10) : fineAll (Tm.ds ts) ∧ PyData.depthAll (Tm.ds ts) ≤ 20 ∧ wls (Tm.ds ts) ≤ 80000 := by
  have h1 := h.csts
  have h2 := wl_ds ts h.oks
  refine ⟨fine_ds hP ts h.oks, by rw [depth_ds]; exact h.deps, by omega⟩
/-- the two kinds of what is handed in -/
def sp_put_right (K : PySem.W.Frag) : Sp := fun vs H Q _ => ∃ (b nm tl : Addr) (xs : List Str) (ys : List V) (ts : List Tm), vs = [.ref b, .ref nm, .ref tl] ∧ Bag H b ∧ Nms H b nm xs ∧ H tl = some (.lst ys) ∧ tl ≠ b ∧ Ims K H ys (Tm.ds ts) ∧ Grs in5 ts ∧ ts.length ≤ 4 ∧
  ∀ H', Dr b H H' → Q (.bl true) H'
section
variable {P : Program} {w : World} {K : PySem.W.Frag} {mg : Str → Option Value} {base : Heap}
theorem ok__law_put_right (T : TX K mg) : FnOkG P w K mg base CX0 53 T.d__law_put_right.f T.d__law_put_right.fd P__law_put_right (sp_put_right K) := by
  have G__law_take : FnOk P w K mg base CX0 1 T.d__law_take.f T.d__law_take.fd P__law_take sp_take := ok__law_take T
  have G__law_great : FnOk P w K mg base CX0 8 T.d__law_great.f T.d__law_great.fd P__law_great (sp_great K) := ok__law_great T
  have G__law_put : FnOk P w K mg base CX0 52 T.d__law_put.f T.d__law_put.fd P__law_put (sp_put K 51) := ok__law_put T 51
  have G_put : FnOk P w K mg base CX0 52 T.d_put.f T.d_put.fd P_put (sp_put K 51) := ok_put T 51
  have G__law_alike : FnOkG P w K mg base CX0 1 T.d__law_alike.f T.d__law_alike.fd P__law_alike (sp_alike K) := ok__law_alike T
  refine okG T.d__law_put_right.F sc__law_put_right (fun vs H Q E h => ?_) (fun cdv A outer s H vs Q E hgd hr h => ?_)
  · obtain ⟨_, _, _, _, _, _, rfl, _⟩ := h
    rfl
  · obtain ⟨b, nm, tl, xs, ys, ts, rfl, hB, hN, ht, htb, hys, hG, hln, q⟩ := h
    have hu64 := hr.units
    refine ⟨_, (pss_cons (ps_setLc (i := 3) (own := [("_law_k", 8)]) (g := gName 8) (by rfl) sc__law_put_right.nd rfl rfl (sw_true rfl rfl rfl (by decide +kernel)) (pi_range1 (by rfl) T.b_range (pa_cons pe_int pa_nil)) (blkOk_by (own := [("_law_k", 8)]) (N := N__law_put_right) (sc := defScope s__law_put_right) (by decide +kernel)) (fun _ _ _ _ _ => pg_name (i := 8) sc__law_put_right.nd rfl (Or.inl rfl)) (fun _ _ _ _ _ => pts_nil) (fun _ _ _ _ _ => (pe_call G__law_great (hr.mono (by omega)) rfl T.d__law_great.g T.d__law_great.F.kp T.d__law_great.b .nil pass0 (pa_cons (pv 0) (pa_cons (pv 1) pa_nil))))) (pss_cons (ps_set (i := 4) sc__law_put_right.nd rfl (Or.inl rfl) (pe_ix (r := rIx K) ix_seq (pe_lst (pa_cons (pv 3) (pa_cons (pe_callTy (r := rTupOf K) call_tupG (by rfl) T.b_tuple bt_tuple (pa_cons (pv 3) pa_nil)) pa_nil))) (pe_call G__law_take (hr.mono (by omega)) rfl T.d__law_take.g T.d__law_take.F.kp T.d__law_take.b .nil pass0 (pa_cons (pv 0) (pa_cons pe_int pa_nil))) (fun _ _ => rfl))) (pss_cons (ps_set (i := 5) sc__law_put_right.nd rfl (Or.inl rfl) (pe_callB (r := rReprG K) (call_reprG hgd hu64) (by rfl) T.b_repr bt_repr (pa_cons (pe_lst (pa_cons (pv 2) (pa_cons (pv 4) pa_nil))) pa_nil))) (pss_cons (ps_for PassesOwn.never rfl (pi_seq (pv 2)) (pg_name (i := 6) sc__law_put_right.nd rfl (Or.inl rfl)) (pss_one (ps_for PassesOwn.never rfl (pi_range1 (by rfl) T.b_range (pa_cons pe_int pa_nil)) (pg_name (i := 7) sc__law_put_right.nd rfl (Or.inl rfl)) (pss_one (ps_if (pt_not (pt_val (pe_callG G__law_alike hgd (hr.mono (by omega)) rfl T.d__law_alike.g T.d__law_alike.F.kp T.d__law_alike.b .nil pass0 (pa_cons (pe_call G_put (hr.mono (by omega)) rfl T.d_put.g T.d_put.F.kp T.d_put.b .nil pass0 (pa_cons (pv 6) (pa_cons (pv 4) pa_nil))) (pa_cons (pe_call G__law_put (hr.mono (by omega)) rfl T.d__law_put.g T.d__law_put.F.kp T.d__law_put.b .nil pass0 (pa_cons (pv 6) (pa_cons (pv 3) pa_nil))) pa_nil))))) (pss_one (ps_ret pe_bl)) pss_nil))))) (pss_one (ps_ret (pe_cmpR (r := rEqG K) (op_eqG hu64) (pe_callB (r := rReprG K) (call_reprG hgd hu64) (by rfl) T.b_repr bt_repr (pa_cons (pe_lst (pa_cons (pv 2) (pa_cons (pv 4) pa_nil))) pa_nil)) (pv 5) (nomark _)))))))), ?_⟩
    refine ⟨6, rfl, by decide, by decide, fun D nD => ?_⟩
    have hDb : D ≠ b := hB.fneq nD
    refine lc_range (lo := 0) (n := (6 : Int).toNat) (fun i H2 => ∃ (vs : List V) (us : List Tm), H2 D = some (.lst vs) ∧ Ims K H2 vs (Tm.ds us) ∧ us.length = i ∧ Grs in5 us ∧ Dr b H H2)
      ⟨[], [], upd_same, Ims.nil, rfl, fun t ht => by simp at ht, Dr.new nD⟩ (fun i H2 hi h2 => ?_) (fun H2 h2 => ?_)
    · obtain ⟨vs, us, e2, i2, l2, g2, d2⟩ := h2
      refine ⟨rfl, .ref b, rfl, .ref nm, rfl, b, nm, xs, rfl, d2.bag hB, hN.dr d2, fun v t H3 hg him d3 => ?_⟩
      have e3 := d3.get hDb e2
      refine ⟨_, e3, ?_, vs ++ [v], us ++ [t], upd_same, ?_, by simp [l2], ?_, (d2.trans d3).wr nD⟩
      · rw [i2.length, Tm.ds_map, List.length_map, l2]
        exact small1000 (by have : (6 : Int).toNat = 6 := rfl; omega)
      · rw [Tm.ds_append]
        exact ((i2.mv d3.mv).append (Ims.cons him Ims.nil)).mv (Mv.set (S := [D]) e3 (by simp))
      · intro z hz
        rcases List.mem_append.mp hz with hz | hz
        · exact g2 z hz
        · rw [List.mem_singleton.mp hz]
          exact hg
    · obtain ⟨vs, us, e2, i2, l2, g2, d2⟩ := h2
      have l6 : us.length = 6 := l2
      have hB2 := d2.bag hB
      have ht2 := d2.get htb ht
      have hys2 := hys.mv d2.mv
      -- handed
      refine ⟨.ref D, rfl, .ref D, rfl, ?_⟩
      walk_at "nc"
      refine rd_tupOf (.inl (.inl e2)) fun tp H3 m3 e3 => ⟨(by decide : 2 ≤ sizeLine), fun lp nl => ?_⟩
      have m4 : Mv [] H3 (upd H3 lp (.lst [.ref D, .ref tp])) := .new nl
      have e4 : upd H3 lp (.lst [.ref D, .ref tp]) lp = some (.lst [.ref D, .ref tp]) := upd_same
      have hlpb : lp ≠ b := (hB2.mv m3).fneq nl
      generalize upd H3 lp (.lst [.ref D, .ref tp]) = H4 at m4 e4 ⊢
      have hB4 := (hB2.mv m3).mv m4
      refine ⟨.ref b, rfl, b, 2, rfl, hB4, by decide, by decide, fun j H5 hj0 hj1 d5 => ?_⟩
      have e5 := d5.get hlpb e4
      have d25 : Dr b H2 H5 := ((Dr.of m3).trans (Dr.of m4)).trans d5
      have dH5 := d2.trans d25
      have eD5 := d25.get hDb e2
      have et5 := d25.get htb ht2
      have i5 := i2.mv d25.mv
      have hy5 := hys2.mv d25.mv
      have eT5 : SqT K H5 tp vs := d5.mv.sqT (m4.sqT e3)
      obtain ⟨fun_, hfun⟩ : ∃ f : Int → Tm, f = fun i => us.getD i.toNat (.var 0) := ⟨_, rfl⟩
      have hgetU : ∀ i : Int, in5 i → i.toNat < us.length := fun i hi => by
        have := hi.1
        have := hi.2
        omega
      have hat : ∀ i : Int, in5 i → 0 ≤ i ∧ ∃ v, vs[i.toNat]? = some v ∧ Im K H5 v (fun_ i).d := fun i hi => by
        refine ⟨hi.1, ?_⟩
        have hu := List.getElem?_eq_getElem (hgetU i hi)
        obtain ⟨v, hv, hm⟩ := i5.getD (i := i.toNat) (d := (us[i.toNat]'(hgetU i hi)).d) (by rw [Tm.ds_map, List.getElem?_map, hu]; rfl)
        refine ⟨v, hv, ?_⟩
        rw [hfun]
        show Im K H5 v (us.getD i.toNat (.var 0)).d
        rw [List.getD_eq_getElem?_getD, hu]
        exact hm
      have hlkD : Look1 K H5 (.ref D) in5 fun_ := ⟨D, rfl, .inl ⟨vs, .inl (.inl eD5), hat⟩⟩
      have hlkT : Look1 K H5 (.ref tp) in5 fun_ := ⟨tp, rfl, .inr (.inl ⟨vs, eT5, hat⟩)⟩
      have hfG : ∀ i, in5 i → Gr in5 (fun_ i) := fun i hi => by
        rw [hfun]
        show Gr in5 (us.getD i.toNat (.var 0))
        rw [List.getD_eq_getElem?_getD, List.getElem?_eq_getElem (hgetU i hi)]
        exact g2 _ (List.getElem_mem (hgetU i hi))
      have hshU := Grs.shw in5_fit g2 (by omega)
      have hshT := Grs.shw in5_fit hG (by omega)
      -- whatever is handed in
      obtain ⟨hv, dd, hx, hlk, hdd, hfd, hdep, hwl⟩ : ∃ (hv : V) (dd : PyData), [V.ref D, V.ref tp][j.toNat]? = some hv ∧ Look1 K H5 hv in5 fun_ ∧ Dp K H5 hv dd ∧ fine dd ∧ dd.depth ≤ 21 ∧ wl dd ≤ 80002 := by
        have hcases : j = 0 ∨ j = 1 := by omega
        rcases hcases with rfl | rfl
        · refine ⟨.ref D, .list (Tm.ds us), rfl, hlkD, .lst (.inl (.inl eD5)) i5.dp, hshU.1, ?_, ?_⟩
          · simp only [PyData.depth]; omega
          · simp only [wl]; omega
        · refine ⟨.ref tp, .tuple (Tm.ds us), rfl, hlkT, .tup eT5 i5.dp, hshU.1, ?_, ?_⟩
          · simp only [PyData.depth]; omega
          · simp only [wl]; omega
      refine rd_ixL (.inl (.inl e5)) hj0 hx ?_
      obtain ⟨dk, hdk⟩ : ∃ dk, dk = PyData.list [.list (Tm.ds ts), dd] := ⟨_, rfl⟩
      have hsk : Shw dk := by
        subst hdk
        refine ⟨⟨hshT.1, hfd, trivial⟩, ?_, ?_⟩
        · simp only [PyData.depth, PyData.depthAll]; omega
        · simp only [wl, wls]; omega
      have hfk := fine_lay dk hsk.fi
      have dpk : ∀ {H' : Hp} {kp : Addr}, Mv [] H5 H' → H' kp = some (.lst [.ref tl, hv]) → Dp K H' (.ref kp) dk := fun {H' kp} m e => by
        subst hdk
        exact .lst (.inl (.inl e)) (.cons (.lst (.inl (.inl (m.same _ _ et5))) (hy5.mv m).dp) (.cons (dp_same m.same dd hv hdd) .nil))
      -- kept
      refine ⟨.ref tl, rfl, hv, rfl, (by decide : 2 ≤ sizeLine), fun kp nk => ?_⟩
      have m6 : Mv [] H5 (upd H5 kp (.lst [.ref tl, hv])) := .new nk
      have e6 : upd H5 kp (.lst [.ref tl, hv]) kp = some (.lst [.ref tl, hv]) := upd_same
      generalize upd H5 kp (.lst [.ref tl, hv]) = H6 at m6 e6 ⊢
      refine ⟨.ref kp, dk, rfl, dpk m6 e6, hfk.2.1, hfk.2.2, hsk.dp, hsk.len, ?_⟩
      refine ⟨.ref tl, rfl, tl, rfl, ?_⟩
      have hyl : ys.length = ts.length := by rw [hys.length, Tm.ds_map, List.length_map]
      refine for_seq (xs := ys) (.inl (.inl (.inl (m6.same _ _ et5)))) (fun i σ H7 => ∃ (y6 y7 : Option V), σ = [some (.ref b), some (.ref nm), some (.ref tl), some (.ref D), some hv, some (.str dk.shown), y6, y7, none] ∧ Mv [] H6 H7)
        ⟨none, none, rfl, .refl⟩ (fun i σ H7 h7 => ?_) (fun i x σ H7 hx7 h7 => ?_) (fun σ H7 h7 => ?_)
      · obtain ⟨_, _, _, m⟩ := h7
        exact m
      · obtain ⟨y6, y7, rfl, m7⟩ := h7
        obtain ⟨xd, hxd, him⟩ := hy5.get hx7
        rw [Tm.ds_map, List.getElem?_map] at hxd
        obtain ⟨t, ht, rfl⟩ := Option.map_eq_some_iff.mp hxd
        have hg := hG t (List.mem_of_getElem? ht)
        have hgd := hg.dep
        refine ⟨2, rfl, by decide, by decide, ?_⟩
        refine for_range (lo := 0) (n := (2 : Int).toNat) (fun i σ H8 => ∃ (y7 : Option V), σ = [some (.ref b), some (.ref nm), some (.ref tl), some (.ref D), some hv, some (.str dk.shown), some x, y7, none] ∧ Mv [] H6 H8)
          ⟨y7, rfl, m7⟩ (fun i2 σ H8 hi2 h8 => ?_) (fun σ H8 h8 => ?_)
        · obtain ⟨y7', rfl, m8⟩ := h8
          have m58 := m6.trans m8
          refine ⟨x, rfl, hv, rfl, x, hv, t, in5, fun_, rfl, him.mv m58, hg.ok, by omega, hlk.mv m58, fun v1 H9 m9 h9 => ?_⟩
          have m59 := m58.trans m9
          refine ⟨x, rfl, .ref D, rfl, x, .ref D, t, in5, fun_, rfl, him.mv m59, hg.ok, by omega, hlkD.mv m59, fun v2 H10 m10 h10 => ?_⟩
          refine ⟨v1, v2, _, rfl, (h9.mv m10).dp, h10.dp, ?_, true, rfl, _, rfl, m8.trans (m9.trans m10)⟩
          have o1 := Tm.ok_put (P := in5) (R := in5) (f := fun_) (fun i hi => (hfG i hi).ok) t hg.ok
          have w1 := wl_d _ o1
          have c1 := Tm.cst_put (P := in5) (f := fun_) (c := 4000) (fun i hi => (hfG i hi).cst) t hg.ok
          have v1 := Tm.lv_put (P := in5) (f := fun_) (c := 81) (fun i hi => (hfG i hi).lv) t hg.ok
          have p1 := Tm.dep_put (P := in5) (f := fun_) (n := 20) (fun i hi => (hfG i hi).dep) t hg.ok
          have a1 := hg.cst
          have a2 := hg.lv
          refine ⟨fine_d in5_fit _ o1, by rw [depth_d]; omega, ?_⟩
          omega
        · obtain ⟨y7', rfl, m8⟩ := h8
          exact ⟨some x, y7', rfl, m8⟩
      · obtain ⟨y6, y7, rfl, m7⟩ := h7
        refine ⟨.ref tl, rfl, hv, rfl, (by decide : 2 ≤ sizeLine), fun kp2 nk2 => ?_⟩
        have m8 : Mv [] H7 (upd H7 kp2 (.lst [.ref tl, hv])) := .new nk2
        have e8 : upd H7 kp2 (.lst [.ref tl, hv]) kp2 = some (.lst [.ref tl, hv]) := upd_same
        generalize upd H7 kp2 (.lst [.ref tl, hv]) = H8 at m8 e8 ⊢
        have m58 := (m6.trans m7).trans m8
        refine ⟨.ref kp2, dk, rfl, dpk m58 e8, hfk.2.1, hfk.2.2, hsk.dp, hsk.len, _, rfl, Or.inl ⟨rfl, ?_⟩⟩
        rw [decide_eq_true rfl]
        exact q _ (dH5.trans (.of m58))
end
end Fm
namespace Fm
open PySem PySem.Spec PyProof.Rows L2
/-! the end: a law whose def asks for reprs -/
section
variable {P : Program} {w : World} {K : PySem.W.Frag} {mg mb : Str → Option Value} {k : Nat} {fa a : Addr} {fd : FuncData} {x : Str} {sp : Sp} {s : Shared} {vs : List Value} {ns : List Int}
/-- from a heap that knows nothing but, perhaps, the script -/
theorem from_heap (KX : K.In s.heap) (hg0 : s.heap.Ns mainGlobals mg) (hb : s.heap.Ns builtinsNs mb) (hbb : ∀ y : Str, y ≠ "__name__" → mb y = bootBuiltins y) (hlim : s.heap.NoLimit) (hg : s.gens = #[])
    (ha : s.heap.get? a = some { cls := .type "list", data := .seq vs.toArray }) (hr : Room k callerA) (F : ∀ base : Heap, K.In base → base.Ns mainGlobals mg → FnOkG P w K mg base CX0 k fa fd [x] sp)
    (hbind : ∀ (t : Shared) (u : Value), BindsTo t fd ⟨[u], []⟩ [(x, u)]) (H : Hp) (hO : Only H) (hok : HOk P w H s.heap) (hA : ∀ b, H b ≠ none → b = a) (hK : H a ≠ none → K.lookup a = none)
    (hsp : sp [.ref a] H (fun v _ => v = .bl true) fun _ _ _ => False) :
    codeAny (model P w) callerA (.call (.ref fa) ⟨[.ref a], []⟩) (fun r t => r = .ok (.ret (.bool true)) ∧ OldK s.heap t.heap ∧ t.os = s.os ∧ AllBare t.gens) s := by
  have free : ∀ {b : Addr} {o : Obj} {es : Array DictEntry} {ep : Nat}, s.heap.get? b = some o → o.data = .dict es ep → H b = none := by
    intro b o es ep e d
    cases q : H b with
    | none => rfl
    | some u =>
      have z := hA b (by rw [q]; exact Option.some_ne_none u)
      rw [z, ha] at e
      cases e
      exact nomatch d
  have ns : ∀ {b : Addr} {m : Str → Option Value}, s.heap.Ns b m → (hidT s.heap H).Ns b m := by
    rintro b m ⟨o, es, ep, e, d, r⟩
    exact ⟨o, es, ep, hidT_get e (free e d), d, r⟩
  have kin : K.In (hidT s.heap H) := by
    intro b o e
    refine hidT_get (KX b o e) ?_
    cases q : H b with
    | none => rfl
    | some u =>
      have z := hA b (by rw [q]; exact Option.some_ne_none u)
      rw [z] at q e
      rw [hK (by rw [q]; exact Option.some_ne_none u)] at e
      cases e
  have lim : (hidT s.heap H).NoLimit := by
    obtain ⟨mc, l1, l2⟩ := hlim
    exact ⟨mc, ns l1, l2⟩
  have env : Env0 P w K mg (hidT s.heap H) callerA [] s H :=
    ⟨rfl, ⟨kin, ns hg0, ⟨mb, ns hb, hbb⟩, lim⟩, fun b o e => of_hidT e, Nat.le_of_eq (hidT_size _ _), trivial, (fun b z => absurd (show b ∈ ([] : List Addr) from z) List.not_mem_nil), hok, .of_eq hg⟩
  have run := (F _ kin (ns hg0)).run callerA [] s H ⟨[.ref a], []⟩ [.ref a] [.ref a] _ _ rfl hr env (hbind s (.ref a)) (.cons rfl .nil) hsp
  refine codeAny_mono run fun r t h => ?_
  match r, h with
  | .error e, h => exact False.elim h
  | .ok (.ret u), h =>
    obtain ⟨v, H', os, bare, un, hok', r', q⟩ := h
    have q' : v = .bl true := q
    rw [q'] at r'
    obtain rfl : u = Value.bool true := r'
    refine ⟨rfl, OldK.of_keep fun b o e => ?_, os, bare⟩
    rcases hO b with z | ⟨ob, xs, z⟩
    · exact un.keep b o e z (fun y => absurd (show b ∈ ([] : List Addr) from y) List.not_mem_nil) (fun y => nomatch y)
    · obtain ⟨e1, _⟩ := hok b _ z
      obtain ⟨e2, _⟩ := hok' b _ (un.frzs b ob _ z)
      rw [e1] at e
      cases e
      exact e2
theorem law_callG (KX : K.In s.heap) (hg0 : s.heap.Ns mainGlobals mg) (hb : s.heap.Ns builtinsNs mb) (hbb : ∀ y : Str, y ≠ "__name__" → mb y = bootBuiltins y) (hlim : s.heap.NoLimit) (hg : s.gens = #[])
    (ha : s.heap.get? a = some { cls := .type "list", data := .seq vs.toArray }) (hi : IntsAre vs ns) (hl : ns.length ≤ sizeLine) (hr : Room k callerA)
    (F : ∀ base : Heap, K.In base → base.Ns mainGlobals mg → FnOkG P w K mg base CX0 k fa fd [x] sp) (hbind : ∀ (t : Shared) (u : Value), BindsTo t fd ⟨[u], []⟩ [(x, u)])
    (hsp : ∀ H : Hp, SqL K H a (ns.map V.int) → sp [.ref a] H (fun v _ => v = .bl true) fun _ _ _ => False) :
    codeAny (model P w) callerA (.call (.ref fa) ⟨[.ref a], []⟩) (fun r t => r = .ok (.ret (.bool true)) ∧ OldK s.heap t.heap ∧ t.os = s.os ∧ AllBare t.gens) s := by
  have rv := vals_ints hi
  have hlen : (ns.map V.int).length ≤ sizeLine := by
    rw [List.length_map]
    exact hl
  cases hk : K.lookup a with
  | some o =>
    have e := KX a o hk
    rw [ha] at e
    cases e
    refine from_heap KX hg0 hb hbb hlim hg ha hr F hbind (fun _ => none) (fun _ => .inl rfl) (fun b u z => nomatch z) (fun b z => absurd rfl z) (fun z => absurd rfl z) (hsp _ ?_)
    exact .inr ⟨_, vs.toArray, _, hk, rfl, rfl, rfl, by rw [List.size_toArray, hi.length]; exact hl, by simpa using rv⟩
  | none =>
    have at_ : ∀ b, (if b = a then some (HO.frz { cls := .type "list", data := .seq vs.toArray } (.lst (ns.map V.int))) else none) ≠ none → b = a := by
      intro b z
      by_cases e : b = a
      · exact e
      · rw [if_neg e] at z
        exact absurd rfl z
    refine from_heap KX hg0 hb hbb hlim hg ha hr F hbind (fun b => if b = a then some (.frz { cls := .type "list", data := .seq vs.toArray } (.lst (ns.map V.int))) else none) (fun b => ?_) (fun b u z => ?_) at_ (fun _ => hk)
      (hsp _ (.inl (.inr ⟨_, if_pos rfl⟩)))
    · by_cases e : b = a
      · exact .inr ⟨_, _, if_pos e⟩
      · exact .inl (if_neg e)
    · have e : b = a := at_ b (by
        have z' : (if b = a then some (HO.frz { cls := .type "list", data := .seq vs.toArray } (.lst (ns.map V.int))) else none) = some u := z
        rw [z']
        exact Option.some_ne_none u)
      subst e
      have z' := (if_pos rfl).symm.trans z
      cases z'
      exact ⟨ha, hlen, vs, _, rv, ha⟩
end
theorem walk_G {l : PySem.W.OpenLaw} {n k : Nat} {q : Program} {loose : List Str} {XP : (Str → Option Value) → Heap → Prop} {YP : World → Heap → Prop} {d : DefRec} {K : Params → PySem.W.Frag} {sp : PySem.W.Frag → Sp} {x : Str}
    (hn : l.most = some n) (hn2 : n ≤ sizeLine) (hdf : d.params.defaults = []) (hr : Room k callerA) (hY : ∀ (w : World) (h : Heap), YP w h → (K w.params).In h)
    (F : ∀ (w : World) (mg : Str → Option Value) (fa : Addr) (h : Heap), (K w.params).In h → h.Ns mainGlobals mg → mg d.name = some (.ref fa) →
      ∃ fd : FuncData, (∀ (t : Shared) (u : Value), BindsTo t fd ⟨[u], []⟩ [(x, u)]) ∧ ∀ base : Heap, (K w.params).In base → base.Ns mainGlobals mg → FnOkG l.prog w (K w.params) mg base CX0 k fa fd [x] (sp (K w.params)))
    (hsp : ∀ (K : PySem.W.Frag) (H : Hp) (a : Addr) (ns : List Int), ns.length ≤ n → SqL K H a (ns.map V.int) → sp K [.ref a] H (fun v _ => v = .bl true) fun _ _ _ => False) :
    PySem.W.WalkO q loose XP YP l.row.toRowW d [] (fun f vs => PySem.call f vs) := by
  refine Att.attach_call hn hdf fun w s₀ s₁ mg mb fa o pm cd doc a vs ns G Y ho hd hcd hmg hobj hints hlen hgens => ?_
  obtain ⟨fd, hb, hF⟩ := F w mg fa _ (hY w _ Y) G.T.g hmg
  exact law_callG (hY w _ Y) G.T.g G.T.b G.T.builtins G.T.nolimit hgens hobj hints (Nat.le_trans hlen hn2) hr hF hb fun H hS => hsp _ H a ns hlen hS
end Fm
namespace Fm
open PySem PySem.Spec PyProof.Rows L2
local macro_rules | `(tactic| walk_at "nn") => `(tactic| dsimp only [tC, tNil, tCons, tCB, tCall, gName, tSeq, tAsg, tPar, tDrop, tRet])
local macro_rules | `(tactic| walk_at "nc") => `(tactic| dsimp only [tC, tNil, tCons, tCB])
/-- a case of the law: what is kept, what is handed in -/
def Case (K : PySem.W.Frag) (H : Hp) (x : V) : Prop := ∃ (c kk hv : Addr) (ys : List V) (us : List Tm) (P : Int → Prop) (fw : List Int), x = .ref c ∧ SqT K H c [.ref kk, .ref hv] ∧ H kk = some (.lst ys) ∧ (SqL K H hv ys ∨ SqT K H hv ys) ∧
  Ims K H ys (Tm.ds us) ∧ Grs P us ∧ us.length ≤ 4 ∧ (∀ i, P i → i.natAbs < 10 ^ 40) ∧ (∀ i, P i → i ∈ fw) ∧ fw.length < 64
theorem wl_ints : ∀ ns : List Int, wls (ns.map PyData.int) = 43 * ns.length
  | [] => rfl
  | n :: ns => by
    simp only [List.map_cons, wls, wl, wl_ints ns, List.length_cons]
    omega
theorem fine_ints : ∀ {ns : List Int}, (∀ n ∈ ns, n.natAbs < 10 ^ 40) → fineAll (ns.map PyData.int)
  | [], _ => trivial
  | n :: ns, h => ⟨h n (by simp), fine_ints fun m hm => h m (by simp [hm])⟩
theorem depth_ints (ns : List Int) : PyData.depthAll (ns.map PyData.int) = 0 := by
  induction ns with
  | nil => rfl
  | cons x o ih => simp [PyData.depthAll, PyData.depth, ih]
theorem asc_nd {ns : List Int} (h : ns.Pairwise (· < ·)) : ns.Nodup := h.imp fun hab => by omega
/-- what is told of terms -/
def toldD (us : List Tm) (ns : List Int) : PyData := .list [.int ((Tm.sizes us : Nat) : Int), .list (ns.map PyData.int), .list (Tm.ds (Tm.puts (numF (ordr (Tm.leavesL us))) us))]
theorem told_shw {P : Int → Prop} {us : List Tm} {ns fw : List Int} (hG : Grs P us) (hl : us.length ≤ 4) (hP : ∀ i, P i → i.natAbs < 10 ^ 40) (hfw : ∀ i, P i → i ∈ fw) (hf : fw.length < 64) (hns : ns.Pairwise (· < ·)) (hm : ∀ k, k ∈ ns ↔ k ∈ Tm.leavesL us) : Shw (toldD us ns) := by
  have hc := hG.csts
  have hPn : ∀ n ∈ ns, P n := fun n hn => Tm.oks_leaves us hG.oks n ((hm n).mp hn)
  have hlen : ns.length < 64 := Nat.lt_of_le_of_lt (nd_few (asc_nd hns) fun k hk => hfw k (hPn k hk)) hf
  obtain ⟨o, ho⟩ : ∃ o, o = ordr (Tm.leavesL us) := ⟨_, rfl⟩
  have hol : o.length ≤ 500 := by
    have h1 := ordr_len (Tm.leavesL us)
    have h2 := Tm.leaves_le us
    rw [ho]
    omega
  have o1 : Tm.oks (fun i => i.natAbs < 10 ^ 40) (Tm.puts (numF o) us) := Tm.oks_puts (P := P) (fun i hi => by
    show ((o.idxOf i : Nat) : Int).natAbs < 10 ^ 40
    have : o.idxOf i ≤ o.length := List.idxOf_le_length
    have h2 : ((o.idxOf i : Nat) : Int).natAbs ≤ 500 := by omega
    exact Nat.lt_of_le_of_lt h2 (by decide)) us hG.oks
  have c1 := Tm.csts_puts (P := P) (f := numF o) (c := 0) (fun i _ => by simp [numF, Tm.cst]) us hG.oks
  have v1 := Tm.lvs_puts (P := P) (f := numF o) (c := 1) (fun i _ => by simp [numF, Tm.lv]) us hG.oks
  have p1 := Tm.deps_puts (P := P) (f := numF o) (n := 0) (fun i _ => by simp [numF, Tm.dep]) us hG.oks
  have w1 := wl_ds _ o1
  have q1 := hG.deps
  have hs : ((Tm.sizes us : Nat) : Int).natAbs < 10 ^ 40 := by
    have h2 : ((Tm.sizes us : Nat) : Int).natAbs ≤ 500 := by
      have := hc.2.2
      unfold Tm.nod at this
      omega
    exact Nat.lt_of_le_of_lt h2 (by decide)
  unfold toldD
  rw [← ho]
  refine ⟨⟨hs, fine_ints fun n hn => hP n (hPn n hn), fine_ds (fun _ h => h) _ o1, trivial⟩, ?_, ?_⟩
  · simp only [PyData.depth, PyData.depthAll, depth_ints, depth_ds]
    omega
  · simp only [wl, wls, wl_ints]
    omega
def sp_law (K : PySem.W.Frag) : Sp := fun vs H Q _ => ∃ (a : Addr) (ns : List Int), vs = [.ref a] ∧ SqL K H a (ns.map V.int) ∧ ns.length ≤ 63 ∧ ∀ H', Q (.bl true) H'
section
variable {P : Program} {w : World} {K : PySem.W.Frag} {mg : Str → Option Value} {base : Heap}
theorem ok_law (T : TX K mg) : FnOkG P w K mg base CX0 54 T.d_law.f T.d_law.fd P_law (sp_law K) := by
  have G__law_bag : FnOk P w K mg base CX0 1 T.d__law_bag.f T.d__law_bag.fd P__law_bag (sp_bag K) := ok__law_bag T
  have G__law_names : FnOk P w K mg base CX0 2 T.d__law_names.f T.d__law_names.fd P__law_names sp_names := ok__law_names T
  have G__law_take : FnOk P w K mg base CX0 1 T.d__law_take.f T.d__law_take.fd P__law_take sp_take := ok__law_take T
  have G__law_great : FnOk P w K mg base CX0 8 T.d__law_great.f T.d__law_great.fd P__law_great (sp_great K) := ok__law_great T
  have G__law_put_right : FnOkG P w K mg base CX0 53 T.d__law_put_right.f T.d__law_put_right.fd P__law_put_right (sp_put_right K) := ok__law_put_right T
  have G__law_far : FnOk P w K mg base CX0 53 T.d__law_far.f T.d__law_far.fd P__law_far (sp_far K) := ok__law_far T
  have G__law_leaves : FnOk P w K mg base CX0 52 T.d__law_leaves.f T.d__law_leaves.fd P__law_leaves (sp_leavesR K 51) := ok__law_leaves T 51
  have G__law_size : FnOk P w K mg base CX0 52 T.d__law_size.f T.d__law_size.fd P__law_size (sp_sizeR K 51) := ok__law_size T 51
  have G__law_numbered : FnOk P w K mg base CX0 53 T.d__law_numbered.f T.d__law_numbered.fd P__law_numbered (sp_numbered K) := ok__law_numbered T
  have G_size : FnOk P w K mg base CX0 1 T.d_size.f T.d_size.fd P_size (sp_size K) := ok_size T
  have G_unknowns : FnOk P w K mg base CX0 2 T.d_unknowns.f T.d_unknowns.fd P_unknowns (sp_unknowns K) := ok_unknowns T
  have G_numbered : FnOk P w K mg base CX0 53 T.d_numbered.f T.d_numbered.fd P_numbered (sp_numbered K) := ok_numbered T
  have G__law_alike : FnOkG P w K mg base CX0 1 T.d__law_alike.f T.d__law_alike.fd P__law_alike (sp_alike K) := ok__law_alike T
  refine okG T.d_law.F sc_law (fun vs H Q E h => ?_) (fun cdv A outer s H vs Q E hgd hr h => ?_)
  · obtain ⟨_, _, rfl, _⟩ := h
    rfl
  · obtain ⟨a, sns, rfl, hS, hl63, q⟩ := h
    refine ⟨_, (pss_cons (ps_set (i := 1) sc_law.nd rfl (Or.inr rfl) (pe_call G__law_bag (hr.mono (by omega)) rfl T.d__law_bag.g T.d__law_bag.F.kp T.d__law_bag.b .nil pass0 (pa_cons (pv 0) pa_nil))) (pss_cons (ps_set (i := 2) sc_law.nd rfl (Or.inr rfl) (pe_call G__law_names (hr.mono (by omega)) rfl T.d__law_names.g T.d__law_names.F.kp T.d__law_names.b .nil pass0 (pa_cons (pv 1) (pa_cons pe_int pa_nil)))) (pss_cons (ps_for PassesOwn.never rfl (pi_range1 (by rfl) T.b_range (pa_cons pe_int pa_nil)) (pg_name (i := 3) sc_law.nd rfl (Or.inl rfl)) (pss_cons (ps_setLc (i := 4) (own := [("_law_k", 13)]) (g := gName 13) (by rfl) sc_law.nd rfl rfl (sw_true rfl rfl rfl (by decide +kernel)) (pi_range1 (by rfl) T.b_range (pa_cons (pe_call G__law_take (hr.mono (by omega)) rfl T.d__law_take.g T.d__law_take.F.kp T.d__law_take.b .nil pass0 (pa_cons (pv 1) (pa_cons pe_int pa_nil))) pa_nil)) (blkOk_by (own := [("_law_k", 13)]) (N := N_law) (sc := defScope s_law) (by decide +kernel)) (fun _ _ _ _ _ => pg_name (i := 13) sc_law.nd rfl (Or.inl rfl)) (fun _ _ _ _ _ => pts_nil) (fun _ _ _ _ _ => (pe_call G__law_great (hr.mono (by omega)) rfl T.d__law_great.g T.d__law_great.F.kp T.d__law_great.b .nil pass0 (pa_cons (pv 1) (pa_cons (pv 2) pa_nil))))) (pss_cons (ps_if (pt_not (pt_val (pe_callG G__law_put_right hgd (hr.mono (by omega)) rfl T.d__law_put_right.g T.d__law_put_right.F.kp T.d__law_put_right.b .nil pass0 (pa_cons (pv 1) (pa_cons (pv 2) (pa_cons (pv 4) pa_nil)))))) (pss_one (ps_ret pe_bl)) pss_nil) (pss_cons (ps_setLc (i := 5) (own := [("_law_term_here", 14)]) (g := gName 14) (by rfl) sc_law.nd rfl rfl (sw_true rfl rfl rfl (by decide +kernel)) (pi_seq (pv 4)) (blkOk_by (own := [("_law_term_here", 14)]) (N := N_law) (sc := defScope s_law) (by decide +kernel)) (fun _ _ _ _ _ => pg_name (i := 14) sc_law.nd rfl (Or.inl rfl)) (fun _ _ _ _ _ => pts_nil) (fun _ _ _ _ _ => (pe_call G__law_far (hr.mono (by omega)) rfl T.d__law_far.g T.d__law_far.F.kp T.d__law_far.b .nil pass0 (pa_cons (pv 1) (pa_cons (pv 14) pa_nil))))) (pss_cons (ps_set (i := 6) sc_law.nd rfl (Or.inl rfl) (pe_lst (pa_cons (pe_tup (pa_cons (pe_callTy (r := rListOf K) call_listG (by rfl) T.b_list bt_list (pa_cons (pv 4) pa_nil)) (pa_cons (pv 4) pa_nil))) (pa_cons (pe_tup (pa_cons (pe_callTy (r := rListOf K) call_listG (by rfl) T.b_list bt_list (pa_cons (pv 5) pa_nil)) (pa_cons (pv 5) pa_nil))) (pa_cons (pe_tup (pa_cons (pe_callTy (r := rListOf K) call_listG (by rfl) T.b_list bt_list (pa_cons (pv 5) pa_nil)) (pa_cons (pe_callTy (r := rTupOf K) call_tupG (by rfl) T.b_tuple bt_tuple (pa_cons (pv 5) pa_nil)) pa_nil))) pa_nil))))) (pss_one (ps_for PassesOwn.never rfl (pi_range1 (by rfl) T.b_range (pa_cons pe_int pa_nil)) (pg_name (i := 7) sc_law.nd rfl (Or.inl rfl)) (pss_one (ps_for PassesOwn.never rfl (pi_seq (pv 6)) (pg_tup rfl (pgs_cons (pg_name (i := 8) sc_law.nd rfl (Or.inl rfl)) (pgs_cons (pg_name (i := 9) sc_law.nd rfl (Or.inl rfl)) pgs_nil))) (pss_cons (ps_set (i := 10) sc_law.nd rfl (Or.inl rfl) (pe_callB (cr_sortedG rfl) (by rfl) T.b_sorted bt_sorted (pa_cons (pe_callTy (cr_setG rfl) (by rfl) T.b_set bt_set (pa_cons (pe_call G__law_leaves (hr.mono (by omega)) rfl T.d__law_leaves.g T.d__law_leaves.F.kp T.d__law_leaves.b .nil pass0 (pa_cons (pv 8) pa_nil)) pa_nil)) pa_nil))) (pss_cons (ps_set (i := 11) sc_law.nd rfl (Or.inl rfl) (pe_lst (pa_cons (pe_call G__law_size (hr.mono (by omega)) rfl T.d__law_size.g T.d__law_size.F.kp T.d__law_size.b .nil pass0 (pa_cons (pv 8) pa_nil)) (pa_cons (pv 10) (pa_cons (pe_call G__law_numbered (hr.mono (by omega)) rfl T.d__law_numbered.g T.d__law_numbered.F.kp T.d__law_numbered.b .nil pass0 (pa_cons (pv 8) pa_nil)) pa_nil))))) (pss_cons (ps_set (i := 12) sc_law.nd rfl (Or.inl rfl) (pe_lst (pa_cons (pe_call G_size (hr.mono (by omega)) rfl T.d_size.g T.d_size.F.kp T.d_size.b .nil pass0 (pa_cons (pv 9) pa_nil)) (pa_cons (pe_call G_unknowns (hr.mono (by omega)) rfl T.d_unknowns.g T.d_unknowns.F.kp T.d_unknowns.b .nil pass0 (pa_cons (pv 9) pa_nil)) (pa_cons (pe_call G_numbered (hr.mono (by omega)) rfl T.d_numbered.g T.d_numbered.F.kp T.d_numbered.b .nil pass0 (pa_cons (pv 9) pa_nil)) pa_nil))))) (pss_cons (ps_if (PW.pt (pw_or (pt_not (pt_val (pe_callG G__law_alike hgd (hr.mono (by omega)) rfl T.d__law_alike.g T.d__law_alike.F.kp T.d__law_alike.b .nil pass0 (pa_cons (pv 12) (pa_cons (pv 11) pa_nil))))) (pw_or1 (pt_not (pt_val (pe_callG G__law_alike hgd (hr.mono (by omega)) rfl T.d__law_alike.g T.d__law_alike.F.kp T.d__law_alike.b .nil pass0 (pa_cons (pe_callTy (r := rListOf K) call_listG (by rfl) T.b_list bt_list (pa_cons (pv 9) pa_nil)) (pa_cons (pv 8) pa_nil)))))))) (pss_one (ps_ret pe_bl)) pss_nil) (pss_cons (ps_expr (pe_bm PySem.F.plainAttrs_list PySem.F.slot_list_append PySem.F.type_list_append mt_append (pe_ix (r := rIx K) ix_seq (pv 12) pe_int (fun _ _ => rfl)) (pa_cons pe_non pa_nil))) (pss_one (ps_expr (pe_bm0 PySem.F.plainAttrs_list PySem.F.slot_list_reverse PySem.F.type_list_reverse mt_reverse (pe_ix (r := rIx K) ix_seq (pv 12) pe_int (fun _ _ => rfl))))))))))))))))))) (pss_one (ps_ret pe_bl))))), ?_⟩
    refine ⟨.ref a, rfl, a, sns, rfl, hS, hl63, fun H1 b m1 nb hB1 => ?_⟩
    refine ⟨.ref b, rfl, b, 4, rfl, hB1, by decide, by decide, fun nm xs H2 hxl hxN nn en d2 => ?_⟩
    have hN2 : Nms H2 b nm xs := ⟨en, hB1.fneq nn, by rintro rfl; simp at hxl, by omega, hxN⟩
    have hB2 := d2.bag hB1
    refine ⟨4, rfl, by decide, by decide, ?_⟩
    refine for_range (lo := 0) (n := (4 : Int).toNat) (fun i σ H3 => ∃ (y3 y4 y5 y6 y7 y8 y9 y10 y11 y12 : Option V), σ = [some (.ref a), some (.ref b), some (.ref nm), y3, y4, y5, y6, y7, y8, y9, y10, y11, y12, none, none] ∧ Bag H3 b ∧ Nms H3 b nm xs)
      ⟨_, _, _, _, _, _, _, _, _, _, rfl, hB2, hN2⟩ (fun i σ H3 hi h3 => ?_) (fun σ H3 h3 => q H3)
    obtain ⟨y3, y4, y5, y6, y7, y8, y9, y10, y11, y12, rfl, hB3, hN3⟩ := h3
    -- terms
    refine ⟨.ref b, rfl, b, 5, rfl, hB3, by decide, by decide, fun n H4 hn0 hn1 d4 => ⟨n, rfl, by omega, by omega, fun tl nt => ?_⟩⟩
    have hB4 := d4.bag hB3
    have hN4 := hN3.dr d4
    have htb : tl ≠ b := hB4.fneq nt
    refine lc_range (lo := 0) (n := n.toNat) (fun i H5 => ∃ (vs : List V) (us : List Tm), H5 tl = some (.lst vs) ∧ Ims K H5 vs (Tm.ds us) ∧ us.length = i ∧ Grs in5 us ∧ Dr b H4 H5)
      ⟨[], [], upd_same, Ims.nil, rfl, fun t ht => by simp at ht, Dr.new nt⟩ (fun i H5 hi h5 => ?_) (fun H5 h5 => ?_)
    · obtain ⟨vs, us, e5, i5, l5, g5, d5⟩ := h5
      refine ⟨rfl, .ref b, rfl, .ref nm, rfl, b, nm, xs, rfl, d5.bag hB4, hN4.dr d5, fun v t H6 hg him d6 => ?_⟩
      have e6 := d6.get htb e5
      refine ⟨_, e6, ?_, vs ++ [v], us ++ [t], upd_same, ?_, by simp [l5], ?_, (d5.trans d6).wr nt⟩
      · rw [i5.length, Tm.ds_map, List.length_map, l5]
        exact small1000 (by omega)
      · rw [Tm.ds_append]
        exact ((i5.mv d6.mv).append (Ims.cons him Ims.nil)).mv (Mv.set (S := [tl]) e6 (by simp))
      · intro z hz
        rcases List.mem_append.mp hz with hz | hz
        · exact g5 z hz
        · rw [List.mem_singleton.mp hz]
          exact hg
    obtain ⟨vs, us, e5, i5, l5, g5, d5⟩ := h5
    have hB5 := d5.bag hB4
    have hN5 := hN4.dr d5
    have hul : us.length ≤ 4 := by omega
    have hvl : vs.length = us.length := by rw [i5.length, Tm.ds_map, List.length_map]
    -- put is right
    refine ⟨.ref b, rfl, .ref nm, rfl, .ref tl, rfl, b, nm, tl, xs, vs, us, rfl, hB5, hN5, e5, htb, i5, g5, hul, fun H6 d6 => ⟨true, rfl, ?_⟩⟩
    have hB6 := d6.bag hB5
    have hN6 := hN5.dr d6
    have e6 := d6.get htb e5
    have i6 := i5.mv d6.mv
    -- some
    refine ⟨.ref tl, rfl, tl, rfl, Or.inl ⟨⟨_, .inl (.inl e6)⟩, fun sl ns => ?_⟩⟩
    have hsb : sl ≠ b := hB6.fneq ns
    refine lc_list (K := K) (a := tl) (xs := vs) (fun i H7 => ∃ (ws : List V) (fs : List Tm), H7 sl = some (.lst ws) ∧ Ims K H7 ws (Tm.ds fs) ∧ fs.length = i ∧ Grs in4 fs ∧ Dr b H6 H7)
      ⟨[], [], upd_same, Ims.nil, rfl, fun t ht => by simp at ht, Dr.new ns⟩ (fun i H7 _ h7 => ?_) (fun i x H7 hx h7 => ?_) (fun H7 h7 => ?_)
    · obtain ⟨_, _, _, _, _, _, d7⟩ := h7
      exact .inl (.inl (d7.get htb e6))
    · obtain ⟨ws, fs, e7, i7, l7, g7, d7⟩ := h7
      obtain ⟨xd, hxd, him⟩ := i6.get hx
      rw [Tm.ds_map, List.getElem?_map] at hxd
      obtain ⟨t, ht, rfl⟩ := Option.map_eq_some_iff.mp hxd
      have hg := g5 t (List.mem_of_getElem? ht)
      have hi7 := (List.getElem?_eq_some_iff.mp ht).1
      refine ⟨rfl, .ref b, rfl, x, rfl, b, x, t, rfl, d7.bag hB6, him.mv d7.mv, hg, fun v t' H8 hg' him' d8 => ?_⟩
      have e8 := d8.get hsb e7
      refine ⟨_, e8, ?_, ws ++ [v], fs ++ [t'], upd_same, ?_, by simp [l7], ?_, (d7.trans d8).wr ns⟩
      · rw [i7.length, Tm.ds_map, List.length_map, l7]
        exact small1000 (by omega)
      · rw [Tm.ds_append]
        exact ((i7.mv d8.mv).append (Ims.cons him' Ims.nil)).mv (Mv.set (S := [sl]) e8 (by simp))
      · intro z hz
        rcases List.mem_append.mp hz with hz | hz
        · exact g7 z hz
        · rw [List.mem_singleton.mp hz]
          exact hg'
    obtain ⟨ws, fs, e7, i7, l7, g7, d7⟩ := h7
    have hfl : fs.length ≤ 4 := by omega
    have hB7 := d7.bag hB6
    have hN7 := hN6.dr d7
    have et7 := d7.get htb e6
    have it7 := i6.mv d7.mv
    -- the cases
    refine ⟨.ref tl, rfl, ?_⟩
    walk_at "nc"
    refine rd_listOf (.inl (.inl (.inl et7))) fun k1 H8 n8 m8 e8 => ⟨.ref tl, rfl, (by decide : 2 ≤ sizeLine), fun c1 nc1 => ?_⟩
    have m9 : Mv [] H8 (upd H8 c1 (.tup [.ref k1, .ref tl])) := .new nc1
    have s9 : SqT K (upd H8 c1 (.tup [.ref k1, .ref tl])) c1 [.ref k1, .ref tl] := .inl (.inl upd_same)
    generalize upd H8 c1 (.tup [.ref k1, .ref tl]) = H9 at m9 s9 ⊢
    have m79 := m8.trans m9
    refine ⟨.ref sl, rfl, ?_⟩
    walk_at "nc"
    refine rd_listOf (.inl (.inl (.inl (m79.same _ _ e7)))) fun k2 H10 n10 m10 e10 => ⟨.ref sl, rfl, (by decide : 2 ≤ sizeLine), fun c2 nc2 => ?_⟩
    have m11 : Mv [] H10 (upd H10 c2 (.tup [.ref k2, .ref sl])) := .new nc2
    have s11 : SqT K (upd H10 c2 (.tup [.ref k2, .ref sl])) c2 [.ref k2, .ref sl] := .inl (.inl upd_same)
    generalize upd H10 c2 (.tup [.ref k2, .ref sl]) = H11 at m11 s11 ⊢
    have m711 := m79.trans (m10.trans m11)
    refine ⟨.ref sl, rfl, ?_⟩
    walk_at "nc"
    refine rd_listOf (.inl (.inl (.inl (m711.same _ _ e7)))) fun k3 H12 n12 m12 e12 => ⟨.ref sl, rfl, ?_⟩
    have m712 := m711.trans m12
    refine rd_tupOf (.inl (.inl (m712.same _ _ e7))) fun t3 H13 m13 s13 => ⟨(by decide : 2 ≤ sizeLine), fun c3 nc3 => ?_⟩
    have m14 : Mv [] H13 (upd H13 c3 (.tup [.ref k3, .ref t3])) := .new nc3
    have s14 : SqT K (upd H13 c3 (.tup [.ref k3, .ref t3])) c3 [.ref k3, .ref t3] := .inl (.inl upd_same)
    generalize upd H13 c3 (.tup [.ref k3, .ref t3]) = H14 at m14 s14 ⊢
    refine ⟨(by decide : 3 ≤ sizeLine), fun cl ncl => ?_⟩
    have m15 : Mv [] H14 (upd H14 cl (.lst [.ref c1, .ref c2, .ref c3])) := .new ncl
    have e15 : upd H14 cl (.lst [.ref c1, .ref c2, .ref c3]) cl = some (.lst [.ref c1, .ref c2, .ref c3]) := upd_same
    generalize upd H14 cl (.lst [.ref c1, .ref c2, .ref c3]) = H15 at m15 e15 ⊢
    have mA := m13.trans (m14.trans m15)
    have mB := m12.trans mA
    have mC := m11.trans mB
    have mD := m10.trans mC
    have mE := m9.trans mD
    have mF := m8.trans mE
    have hcase : ∀ x ∈ [V.ref c1, V.ref c2, V.ref c3], Case K H15 x := by
      intro x hx
      have fit5 : ∀ i, in5 i → i ∈ [0, 1, 2, 3, 4] := fun i hi => by
        have h1 := hi.1
        have h2 := hi.2
        have : i = 0 ∨ i = 1 ∨ i = 2 ∨ i = 3 ∨ i = 4 := by omega
        simpa using this
      rcases List.mem_cons.mp hx with rfl | hx
      · exact ⟨c1, k1, tl, vs, us, in5, _, rfl, mD.sqT s9, mE.same _ _ e8, .inl (.inl (.inl (mF.same _ _ et7))), it7.mv mF, g5, hul, in5_fit, fit5, by decide⟩
      · rcases List.mem_cons.mp hx with rfl | hx
        · exact ⟨c2, k2, sl, ws, fs, in4, fw4, rfl, mB.sqT s11, mC.same _ _ e10, .inl (.inl (.inl (mF.same _ _ e7))), i7.mv mF, g7, hfl, in4_fit, fun _ h => h, by decide⟩
        · rw [List.mem_singleton.mp hx]
          exact ⟨c3, k3, t3, ws, fs, in4, fw4, rfl, m15.sqT s14, mA.same _ _ e12, .inr ((m14.trans m15).sqT s13), i7.mv mF, g7, hfl, in4_fit, fun _ h => h, by decide⟩
    have hB15 := hB7.mv mF
    have hN15 := hN7.dr (Dr.of mF)
    -- twice
    refine ⟨2, rfl, by decide, by decide, ?_⟩
    refine for_range (lo := 0) (n := (2 : Int).toNat) (fun i σ H16 => ∃ (y3 y7 y8 y9 y10 y11 y12 : Option V), σ = [some (.ref a), some (.ref b), some (.ref nm), y3, some (.ref tl), some (.ref sl), some (.ref cl), y7, y8, y9, y10, y11, y12, none, none] ∧ Mv [] H15 H16)
      ⟨_, _, _, _, _, _, _, rfl, .refl⟩ (fun i2 σ H16 hi2 h16 => ?_) (fun σ H16 h16 => ?_)
    · obtain ⟨y3, y7, y8, y9, y10, y11, y12, rfl, m16⟩ := h16
      refine ⟨.ref cl, rfl, cl, rfl, ?_⟩
      refine for_seq (xs := [.ref c1, .ref c2, .ref c3]) (.inl (.inl (.inl (m16.same _ _ e15)))) (fun i σ H17 => ∃ (y3 y7 y8 y9 y10 y11 y12 : Option V), σ = [some (.ref a), some (.ref b), some (.ref nm), y3, some (.ref tl), some (.ref sl), some (.ref cl), y7, y8, y9, y10, y11, y12, none, none] ∧ Mv [] H16 H17)
        ⟨_, _, _, _, _, _, _, rfl, .refl⟩ (fun i σ H17 h17 => ?_) (fun i x σ H17 hx h17 => ?_) (fun σ H17 h17 => ?_)
      · obtain ⟨_, _, _, _, _, _, _, _, m⟩ := h17
        exact m
      · obtain ⟨y3, y7, y8, y9, y10, y11, y12, rfl, m17⟩ := h17
        have m1517 := m16.trans m17
        obtain ⟨c, kk, hv, ys, us, R, fw, rfl, sc, ek, eh, iy, gR, lR, fitR, fwR, few⟩ := hcase x (List.mem_of_getElem? hx)
        have hcs := gR.csts
        have hdp := gR.deps
        have hok := gR.oks
        have hll := Tm.leaves_le us
        refine ⟨c, _, rfl, m1517.sqT sc, rfl, _, _, rfl, _, _, rfl, rfl, ?_⟩
        have ek17 := m1517.same _ _ ek
        have eh17 : SqL K H17 hv ys ∨ SqT K H17 hv ys := eh.elim (fun h => .inl (m1517.same.seq h)) fun h => .inr (m1517.sqT h)
        have iy17 := iy.mv m1517
        -- known
        refine ⟨.ref kk, rfl, kk, ys, us, rfl, .inl (.inl (.inl ek17)), iy17, by omega, by unfold Tm.nod at hcs; omega, fun p1 H18 n1 m1 e1 => ?_⟩
        refine ⟨p1, Tm.leavesL us, rfl, .inl (.inl e1), by omega, fun p2 n ks n2 hnk hlk hk => ?_⟩
        have hfew : n < 64 := by
          have := nd_few hnk (l := fw) fun k hk1 => fwR k (Tm.oks_leaves us hok k ((hk k).mp hk1))
          omega
        refine Or.inl ⟨p2, _, n, rfl, upd_same, hfew, fun ns p3 hs hm hln n3 => ?_⟩
        have mK := m1.trans ((Mv.new (S := []) n2).trans (Mv.new (o := .lst (ns.map V.int)) n3))
        have hmem : ∀ k, k ∈ ns ↔ k ∈ Tm.leavesL us := fun k => by
          rw [hm k]
          simp
        generalize hH19 : upd (upd H18 p2 _) p3 (.lst (ns.map V.int)) = H19 at mK ⊢
        have eK : H19 p3 = some (.lst (ns.map V.int)) := by rw [← hH19]; exact upd_same
        have hnod : Tm.nod us ≤ 4000 := by omega
        have hokT : Tm.oks (fun _ => True) us := Tm.oks_mono (fun _ _ => trivial) us hok
        -- due
        refine ⟨.ref kk, rfl, kk, ys, us, rfl, .inl (.inl (.inl (mK.same _ _ ek17))), iy17.mv mK, by omega, by omega, hokT, fun H20 m20 => ⟨.ref p3, rfl, .ref kk, rfl, ?_⟩⟩
        have mX20 := mK.trans m20
        refine ⟨kk, ys, us, R, rfl, .inl (.inl (.inl (mX20.same _ _ ek17))), iy17.mv mX20, hok, fitR, by omega, hnod, fun p4 H21 zs n21 m21 e21 i21 => ⟨(by decide : 3 ≤ sizeLine), fun dl ndl => ?_⟩⟩
        have m22 : Mv [] H21 (upd H21 dl (.lst [.int ((Tm.sizes us : Nat) : Int), .ref p3, .ref p4])) := .new ndl
        have e22 : upd H21 dl (.lst [.int ((Tm.sizes us : Nat) : Int), .ref p3, .ref p4]) dl = some (.lst [.int ((Tm.sizes us : Nat) : Int), .ref p3, .ref p4]) := upd_same
        generalize upd H21 dl (.lst [.int ((Tm.sizes us : Nat) : Int), .ref p3, .ref p4]) = H22 at m22 e22 ⊢
        have mX22 := mX20.trans (m21.trans m22)
        have ehX : ∀ {H' : Hp}, Mv [] H17 H' → SqL K H' hv ys ∨ SqT K H' hv ys := fun m => eh17.elim (fun h => .inl (m.same.seq h)) fun h => .inr (m.sqT h)
        -- told
        refine ⟨.ref hv, rfl, hv, ys, us, R, rfl, ehX mX22, iy17.mv mX22, hok, fitR, by omega, by omega, fun H23 m23 => ⟨.ref hv, rfl, ?_⟩⟩
        have mX23 := mX22.trans m23
        refine ⟨hv, ys, us, R, fw, rfl, ehX mX23, iy17.mv mX23, hok, fitR, by omega, hnod, fwR, few, fun up H24 ns' n24 m24 e24 hs' hm' => ⟨.ref hv, rfl, ?_⟩⟩
        have hns : ns' = ns := asc_eq hs' hs fun k => (hm' k).trans (hmem k).symm
        subst hns
        have mX24 := mX23.trans m24
        refine ⟨hv, ys, us, R, rfl, ehX mX24, iy17.mv mX24, hok, fitR, by omega, hnod, fun np H25 zs' n25 m25 e25 i25 => ⟨(by decide : 3 ≤ sizeLine), fun ol nol => ?_⟩⟩
        have m26 : Mv [] H25 (upd H25 ol (.lst [.int ((Tm.sizes us : Nat) : Int), .ref up, .ref np])) := .new nol
        have e26 : upd H25 ol (.lst [.int ((Tm.sizes us : Nat) : Int), .ref up, .ref np]) ol = some (.lst [.int ((Tm.sizes us : Nat) : Int), .ref up, .ref np]) := upd_same
        generalize upd H25 ol (.lst [.int ((Tm.sizes us : Nat) : Int), .ref up, .ref np]) = H26 at m26 e26 ⊢
        have mX25 := mX24.trans m25
        have mX26 := mX25.trans m26
        have fup : H17 up = none := mX23.free n24
        have fnp : H17 np = none := mX24.free n25
        have eup25 := m25.same _ _ e24
        have nup : up ≠ np := ne_of_none e24 n25
        have nuo : up ≠ ol := ne_of_none eup25 nol
        have nno : np ≠ ol := ne_of_none e25 nol
        have eup26 := m26.same _ _ eup25
        have enp26 := m26.same _ _ e25
        have m2226 := m23.trans (m24.trans (m25.trans m26))
        have mK26 := m20.trans (m21.trans (m22.trans m2226))
        have dp1 : Dp K H26 (.ref ol) (toldD us ns') := .lst (.inl (.inl e26)) (.cons (.int _) (.cons (.lst (.inl (.inl eup26)) (dp_ints ns')) (.cons (.lst (.inl (.inl enp26)) (i25.mv m26).dp) .nil)))
        have dp2 : Dp K H26 (.ref dl) (toldD us ns') := .lst (.inl (.inl (m2226.same _ _ e22))) (.cons (.int _) (.cons (.lst (.inl (.inl (mK26.same _ _ eK))) (dp_ints ns')) (.cons (.lst (.inl (.inl ((m22.trans m2226).same _ _ e21))) (i21.mv (m22.trans m2226)).dp) .nil)))
        refine ⟨.ref ol, rfl, .ref dl, rfl, .ref ol, .ref dl, toldD us ns', rfl, dp1, dp2, told_shw gR lR fitR fwR few hs hmem, true, rfl, .ref hv, rfl, ?_⟩
        walk_at "nc"
        refine rd_listOf (ehX mX26) fun lq H27 n27 m27 e27 => ?_
        have mX27 := mX26.trans m27
        have hsl := Grs.shw fitR gR (by omega)
        have hshl : Shw (.list (Tm.ds us)) := ⟨hsl.1, by simp only [PyData.depth]; omega, by simp only [wl]; omega⟩
        refine ⟨.ref kk, rfl, .ref lq, .ref kk, .list (Tm.ds us), rfl, .lst (.inl (.inl e27)) (iy17.mv mX27).dp, .lst (.inl (.inl (mX27.same _ _ ek17))) (iy17.mv mX27).dp, hshl, true, rfl, ?_⟩
        -- told[1].append(None)
        have e27o := m27.same _ _ e26
        have e27u := m27.same _ _ eup26
        have e27n := m27.same _ _ enp26
        refine ⟨.ref ol, rfl, rd_ixL (.inl (.inl e27o)) (by decide) (v := .ref up) rfl ⟨.inl ⟨rfl, _, .inl (.inl e27u)⟩, up, _, .non, rfl, rfl, e27u, ?_, ?_⟩⟩
        · rw [List.length_map]
          have := nd_few (asc_nd hs) fun k hk => fwR k (Tm.oks_leaves us hok k ((hmem k).mp hk))
          exact small1000 (by omega)
        · refine ⟨.ref ol, rfl, rd_ixL (.inl (.inl (by rw [upd_ne nuo.symm]; exact e27o))) (by decide) (v := .ref np) rfl ⟨.inl ⟨rfl, _, .inl (.inl (by rw [upd_ne nup.symm]; exact e27n))⟩, np, _, rfl, rfl, by rw [upd_ne nup.symm]; exact e27n, ?_⟩⟩
          exact ⟨_, _, _, _, _, _, _, rfl, m17.trans ((mX27.wr fup).wr fnp)⟩
      · obtain ⟨y3, y7, y8, y9, y10, y11, y12, rfl, m17⟩ := h17
        exact ⟨_, _, _, _, _, _, _, rfl, m16.trans m17⟩
    · obtain ⟨y3, y7, y8, y9, y10, y11, y12, rfl, m16⟩ := h16
      exact ⟨_, _, _, _, _, _, _, _, _, _, rfl, hB15.mv m16, hN15.dr (Dr.of m16)⟩
end
end Fm
namespace Fm
open PySem PySem.Spec PyProof.Rows L2
section
variable {l : PySem.W.OpenLaw} {w : World} {K : PySem.W.Frag} {mg : Str → Option Value} {fa : Addr}
theorem all_mk {h : Heap} (X : K.In h) (G : h.Ns mainGlobals mg) (hfa : mg "law" = some (.ref fa))
    {f0 : Addr} {od0 an0 : Option Addr} {sl0 : Array (Option Value)} {oc0 kV0 dc0 pm0 cd0 ct0 : Value}
    (a0 : PySem.W.nsIn K mainGlobals "put" = some (some (.ref f0))) (l0 : K.lookup f0 = some ⟨oc0, od0, .func (PySem.W.fnOf "put" "put" (defArgs s_put) (defBody s_put) (defScope s_put) .none kV0 dc0 pm0 an0 cd0 ct0), sl0⟩) (c0 : PySem.W.codeIn K cd0 "put" = true) (k0 : PySem.W.keepIn K (.ref f0) = true)
    {f1 : Addr} {od1 an1 : Option Addr} {sl1 : Array (Option Value)} {oc1 kV1 dc1 pm1 cd1 ct1 : Value}
    (a1 : PySem.W.nsIn K mainGlobals "size" = some (some (.ref f1))) (l1 : K.lookup f1 = some ⟨oc1, od1, .func (PySem.W.fnOf "size" "size" (defArgs s_size) (defBody s_size) (defScope s_size) .none kV1 dc1 pm1 an1 cd1 ct1), sl1⟩) (c1 : PySem.W.codeIn K cd1 "size" = true) (k1 : PySem.W.keepIn K (.ref f1) = true)
    {f2 : Addr} {od2 an2 : Option Addr} {sl2 : Array (Option Value)} {oc2 kV2 dc2 pm2 cd2 ct2 : Value}
    (a2 : PySem.W.nsIn K mainGlobals "leaves" = some (some (.ref f2))) (l2 : K.lookup f2 = some ⟨oc2, od2, .func (PySem.W.fnOf "leaves" "leaves" (defArgs s_leaves) (defBody s_leaves) (defScope s_leaves) .none kV2 dc2 pm2 an2 cd2 ct2), sl2⟩) (c2 : PySem.W.codeIn K cd2 "leaves" = true) (k2 : PySem.W.keepIn K (.ref f2) = true)
    {f3 : Addr} {od3 an3 : Option Addr} {sl3 : Array (Option Value)} {oc3 kV3 dc3 pm3 cd3 ct3 : Value}
    (a3 : PySem.W.nsIn K mainGlobals "unknowns" = some (some (.ref f3))) (l3 : K.lookup f3 = some ⟨oc3, od3, .func (PySem.W.fnOf "unknowns" "unknowns" (defArgs s_unknowns) (defBody s_unknowns) (defScope s_unknowns) .none kV3 dc3 pm3 an3 cd3 ct3), sl3⟩) (c3 : PySem.W.codeIn K cd3 "unknowns" = true) (k3 : PySem.W.keepIn K (.ref f3) = true)
    {f4 : Addr} {od4 an4 : Option Addr} {sl4 : Array (Option Value)} {oc4 kV4 dc4 pm4 cd4 ct4 : Value}
    (a4 : PySem.W.nsIn K mainGlobals "numbered" = some (some (.ref f4))) (l4 : K.lookup f4 = some ⟨oc4, od4, .func (PySem.W.fnOf "numbered" "numbered" (defArgs s_numbered) (defBody s_numbered) (defScope s_numbered) .none kV4 dc4 pm4 an4 cd4 ct4), sl4⟩) (c4 : PySem.W.codeIn K cd4 "numbered" = true) (k4 : PySem.W.keepIn K (.ref f4) = true)
    {f5 : Addr} {od5 an5 : Option Addr} {sl5 : Array (Option Value)} {oc5 kV5 dc5 pm5 cd5 ct5 : Value}
    (a5 : PySem.W.nsIn K mainGlobals "_law_bag" = some (some (.ref f5))) (l5 : K.lookup f5 = some ⟨oc5, od5, .func (PySem.W.fnOf "_law_bag" "_law_bag" (defArgs s__law_bag) (defBody s__law_bag) (defScope s__law_bag) .none kV5 dc5 pm5 an5 cd5 ct5), sl5⟩) (c5 : PySem.W.codeIn K cd5 "_law_bag" = true) (k5 : PySem.W.keepIn K (.ref f5) = true)
    {f6 : Addr} {od6 an6 : Option Addr} {sl6 : Array (Option Value)} {oc6 kV6 dc6 pm6 cd6 ct6 : Value}
    (a6 : PySem.W.nsIn K mainGlobals "_law_take" = some (some (.ref f6))) (l6 : K.lookup f6 = some ⟨oc6, od6, .func (PySem.W.fnOf "_law_take" "_law_take" (defArgs s__law_take) (defBody s__law_take) (defScope s__law_take) .none kV6 dc6 pm6 an6 cd6 ct6), sl6⟩) (c6 : PySem.W.codeIn K cd6 "_law_take" = true) (k6 : PySem.W.keepIn K (.ref f6) = true)
    {f7 : Addr} {od7 an7 : Option Addr} {sl7 : Array (Option Value)} {oc7 kV7 dc7 pm7 cd7 ct7 : Value}
    (a7 : PySem.W.nsIn K mainGlobals "_law_alike" = some (some (.ref f7))) (l7 : K.lookup f7 = some ⟨oc7, od7, .func (PySem.W.fnOf "_law_alike" "_law_alike" (defArgs s__law_alike) (defBody s__law_alike) (defScope s__law_alike) .none kV7 dc7 pm7 an7 cd7 ct7), sl7⟩) (c7 : PySem.W.codeIn K cd7 "_law_alike" = true) (k7 : PySem.W.keepIn K (.ref f7) = true)
    {f8 : Addr} {od8 an8 : Option Addr} {sl8 : Array (Option Value)} {oc8 kV8 dc8 pm8 cd8 ct8 : Value}
    (a8 : PySem.W.nsIn K mainGlobals "_law_names" = some (some (.ref f8))) (l8 : K.lookup f8 = some ⟨oc8, od8, .func (PySem.W.fnOf "_law_names" "_law_names" (defArgs s__law_names) (defBody s__law_names) (defScope s__law_names) .none kV8 dc8 pm8 an8 cd8 ct8), sl8⟩) (c8 : PySem.W.codeIn K cd8 "_law_names" = true) (k8 : PySem.W.keepIn K (.ref f8) = true)
    {f9 : Addr} {od9 an9 : Option Addr} {sl9 : Array (Option Value)} {oc9 kV9 dc9 pm9 cd9 ct9 : Value}
    (a9 : PySem.W.nsIn K mainGlobals "_law_term" = some (some (.ref f9))) (l9 : K.lookup f9 = some ⟨oc9, od9, .func (PySem.W.fnOf "_law_term" "_law_term" (defArgs s__law_term) (defBody s__law_term) (defScope s__law_term) .none kV9 dc9 pm9 an9 cd9 ct9), sl9⟩) (c9 : PySem.W.codeIn K cd9 "_law_term" = true) (k9 : PySem.W.keepIn K (.ref f9) = true)
    {f10 : Addr} {od10 an10 : Option Addr} {sl10 : Array (Option Value)} {oc10 kV10 dc10 pm10 cd10 ct10 : Value}
    (a10 : PySem.W.nsIn K mainGlobals "_law_put" = some (some (.ref f10))) (l10 : K.lookup f10 = some ⟨oc10, od10, .func (PySem.W.fnOf "_law_put" "_law_put" (defArgs s__law_put) (defBody s__law_put) (defScope s__law_put) .none kV10 dc10 pm10 an10 cd10 ct10), sl10⟩) (c10 : PySem.W.codeIn K cd10 "_law_put" = true) (k10 : PySem.W.keepIn K (.ref f10) = true)
    {f11 : Addr} {od11 an11 : Option Addr} {sl11 : Array (Option Value)} {oc11 kV11 dc11 pm11 cd11 ct11 : Value}
    (a11 : PySem.W.nsIn K mainGlobals "_law_leaves" = some (some (.ref f11))) (l11 : K.lookup f11 = some ⟨oc11, od11, .func (PySem.W.fnOf "_law_leaves" "_law_leaves" (defArgs s__law_leaves) (defBody s__law_leaves) (defScope s__law_leaves) .none kV11 dc11 pm11 an11 cd11 ct11), sl11⟩) (c11 : PySem.W.codeIn K cd11 "_law_leaves" = true) (k11 : PySem.W.keepIn K (.ref f11) = true)
    {f12 : Addr} {od12 an12 : Option Addr} {sl12 : Array (Option Value)} {oc12 kV12 dc12 pm12 cd12 ct12 : Value}
    (a12 : PySem.W.nsIn K mainGlobals "_law_size" = some (some (.ref f12))) (l12 : K.lookup f12 = some ⟨oc12, od12, .func (PySem.W.fnOf "_law_size" "_law_size" (defArgs s__law_size) (defBody s__law_size) (defScope s__law_size) .none kV12 dc12 pm12 an12 cd12 ct12), sl12⟩) (c12 : PySem.W.codeIn K cd12 "_law_size" = true) (k12 : PySem.W.keepIn K (.ref f12) = true)
    {f13 : Addr} {od13 an13 : Option Addr} {sl13 : Array (Option Value)} {oc13 kV13 dc13 pm13 cd13 ct13 : Value}
    (a13 : PySem.W.nsIn K mainGlobals "_law_numbered" = some (some (.ref f13))) (l13 : K.lookup f13 = some ⟨oc13, od13, .func (PySem.W.fnOf "_law_numbered" "_law_numbered" (defArgs s__law_numbered) (defBody s__law_numbered) (defScope s__law_numbered) .none kV13 dc13 pm13 an13 cd13 ct13), sl13⟩) (c13 : PySem.W.codeIn K cd13 "_law_numbered" = true) (k13 : PySem.W.keepIn K (.ref f13) = true)
    {f14 : Addr} {od14 an14 : Option Addr} {sl14 : Array (Option Value)} {oc14 kV14 dc14 pm14 cd14 ct14 : Value}
    (a14 : PySem.W.nsIn K mainGlobals "_law_great" = some (some (.ref f14))) (l14 : K.lookup f14 = some ⟨oc14, od14, .func (PySem.W.fnOf "_law_great" "_law_great" (defArgs s__law_great) (defBody s__law_great) (defScope s__law_great) .none kV14 dc14 pm14 an14 cd14 ct14), sl14⟩) (c14 : PySem.W.codeIn K cd14 "_law_great" = true) (k14 : PySem.W.keepIn K (.ref f14) = true)
    {f15 : Addr} {od15 an15 : Option Addr} {sl15 : Array (Option Value)} {oc15 kV15 dc15 pm15 cd15 ct15 : Value}
    (a15 : PySem.W.nsIn K mainGlobals "_law_far" = some (some (.ref f15))) (l15 : K.lookup f15 = some ⟨oc15, od15, .func (PySem.W.fnOf "_law_far" "_law_far" (defArgs s__law_far) (defBody s__law_far) (defScope s__law_far) .none kV15 dc15 pm15 an15 cd15 ct15), sl15⟩) (c15 : PySem.W.codeIn K cd15 "_law_far" = true) (k15 : PySem.W.keepIn K (.ref f15) = true)
    {f16 : Addr} {od16 an16 : Option Addr} {sl16 : Array (Option Value)} {oc16 kV16 dc16 pm16 cd16 ct16 : Value}
    (a16 : PySem.W.nsIn K mainGlobals "_law_put_right" = some (some (.ref f16))) (l16 : K.lookup f16 = some ⟨oc16, od16, .func (PySem.W.fnOf "_law_put_right" "_law_put_right" (defArgs s__law_put_right) (defBody s__law_put_right) (defScope s__law_put_right) .none kV16 dc16 pm16 an16 cd16 ct16), sl16⟩) (c16 : PySem.W.codeIn K cd16 "_law_put_right" = true) (k16 : PySem.W.keepIn K (.ref f16) = true)
    {f17 : Addr} {od17 an17 : Option Addr} {sl17 : Array (Option Value)} {oc17 kV17 dc17 pm17 cd17 ct17 : Value}
    (a17 : PySem.W.nsIn K mainGlobals "law" = some (some (.ref f17))) (l17 : K.lookup f17 = some ⟨oc17, od17, .func (PySem.W.fnOf "law" "law" (defArgs s_law) (defBody s_law) (defScope s_law) .none kV17 dc17 pm17 an17 cd17 ct17), sl17⟩) (c17 : PySem.W.codeIn K cd17 "law" = true) (k17 : PySem.W.keepIn K (.ref f17) = true)
    (z0 : PySem.W.nsIn K mainGlobals "abs" = some none)
    (z1 : PySem.W.nsIn K mainGlobals "dict" = some none)
    (z2 : PySem.W.nsIn K mainGlobals "int" = some none)
    (z3 : PySem.W.nsIn K mainGlobals "isinstance" = some none)
    (z4 : PySem.W.nsIn K mainGlobals "len" = some none)
    (z5 : PySem.W.nsIn K mainGlobals "list" = some none)
    (z6 : PySem.W.nsIn K mainGlobals "range" = some none)
    (z7 : PySem.W.nsIn K mainGlobals "repr" = some none)
    (z8 : PySem.W.nsIn K mainGlobals "set" = some none)
    (z9 : PySem.W.nsIn K mainGlobals "sorted" = some none)
    (z10 : PySem.W.nsIn K mainGlobals "sum" = some none)
    (z11 : PySem.W.nsIn K mainGlobals "tuple" = some none)
    : ∃ fd : FuncData, (∀ (t : Shared) (u : Value), BindsTo t fd ⟨[u], []⟩ [("_law_script", u)]) ∧ ∀ base : Heap, K.In base → base.Ns mainGlobals mg → FnOkG l.prog w K mg base CX0 54 fa fd P_law (sp_law K) := by
  have e := hfa.symm.trans (PySem.W.mg_of X G a17)
  cases e
  exact ⟨_, fun s v => .of_eq rfl, fun base _ _ => ok_law (T := {
    d_put := ⟨_, _, fun_mk l0 c0 k0, PySem.W.mg_of X G a0, (fun_mk l0 c0 k0).binds fun _ _ _ _ _ _ us hl => match us, hl with | [_, _], _ => rfl⟩
    d_size := ⟨_, _, fun_mk l1 c1 k1, PySem.W.mg_of X G a1, (fun_mk l1 c1 k1).binds fun _ _ _ _ _ _ us hl => match us, hl with | [_], _ => rfl⟩
    d_leaves := ⟨_, _, fun_mk l2 c2 k2, PySem.W.mg_of X G a2, (fun_mk l2 c2 k2).binds fun _ _ _ _ _ _ us hl => match us, hl with | [_], _ => rfl⟩
    d_unknowns := ⟨_, _, fun_mk l3 c3 k3, PySem.W.mg_of X G a3, (fun_mk l3 c3 k3).binds fun _ _ _ _ _ _ us hl => match us, hl with | [_], _ => rfl⟩
    d_numbered := ⟨_, _, fun_mk l4 c4 k4, PySem.W.mg_of X G a4, (fun_mk l4 c4 k4).binds fun _ _ _ _ _ _ us hl => match us, hl with | [_], _ => rfl⟩
    d__law_bag := ⟨_, _, fun_mk l5 c5 k5, PySem.W.mg_of X G a5, (fun_mk l5 c5 k5).binds fun _ _ _ _ _ _ us hl => match us, hl with | [_], _ => rfl⟩
    d__law_take := ⟨_, _, fun_mk l6 c6 k6, PySem.W.mg_of X G a6, (fun_mk l6 c6 k6).binds fun _ _ _ _ _ _ us hl => match us, hl with | [_, _], _ => rfl⟩
    d__law_alike := ⟨_, _, fun_mk l7 c7 k7, PySem.W.mg_of X G a7, (fun_mk l7 c7 k7).binds fun _ _ _ _ _ _ us hl => match us, hl with | [_, _], _ => rfl⟩
    d__law_names := ⟨_, _, fun_mk l8 c8 k8, PySem.W.mg_of X G a8, (fun_mk l8 c8 k8).binds fun _ _ _ _ _ _ us hl => match us, hl with | [_, _], _ => rfl⟩
    d__law_term := ⟨_, _, fun_mk l9 c9 k9, PySem.W.mg_of X G a9, (fun_mk l9 c9 k9).binds fun _ _ _ _ _ _ us hl => match us, hl with | [_, _, _, _], _ => rfl⟩
    d__law_put := ⟨_, _, fun_mk l10 c10 k10, PySem.W.mg_of X G a10, (fun_mk l10 c10 k10).binds fun _ _ _ _ _ _ us hl => match us, hl with | [_, _], _ => rfl⟩
    d__law_leaves := ⟨_, _, fun_mk l11 c11 k11, PySem.W.mg_of X G a11, (fun_mk l11 c11 k11).binds fun _ _ _ _ _ _ us hl => match us, hl with | [_], _ => rfl⟩
    d__law_size := ⟨_, _, fun_mk l12 c12 k12, PySem.W.mg_of X G a12, (fun_mk l12 c12 k12).binds fun _ _ _ _ _ _ us hl => match us, hl with | [_], _ => rfl⟩
    d__law_numbered := ⟨_, _, fun_mk l13 c13 k13, PySem.W.mg_of X G a13, (fun_mk l13 c13 k13).binds fun _ _ _ _ _ _ us hl => match us, hl with | [_], _ => rfl⟩
    d__law_great := ⟨_, _, fun_mk l14 c14 k14, PySem.W.mg_of X G a14, (fun_mk l14 c14 k14).binds fun _ _ _ _ _ _ us hl => match us, hl with | [_, _], _ => rfl⟩
    d__law_far := ⟨_, _, fun_mk l15 c15 k15, PySem.W.mg_of X G a15, (fun_mk l15 c15 k15).binds fun _ _ _ _ _ _ us hl => match us, hl with | [_, _], _ => rfl⟩
    d__law_put_right := ⟨_, _, fun_mk l16 c16 k16, PySem.W.mg_of X G a16, (fun_mk l16 c16 k16).binds fun _ _ _ _ _ _ us hl => match us, hl with | [_, _, _], _ => rfl⟩
    d_law := ⟨_, _, fun_mk l17 c17 k17, PySem.W.mg_of X G a17, (fun_mk l17 c17 k17).binds fun _ _ _ _ _ _ us hl => match us, hl with | [_], _ => rfl⟩
    b_abs := PySem.W.mg_none_of X G z0
    b_dict := PySem.W.mg_none_of X G z1
    b_int := PySem.W.mg_none_of X G z2
    b_isinstance := PySem.W.mg_none_of X G z3
    b_len := PySem.W.mg_none_of X G z4
    b_list := PySem.W.mg_none_of X G z5
    b_range := PySem.W.mg_none_of X G z6
    b_repr := PySem.W.mg_none_of X G z7
    b_set := PySem.W.mg_none_of X G z8
    b_sorted := PySem.W.mg_none_of X G z9
    b_sum := PySem.W.mg_none_of X G z10
    b_tuple := PySem.W.mg_none_of X G z11
  })⟩
end
end Fm
open PySem PySem.W PyProof.Rows
set_option maxHeartbeats 0 in
theorem PySem.Challenge.cw_framemoves_k12_terms_put_in_holds : PySem.Challenge.rw_framemoves_k12_terms_put_in.Holds := by
  w_on; o_law; k_head; (case hw => w_witness2)
  k_fill
  refine Fm.walk_G (l := PySem.Challenge.rw_framemoves_k12_terms_put_in) (n := 63) (k := 54) (x := "_law_script") (sp := Fm.sp_law) rfl (by decide) rfl ⟨rfl, by decide, by decide⟩ (fun w h Y => PySem.W.kIn_of Y) ?F (fun K H a ns hl hS => ⟨a, ns, rfl, hS, hl, fun _ => rfl⟩)
  case F =>
    intro w mg fa h KX G hmg
    refine' Fm.all_mk KX G hmg ?a0 ?l0 ?c0 ?k0 ?a1 ?l1 ?c1 ?k1 ?a2 ?l2 ?c2 ?k2 ?a3 ?l3 ?c3 ?k3 ?a4 ?l4 ?c4 ?k4 ?a5 ?l5 ?c5 ?k5 ?a6 ?l6 ?c6 ?k6 ?a7 ?l7 ?c7 ?k7 ?a8 ?l8 ?c8 ?k8 ?a9 ?l9 ?c9 ?k9 ?a10 ?l10 ?c10 ?k10 ?a11 ?l11 ?c11 ?k11 ?a12 ?l12 ?c12 ?k12 ?a13 ?l13 ?c13 ?k13 ?a14 ?l14 ?c14 ?k14 ?a15 ?l15 ?c15 ?k15 ?a16 ?l16 ?c16 ?k16 ?a17 ?l17 ?c17 ?k17 ?z0 ?z1 ?z2 ?z3 ?z4 ?z5 ?z6 ?z7 ?z8 ?z9 ?z10 ?z11
    (case a0 => k_is); (case l0 => k_is); (case c0 => k_is); (case k0 => k_is); (case a1 => k_is); (case l1 => k_is); (case c1 => k_is); (case k1 => k_is); (case a2 => k_is); (case l2 => k_is); (case c2 => k_is); (case k2 => k_is); (case a3 => k_is); (case l3 => k_is); (case c3 => k_is); (case k3 => k_is); (case a4 => k_is); (case l4 => k_is); (case c4 => k_is); (case k4 => k_is); (case a5 => k_is); (case l5 => k_is); (case c5 => k_is); (case k5 => k_is); (case a6 => k_is); (case l6 => k_is); (case c6 => k_is); (case k6 => k_is); (case a7 => k_is); (case l7 => k_is); (case c7 => k_is); (case k7 => k_is); (case a8 => k_is); (case l8 => k_is); (case c8 => k_is); (case k8 => k_is); (case a9 => k_is); (case l9 => k_is); (case c9 => k_is); (case k9 => k_is); (case a10 => k_is); (case l10 => k_is); (case c10 => k_is); (case k10 => k_is); (case a11 => k_is); (case l11 => k_is); (case c11 => k_is); (case k11 => k_is); (case a12 => k_is); (case l12 => k_is); (case c12 => k_is); (case k12 => k_is); (case a13 => k_is); (case l13 => k_is); (case c13 => k_is); (case k13 => k_is); (case a14 => k_is); (case l14 => k_is); (case c14 => k_is); (case k14 => k_is); (case a15 => k_is); (case l15 => k_is); (case c15 => k_is); (case k15 => k_is); (case a16 => k_is); (case l16 => k_is); (case c16 => k_is); (case k16 => k_is); (case a17 => k_is); (case l17 => k_is); (case c17 => k_is); (case k17 => k_is); (case z0 => k_is); (case z1 => k_is); (case z2 => k_is); (case z3 => k_is); (case z4 => k_is); (case z5 => k_is); (case z6 => k_is); (case z7 => k_is); (case z8 => k_is); (case z9 => k_is); (case z10 => k_is); (case z11 => k_is)
